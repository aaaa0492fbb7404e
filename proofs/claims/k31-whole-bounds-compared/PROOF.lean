import PyProof.Rows.All
import Wide.All
import OpenK.AllK
import Wide.FinOn
import KE.KFromBytes
import HandS.ForMost
import KE.KExcSuper
import HandS.ExcInit
import HandS.ExcOwn
import HandS.More
import HandS.OwnEq
import PyProof.InstSpecial
import PyProof.MeetsIn
import PyProof.Rows.Range3
import HandS.Walk
import HandS.Steps
import HandS.Evl
import HandS.Zip
import HandS.IsInst
import HandS.Wide
import HandS.TupAny
import HandS.SortInts
import KE.LtData
import KE.DataEq
import HandS.Codes
import KE.DataMinMax
import HandS.Strs
import HandS.SetFor
import HandS.Text
import HandS.Property
import HandS.Star
import HandS.FStr
import HandS.ClsMeth
import HandS.TryOnly
import HandS.Style
import HandS.MakeKwOnly
import HandS.ExcField
import HandS.HotCalls
import HandS.TryMany
import HandS.WordsExc
import HandS.CallSlots
import KE.KTryMore
import HandS.Lambda
import HandS.EndOwn
import KE.KDflt
import KE.KNestM
import KE.IntTextText
import HandS.Deep
import HandS.Conv
import HandS.ExcInitHot
import PySem.Challenge.RW_eachentry_k31_whole_bounds_compared
set_option Elab.async false
set_option linter.all false
set_option maxRecDepth 100000
set_option maxHeartbeats 3000000
/-! Own exceptions over ValueError: class C(..): def __init__(self, f): super().__init__("C"); self.f = f; self.code = "C". -/
namespace PySem
namespace ExN
open PyProof.Rows PySem.W PySem.HandSPX PySem.Calls
def iA (fl : Str) (p1 p2 : Pos) : Arguments := { posonlyargs := [], args := [{ arg := "self", annotation := none, pos := p1 }, { arg := fl, annotation := none, pos := p2 }], vararg := none, kwonlyargs := [], kw_defaults := [], kwarg := none, defaults := [] }
def iB (nm fl : Str) (a b c d e f g h i j k l m n : Pos) : List Stmt :=
  [.Expr (.Call (.Attribute (.Call (.Name "super" a) [] [] b) "__init__" c) [.Constant (.str nm) 0 d] [] e) f,
   .Assign [.Attribute (.Name "self" g) fl h] (.Name fl i) j,
   .Assign [.Attribute (.Name "self" k) "code" l] (.Constant (.str nm) 0 m) n]
def iS (fl : Str) : Scope := { kind := .function, names := [("self", .local), (fl, .local), ("__class__", .free), ("super", .globalImplicit)], isGenerator := false, isCoroutine := false, more := [] }
/-- a field's name that stands in no other's way -/
structure Fld (fl : Str) : Prop where
  bd : ∀ (qual : Str) (p1 p2 : Pos) (body : List Stmt) (doc pm : Value) (an : Option Addr) (cdv ct : Value) (cc : Addr) (x v : Value), bindArgs (ksFn "__init__" qual (iA fl p1 p2) body (iS fl) .none .none doc pm an cdv ct cc) ⟨[x, v], []⟩ = pure [(("self" : Str), x), (fl, v)]
  lo : (iS fl).names.lookup fl = some .local
  s0 : (iS fl).names.lookup ("self" : Str) = some .local
  s2 : (iS fl).names.lookup ("__class__" : Str) = some .free
  s3 : (iS fl).names.lookup ("super" : Str) = some .globalImplicit
  ne : fl ≠ "self" ∧ fl ≠ "code"
  db : (fl == ("__debug__" : Str)) = false
theorem fld_given : Fld "given" := ⟨fun _ _ _ _ _ _ _ _ _ _ _ _ => rfl, rfl, rfl, rfl, rfl, ⟨by decide, by decide⟩, by decide⟩
theorem fld_at : Fld "at" := ⟨fun _ _ _ _ _ _ _ _ _ _ _ _ => rfl, rfl, rfl, rfl, rfl, ⟨by decide, by decide⟩, by decide⟩
theorem fld_most : Fld "most" := ⟨fun _ _ _ _ _ _ _ _ _ _ _ _ => rfl, rfl, rfl, rfl, rfl, ⟨by decide, by decide⟩, by decide⟩
theorem fld_name : Fld "name" := ⟨fun _ _ _ _ _ _ _ _ _ _ _ _ => rfl, rfl, rfl, rfl, rfl, ⟨by decide, by decide⟩, by decide⟩
theorem fld_line : Fld "line" := ⟨fun _ _ _ _ _ _ _ _ _ _ _ _ => rfl, rfl, rfl, rfl, rfl, ⟨by decide, by decide⟩, by decide⟩
/-- what the written part tells of the class C of the name nm, of its __init__ at fI, of its field fl -/
structure Txt (P : Program) (K : Frag) (nm fl : Str) (C fI : Addr) : Prop where
  cls : ∃ cn q N bs bm sn sub ab col dd k0 k1 k2 k3 k5, K.lookup C = some (excClassObj cn q C N bs bm true sn sub ab col dd k0 k1 k2 k3 k5 "ValueError.__new__") ∧ refsVE bm = true
  sa : findIn K (.ref C) "__setattr__" = some (some (.builtin "object.__setattr__"))
  iC : findIn K (.ref C) "__init__" = some (some (.ref fI))
  tI : typeIn K (.ref fI) = some (.type "function")
  kC : keepIn K (.ref C) = true
  exC : subIn K (.ref C) (.type "BaseException") = some true
  tyC : typeIn K (.ref C) = some (.type "type")
  noF : findIn K (.ref C) fl = some none
  noC : findIn K (.ref C) "code" = some none
  sup : ks_superIn K C C "__init__" = some (some (.builtin "ValueError.__init__"))
  vB : subIn K (.ref C) (.type "ValueError") = some true
  mC : mroIn K C (.ref C) = some true
  tp : nsIn K cStatics "thirdparty.any" = some none
  fd : Fld fl
  top : (P.main.scope.names.lookup ("super" : Str)).isSome = false
  fn : ∃ (oc : Value) (od : Option Addr) (doc pm : Value) (an : Option Addr) (cda : Addr) (ct : Value) (osl : Array (Option Value)) (cc : Addr) (qual : Str) (p1 p2 a b c d e f g h i j k l m n : Pos),
    K.lookup fI = some ⟨oc, od, .func (ksFn "__init__" qual (iA fl p1 p2) (iB nm fl a b c d e f g h i j k l m n) (iS fl) .none .none doc pm an (.ref cda) ct cc), osl⟩ ∧ codeIn K (.ref cda) qual = true ∧
    (c.endLine == e.line) = true ∧ (∃ ccl cdd vs ccs file tf, K.lookup cda = some ⟨ccl, cdd, .fields vs, ccs⟩ ∧ vs[2]? = some (.str file tf) ∧ ((P.main.file : Str) == file) = true) ∧
    ∃ cl cld csl, K.lookup cc = some ⟨cl, cld, .cell (some (.ref C)), csl⟩
theorem kept_but {K : Frag} {h h' : Heap} {x : Addr} (X : K.In h) (hx : K.lookup x = none) (k : ∀ b o, b ≠ x → h.get? b = some o → h'.get? b = some o) : K.In h' := fun a o e =>
  k a o (fun z => by rw [z, hx] at e; cases e) (X a o e)
/-- what __init__ leaves of a fresh exception at x -/
structure InitEnd (h h' : Heap) (x C dx t1 : Addr) (nm fl : Str) (v : Value) : Prop where
  keep : ∀ b o, b ≠ x → h.get? b = some o → h'.get? b = some o
  obj : h'.get? x = some { cls := .ref C, dict := some dx, data := .fields #[.ref t1, .none, .none, .none, .bool false, .none] }
  dbig : h.objs.size ≤ dx
  dne : dx ≠ x
  ns : ∃ tk, h'.Ns1 dx (fun y => if y = "code" then some (.str nm tk) else if y = fl then some v else none)
/-- a made exception -/
structure Made (h h' : Heap) (e C d : Addr) (nm fl : Str) (v : Value) : Prop where
  keep : ∀ b o, h.get? b = some o → h'.get? b = some o
  new : h.objs.size ≤ e
  obj : ∃ t1, h'.get? e = some { cls := .ref C, dict := some d, data := .fields #[.ref t1, .none, .none, .none, .bool false, .none] }
  dbig : h.objs.size ≤ d
  dne : d ≠ e
  ns : ∃ tk, h'.Ns1 d (fun y => if y = "code" then some (.str nm tk) else if y = fl then some v else none)
theorem mw_init_row {M : Model} {A : Around} {E : Value → Shared → Prop} {s : Shared} {pos : Pos} {u x : Addr} {z : Str} {k : Nat} {p : Pos} {env : Env} {Q : Value → Shared → Prop} (hu : s.heap.get? u = some (kxs_mw "ValueError.__init__" x))
    (h : ∀ tk, wpAny M A (call (.ref u) [.str z tk]) Q E { s with toks := s.toks + 1 }) : wpAny M A (callWith pos (.ref u) [] (backTo pos (starEach [.Constant (.str z) k p] env)) []) Q E s := by
  refine kxs_callWith (i := "ValueError.__init__") (x := x) rfl ?_
  show wpAny M A (evalArgs (.ref u) true ((false, eval (.Constant (.str z) k p) env) :: []) []) _ E s
  exact evalArgs_plain (spliced_cons (wpAny_Constant_str (spliced_nil ⟨hu, h s.toks⟩)))
section
variable {prog : Program} {w : World} {A : Around} {E : Value → Shared → Prop} {R : Result → Shared → Prop} {s : Shared} {K : Frag} {mg mb : Str → Option Value} {nm fl : Str} {C fI : Addr}
theorem mw_call {B newId i : String} {bmB : List Value} (FB : ExcBaseFacts B newId i bmB) {cn q : Str} {N : Addr} {bs bm : List Value} {hd : Bool} {sn : List Str} {sub : List Value} {ab : Bool} {col : Option Bool} {dd : Option Addr} {k0 k1 k2 k3 k5 : Option Value}
    (hC : s.heap.get? C = some (excClassObj cn q C N bs bm hd sn sub ab col dd k0 k1 k2 k3 k5 newId)) {u x t0 : Addr} {rest : List Value} {Q : Value → Shared → Prop} (hx : s.heap.get? x = some (excO C t0)) (hu : s.heap.get? u = some (kxs_mw i x)) (hz : rest.length ≤ sizeLine)
    (h : ∀ h' t1, (∀ b o, b ≠ x → s.heap.get? b = some o → h'.get? b = some o) → h'.get? x = some (excO C t1) → Q .none { s with heap := h' }) : wpAny (model prog w) A (call (.ref u) rest) Q E s := by
  obtain ⟨hh, g, d, tk, os⟩ := s; refine wpAny_call (codeAny_of_tree ?_)
  show wpAny _ A.in1 (callAny (.ref u) ⟨rest, []⟩) _ _ _; unfold callAny
  refine wpAny_bind (wpAny_load hu ?_); dsimp only
  refine KFB.if_so (by decide) ?_; refine wpAny_bind (check_bound_init FB.toExcCallFacts hC hx rfl ?_)
  refine wpAny_bind (wpAny_pure (wpAny_pure ⟨plainId_quiet FB.init.plain _, codeAny_builtin FB.initEntry ?_⟩))
  exact exc_init_tree (cls := .ref C) (t0 := t0) (dv := none) (c2 := .none) (c3 := .none) (b4 := .bool false) hx hz fun h' kp e' _ => h h' _ kp e'
theorem eval_mc {o : Expr} {name z : Str} {k : Nat} {apos pos p : Pos} {env : Env} (hl : (apos.endLine == pos.line) = true) : eval (.Call (.Attribute o name apos) [.Constant (.str z) k p] [] pos) env = (attributeBase o name env (eval o env) >>= fun ov => do
    standAt apos.atName
    let (f, first) ← holding [ov] (getMethod ov name (do return (← importBound o env).getD true))
    callWith pos f first (backTo pos (starEach [.Constant (.str z) k p] env)) []) := by
  have e : eval (.Call (.Attribute o name apos) [.Constant (.str z) k p] [] pos) env = (attributeBase o name env (eval o env) >>= fun ov => do
    standAt apos.atName
    methodCall o name apos pos env ov 1 (backTo pos (starEach [.Constant (.str z) k p] env)) (backToKw pos (keywordEach [] env))) := rfl
  have hf : methodCallForm 1 (backTo pos (starEach [.Constant (.str z) k p] env)) (backToKw pos (keywordEach [] env)) = true := rfl
  rw [e]
  unfold methodCall methodCallPos calleeOf
  rw [hf, hl]
  rfl
theorem notCls_exc {C t0 : Addr} : notCls (excO C t0) = true := rfl
/-- __init__ of a fresh exception -/
theorem init (T : Txt prog K nm fl C fI) {x t0 : Addr} {v : Value} (X : K.In s.heap) (hlim : s.heap.NoLimit) (hg : s.heap.Ns mainGlobals mg) (gs : mg "super" = none) (hb : s.heap.Ns builtinsNs mb) (bs : mb "super" = bootBuiltins "super")
    (hx : s.heap.get? x = some (excO C t0)) (hnx : K.lookup x = none) (hroom : A.depth < recursionLimit)
    (hq : ∀ h' tk dx t1, InitEnd s.heap h' x C dx t1 nm fl v → R (.ok (.ret .none)) { s with heap := h', toks := tk }) :
    codeAny (model prog w) A (.call (.ref fI) ⟨[.ref x, v], []⟩) R s := by
  obtain ⟨oc, od, doc, pm, an, cda, ct, osl, cc, qual, p1, p2, a, b, c, d, e, f, g, i', i, j, k', l, m, n, ho, hcd, hline, ⟨ccl, cdd, vs, ccs, file, tf, hcode, hvs, hfile⟩, cl, cld, csl, hcell⟩ := T.fn
  obtain ⟨cn, q, N, bss, bm, sn, sub, ab, col, dd, k0, k1, k2, k3, k5, hC, hbm⟩ := T.cls
  have hcl : clsIn K C = some { name := cn, bases := bss, mro := .ref C :: bm, ns := N, qualname := q, hasDict := true, slotNames := sn, subclasses := sub, abstract := ab, collection := col, hasDel := false } := by unfold clsIn; rw [hC] <;> rfl
  obtain ⟨FB, Flo, Fs0, Fs2, Fs3, ⟨n0, n1⟩, ndb⟩ := T.fd
  refine ks_codeAny_call_defAt (fd := ksFn "__init__" qual (iA fl p1 p2) (iB nm fl a b c d e f g i' i j k' l m n) (iS fl) .none .none doc pm an (.ref cda) ct cc) (body := iB nm fl a b c d e f g i' i j k' l m n) (binds := [("self", .ref x), (fl, v)])
    hroom (X _ _ ho) rfl hlim (codeRec_of X hcd) rfl (BindsTo.of_eq (FB ..)) ?hce ?hlo (fun h₁ hn kk => ?_)
  case hce =>
    intro y hy
    have hy : y ∈ (iS fl).names := hy
    simp only [iS, List.mem_cons, List.not_mem_nil, or_false] at hy
    rcases hy with rfl | rfl | rfl | rfl <;> (intro z; cases z)
  case hlo =>
    intro y hy
    simp only [List.mem_cons, List.not_mem_nil, or_false] at hy
    rcases hy with rfl | rfl
    · exact Fs0
    · exact Flo
  have X₁ : K.In h₁ := X.keeps kk
  have hx₁ := kk _ _ hx
  have ms : ([("self", Value.ref x), (fl, v)] : List (Str × Value)).reverse.lookup ("self" : Str) = some (.ref x) := by
    have q1 : (("self" : Str) == fl) = false := by simpa using Ne.symm n0
    show List.lookup ("self" : Str) [(fl, v), (("self" : Str), Value.ref x)] = _
    simp [List.lookup, q1]
  have mf : ([("self", Value.ref x), (fl, v)] : List (Str × Value)).reverse.lookup fl = some v := by
    show List.lookup fl [(fl, v), (("self" : Str), Value.ref x)] = _
    simp [List.lookup]
  have I₁ : InstAt h₁ x (excO C t0) C none := ⟨hx₁, rfl, rfl, trivial⟩
  -- super().__init__(nm)
  refine ks_wpAt_execs_cons (ks_wpAt_Expr_any (ks_wpAt_MethodCall ?_ (eval_mc hline)))
  refine ks_wpAt_super_base (env := ksEnv qual (iS fl) s.heap.objs.size fI (.ref cda) cc) Fs3 Fs2 rfl rfl (X₁ _ _ ho) rfl (ar := { arg := "self", annotation := none, pos := p1 }) rfl rfl (X₁ _ _ hcode) rfl hvs hfile T.top ?_
  refine ks_loadName_global rfl Fs3 (loadGlobal_builtin (env := ksEnv qual (iS fl) s.heap.objs.size fI (.ref cda) cc) (hg.keeps kk) gs (hb.keeps kk) bs ⟨rfl, ?_⟩)
  refine wpAny_loadName_free rfl Fs2 rfl ⟨_, X₁ _ _ hcell, rfl⟩ ?_
  refine wpAny_loadName_local rfl Fs0 hn ms ?_
  refine ks_wpAny_isType_cls (X₁ _ _ hC) rfl ⟨rfl, ?_⟩
  refine ks_wpAny_call_super (X₁ _ _ hC) rfl hx₁ rfl (fun c z => by cases z) (looks_mroIn X₁ T.mC) (fun h₂ e2 k2 => ?_)
  have X₂ : K.In h₂ := X₁.keeps k2
  have hx₂ := k2 _ _ hx₁
  have I₂ : InstAt h₂ x (excO C t0) C none := ⟨hx₂, rfl, rfl, trivial⟩
  have hsup : alongIn K "__init__" (((Value.ref C :: bm).dropWhile (· != .ref C)).drop 1) = some (some (.builtin "ValueError.__init__")) := by
    have z := T.sup
    unfold ks_superIn at z
    rw [hcl] at z
    exact z
  refine kxs_getMethod kxs_ValueError e2 (looks_opaque X₂ T.tp) (l₀ := .ref C :: bm) (fun A Q E s k q => wpAny_bind ((looks_clsIn X₂ hcl) A _ E s k (wpAny_pure q))) rfl X₂ hsup (I₂.type.andThen (looks_subIn X₂ T.vB)) (ks_ne X₂ I₂ hcl) rfl ?_
  refine mw_init_row (x := x) (Heap.get?_push_size _ rfl) fun tk => ?_
  have k3 : ∀ b o, h₂.get? b = some o → (h₂.push (kxs_mw "ValueError.__init__" x)).get? b = some o := fun b o z => Heap.get?_push_of_some _ z
  refine mw_call F.excBase_ValueError (k3 _ _ (X₂ _ _ hC)) (k3 _ _ hx₂) (Heap.get?_push_size _ rfl) (by rw [sizeLine_eq]; exact (by decide : 1 ≤ 16777216)) fun h₄ t1 k4 hx₄ => ?_
  have k04 : ∀ b o, b ≠ x → s.heap.get? b = some o → h₄.get? b = some o := fun b o hb z => k4 b o hb (k3 _ _ (k2 _ _ (kk _ _ z)))
  have X₄ : K.In h₄ := kept_but X hnx k04
  have hLx : s.heap.objs.size ≠ x := Nat.ne_of_gt (Heap.lt_size hx)
  have hn₄ : h₄.Ns s.heap.objs.size fun y => ([("self", Value.ref x), (fl, v)] : List (Str × Value)).reverse.lookup y := by
    obtain ⟨o, es, ep, z, r⟩ := hn
    exact ⟨o, es, ep, k4 _ _ hLx (k3 _ _ (k2 _ _ z)), r⟩
  -- self.fl = fl
  refine wpAt_of_wpAny (wpAny_execs_cons (plainObj_wpAny_Assign_Attribute ?_))
  refine wpAny_Name (wpAny_loadName_local rfl Flo hn₄ mf ?_) ndb
  refine wpAny_Name (wpAny_loadName_local rfl Fs0 hn₄ ms ?_)
  refine set_plain X₄ (ox := excO C t1) (od := none) ⟨hx₄, rfl, rfl, trivial⟩ T.sa ?_
  refine exc_osa X₄ hx₄ hcl (show refsVE (.ref C :: bm) = true from hbm) rfl T.noF (fun h₅ tk₅ dx k5' dn dne hx₅ hn₅ => ?_)
  have k05 : ∀ b o, b ≠ x → s.heap.get? b = some o → h₅.get? b = some o := fun b o hb z => k5' b o hb (k04 b o hb z)
  have X₅ : K.In h₅ := kept_but X hnx k05
  have hn5 : h₅.Ns s.heap.objs.size fun y => ([("self", Value.ref x), (fl, v)] : List (Str × Value)).reverse.lookup y := by
    obtain ⟨o, es, ep, z, r⟩ := hn₄
    exact ⟨o, es, ep, k5' _ _ hLx z, r⟩
  have hw : Within (fun y => if y = fl then some v else none) [fl] := Within.cons fl v Within.nil
  obtain ⟨oD, _, _, hoD, _, _⟩ := hn₅.count hw
  -- self.code = nm
  show wpAny _ _ (execs _ _) _ _ _; refine wpAny_execs_cons (plainObj_wpAny_Assign_Attribute ?_)
  refine wpAny_Constant_str ?_
  refine wpAny_Name (wpAny_loadName_local rfl Fs0 hn5 ms ?_)
  refine set_plain X₅ (ox := { cls := .ref C, dict := some dx, data := .fields #[.ref t1, .none, .none, .none, .bool false, .none] }) (od := some oD) ⟨hx₅, rfl, rfl, hoD⟩ T.sa ?_
  refine PySem.OEX.osa_old X₅ hx₅ hn₅ hw (show 1 ≤ 1000 by decide) hcl (show refsVE (.ref C :: bm) = true from hbm) rfl T.noC (fun h₆ tk₆ k6 hn₆ => ?_)
  show wpAny _ _ (execs _ _) _ _ _; have hsz : s.heap.objs.size ≤ dx := Nat.le_trans (Nat.le_of_lt hn₄.lt) dn
  refine wpAny_execs_nil (hq h₆ tk₆ dx t1 ⟨fun b o hb z => k6 b o (Nat.ne_of_lt (Nat.lt_of_lt_of_le (Heap.lt_size z) hsz)) (k05 b o hb z), k6 x _ (Ne.symm dne) hx₅, hsz, dne, _, hn₆⟩)
/-- C(v) -/
theorem made (T : Txt prog K nm fl C fI) {v : Value} (X : K.In s.heap) (hlim : s.heap.NoLimit) (hg : s.heap.Ns mainGlobals mg) (gs : mg "super" = none) (hb : s.heap.Ns builtinsNs mb) (bs : mb "super" = bootBuiltins "super") (hroom : A.depth + 1 < recursionLimit)
    (hq : ∀ h' tk e d, Made s.heap h' e C d nm fl v → R (.ok (.ret (.ref e))) { s with heap := h', toks := tk }) :
    codeAny (model prog w) A (.call (.ref C) ⟨[v], []⟩) R s := by
  obtain ⟨cn, q, N, bss, bm, sn, sub, ab, col, dd, k0, k1, k2, k3, k5, hC, hbm⟩ := T.cls
  obtain ⟨hp, g, dr, tk, os⟩ := s; have kk : ∀ b o, hp.get? b = some o → ((hp.push (kdv_tup [v])).push (excO C hp.objs.size)).get? b = some o := fun b o e => Heap.get?_push_of_some _ (Heap.get?_push_of_some _ e); have hget : ((hp.push (kdv_tup [v])).push (excO C hp.objs.size)).get? (hp.objs.size + 1) = some (excO C hp.objs.size) := by heap_get
  have hnx : K.lookup (hp.objs.size + 1) = none := by
    cases e : K.lookup (hp.objs.size + 1) with
    | none => rfl
    | some o => exact absurd (Nat.lt_of_succ_lt (Heap.lt_size (X _ _ e))) (Nat.lt_irrefl _)
  refine call_own F.excBase_ValueError (fun Y => refsVE_contains Y bm hbm) (X _ _ hC) (looks_findIn X T.iC) (fun self => bind_fn X self T.tI) (by rw [sizeLine_eq]; exact (by decide : 1 ≤ 16777216)) ?_
  refine init (s := ⟨(hp.push (kdv_tup [v])).push (excO C hp.objs.size), g, dr, tk, os⟩) T (X.keeps kk) (hlim.keeps kk) (hg.keeps kk) gs (hb.keeps kk) bs hget hnx hroom fun h' tk' dx t1 E => ?_
  have old : ∀ b o, hp.get? b = some o → h'.get? b = some o := fun b o e => E.keep b o (Nat.ne_of_lt (Nat.lt_succ_of_lt (Heap.lt_size e))) (kk b o e)
  have z : hp.objs.size ≤ dx := by
    have q := E.dbig
    rw [Heap.size_push, Heap.size_push] at q
    omega
  exact ⟨rfl, hq h' tk' (hp.objs.size + 1) dx ⟨old, Nat.le_succ _, ⟨t1, E.obj⟩, z, E.dne, E.ns⟩⟩
end
end ExN
end PySem

namespace EE
open PySem PySem.Spec PyProof.Rows L2 Evl RZ
open PyProof.Rows PySem PySem.Spec L2
/-- the fields of a made exception -/
def excF (nm fl : Str) (v : V) : List (Str × V) := [("code", .str nm), (fl, v)]
theorem excF_code (nm fl : Str) (v : V) : (excF nm fl v).lookup ("code" : Str) = some (.str nm) := by simp [excF, List.lookup]
theorem excF_fl {nm fl : Str} (v : V) (h : fl ≠ "code") : (excF nm fl v).lookup fl = some v := by
  have q : (fl == ("code" : Str)) = false := by simpa using h
  simp [excF, List.lookup, q]
theorem relO_exc {nm fl : Str} {v : V} {v' : Value} {tk : Tok} (r : RelV v v') (f : Str) : RelO ((excF nm fl v).lookup f) (if f = "code" then some (.str nm tk) else if f = fl then some v' else none) := by
  by_cases h : f = "code"
  · subst h
    rw [if_pos rfl, excF_code]
    exact ⟨tk, rfl⟩
  · have q : (f == ("code" : Str)) = false := by simpa using h
    rw [if_neg h]
    by_cases h2 : f = fl
    · subst h2
      rw [if_pos rfl, excF_fl v h]
      exact r
    · have q2 : (f == fl) = false := by simpa using h2
      rw [if_neg h2]
      have e : (excF nm fl v).lookup f = none := by simp [excF, List.lookup, q, q2]
      rw [e]
      trivial
/-- C(e), an exception: told by its class and its dict -/
def tMkX (C : Addr) (nm fl : Str) (te : TE) : L2.St → Hp → XK → Prop := fun σ H Q => te σ H fun v H1 => ∀ d, H1 d = none → Q (.ref C) (some d) (upd H1 d (.xd (excF nm fl v)))
section
variable {X : Cx} {C fI : Addr} {nm fl : Str}
/-- what calling such a class by its name asks -/
structure ExcN (P : Program) (K : PySem.W.Frag) (mg : Str → Option Value) (x fl : Str) (C : Addr) : Prop where
  ex : ∃ fI, PySem.ExN.Txt P K x fl C fI
  gC : mg x = some (.ref C)
  gs : mg "super" = none
theorem pmk_exn {a : Expr} {te : TE} {p pos : Pos} {k : Nat} (T : ExcN X.prog X.K X.mg nm fl C) (hr : Room k X.A) (hk : 1 ≤ k) (he : PE X a te) (hg : Gl X nm) (hdb : (nm == ("__debug__" : Str)) = false)
    (hs : starEach (a :: []) X.env = (false, eval a X.env) :: starEach [] X.env := by rfl) (hpl : (backTo pos (starEach [] X.env)).any (·.1) = false := by rfl) :
    PMk X (.Call (.Name nm p) [a] [] pos) (tMkX C nm fl te) := by
  obtain ⟨⟨fI, T⟩, gC, gs⟩ := T
  intro pins s σ H Q I h
  refine wpAny_Call_Name_kw (ld_glob I hg gC ?_ hdb); refine PySem.W.callWith_K (h₀ := X.base) I.ok.mod.kin T.kC ?_ hs hpl
  rw [hs]
  refine Calls.spliced_cons (thn (he.run pins s σ H _ I h) fun u s1 ⟨v, H1, I1, r1, q1⟩ => Calls.spliced_nil ⟨I1.kIn, ?_⟩)
  show wpAny _ _ (call (.ref C) [u]) _ _ _; have hlim := I1.nolimit
  have glob := I1.mod.glob.keeps I1.bk
  obtain ⟨mb, hb, hbb⟩ := I1.mod.blt
  have hb := hb.keeps I1.bk
  have kIn := I1.kIn
  obtain ⟨hp, g, dr, tk, os⟩ := s1; refine wpAny_call (PySem.ExN.made T kIn hlim glob gs hb (hbb _ (by decide)) (by have := hr.dp; omega) fun h' tk' e d M => ?_)
  show MkP X pins σ Q (.ref e) ⟨h', g, dr, tk', os⟩; obtain ⟨t1, hoe⟩ := M.obj
  obtain ⟨tk2, hns⟩ := M.ns
  obtain ⟨G', g1, g2⟩ := restrict h' fun b => decide (b ≠ e); have gk : ∀ b, b ≠ e → G'.get? b = h'.get? b := fun b hb => g1 b (decide_eq_true hb); have ge : G'.get? e = none := g2 e (by simp); have old : ∀ b o, hp.get? b = some o → G'.get? b = some o := fun b o q => (gk b (Nat.ne_of_lt (Nat.lt_of_lt_of_le (Heap.lt_size q) M.new))).trans (M.keep b o q)
  have ob : ObjOk X.prog X.w (upd H1 d (.xd (excF nm fl v))) G' d (.xd (excF nm fl v)) := ⟨_, hns.at (fun o q => (gk d M.dne).trans q), relO_exc r1⟩
  have J : Inv X pins σ (upd H1 d (.xd (excF nm fl v))) ⟨G', g, dr, tk', os⟩ := I1.laid (t' := tk') old M.dbig ob
  refine ⟨e, _, _, ⟨G', g, dr, tk', os⟩, _, .ref C, some d, rfl, J, fun b o q => ?_, ge, hoe, ⟨rfl, rfl⟩, rfl, rfl, ?_, rfl, I1.bare, raises_own T.exC T.tyC, q1 d (I1.hok.fresh M.dbig)⟩
  · by_cases hb : b = e
    · have q' : G'.get? b = some o := q
      rw [hb, ge] at q'; cases q'
    · exact (gk b hb).symm.trans q
  · rw [upd_ne (Ne.symm M.dne)]
    exact I1.hok.fresh M.new
/-- raise C(e) -/
def tRaise (C : Addr) (nm fl : Str) (E : XK) (te : TE) : TS := fun _ σ H => tMkX C nm fl te σ H E
theorem ps_raiseX {a : Expr} {te : TE} {p pos pos2 : Pos} {k : Nat} {E : XK} (hc : X.calm = true) (T : ExcN X.prog X.K X.mg nm fl C) (hr : Room k X.A) (hk : 1 ≤ k) (tk : Takes X fun cls d _ H => E cls d H) (he : PE X a te) (hg : Gl X nm) (hdb : (nm == ("__debug__" : Str)) = false)
    (hs : starEach (a :: []) X.env = (false, eval a X.env) :: starEach [] X.env := by rfl) (hpl : (backTo pos (starEach [] X.env)).any (·.1) = false := by rfl) :
    PS X (.Raise (some (.Call (.Name nm p) [a] [] pos)) none pos2) (tRaise C nm fl E te) := ps_raise hc tk (pmk_exn T hr hk he hg hdb hs hpl)
end

end EE
/-! == of two tuples, item by item; bool, != of an own object; a + b of lists: the model's own steps. -/
namespace GE
open PySem PySem.SeqAt
section
variable {w : World} {prog : Program} {R : Result → Shared → Prop} {A : Around}
/-- what the comparison of two rows of items comes to, item by item -/
def ZipR (prog : Program) (w : World) (A : Around) (E : Value → Shared → Prop) (I : Shared → Prop) (b fin : Bool) : List (Value × Value) → Prop
  | [] => b = fin
  | p :: rest => ∃ r : Bool, (∀ s, I s → wpAny (model prog w) A.in1 (eqBool p.1 p.2) (fun r' s' => r' = r ∧ I s') E s) ∧ ((r = true ∧ ZipR prog w A E I b fin rest) ∨ (r = false ∧ b = false))
theorem tuple_eqB (l b : Addr) (items items2 : Array Value) (n n2 : Nat) (dd dd2 : Option Addr) (sl sl2 : Array (Option Value)) (I : Shared → Prop) (t : Bool)
    (hz : ZipR prog w A (fun e s' => R (.error e) s') I t (items.size == items2.size) (items.toList.zip items2.toList))
    (fin : ∀ s, I s → R (.ok (.ret (.bool t))) s) {s : Shared} (hl1 : s.heap.get? l = some { cls := .type "tuple", dict := dd, data := .seq items n, slots := sl })
    (hb1 : s.heap.get? b = some { cls := .type "tuple", dict := dd2, data := .seq items2 n2, slots := sl2 }) (h : I s) :
    wpAny (model prog w) A.in1 (Builtin.«tuple.__eq__» ⟨[.ref l, .ref b], []⟩) (GQ.FinOf prog w A R) (fun e s' => R (.error e) s') s := by
  have tt := AutoSeq1.sub_tuple_tuple
  have h0 := h
  obtain ⟨hs0, gs0, ds0, ts0, os0⟩ := s
  wp_walk using AutoSeq1.wpAny_loadPart' hl1, AutoSeq1.wpAny_loadPart' hb1, wpAny_forIn_list _ (fun rest b s' => b.1 = none ∧ ZipR prog w A (fun e s' => R (.error e) s') I t (items.size == items2.size) rest ∧ I s') _
  case turn =>
    rintro ⟨y, x⟩ rest b s' ⟨hb', ⟨r, hr, hc⟩, hI⟩
    refine wpAny_bind (wpAny_mono (hr s' hI) (fun r' s2 q2 => ?_) fun _ _ x => x)
    obtain ⟨e, q2⟩ := q2
    subst e
    rcases hc with ⟨e, hc⟩ | ⟨e, hc⟩
    · subst e
      wp_walk
      exact ⟨rfl, hc, q2⟩
    · subst e
      subst hc
      have hR := fin s2 q2
      wp_walk
      exact hR
  case fin =>
    rintro ⟨b1, b2⟩ s' ⟨hb', hz, hI⟩
    simp only at hb'
    subst hb'
    have hR := fin s' hI
    rw [show t = (items.size == items2.size) from hz] at hR
    wp_walk
    simpa [Builtin.Tuple.tupleCompareSizes] using hR
  case h =>
    exact ⟨rfl, hz, h0⟩
end
section
variable {w : World} {prog : Program} {s : Shared} {E : Value → Shared → Prop} {A : Around}
theorem rc_tupB {l b : Addr} {items items2 : Array Value} {Q : Value → Shared → Prop} (hu : A.units < cLine) (I : Shared → Prop) (t : Bool)
    (hl : s.heap.IsTuple l items) (hb : s.heap.IsTuple b items2) (hz : ZipR prog w A E I t (items.size == items2.size) (items.toList.zip items2.toList))
    (fin : ∀ s, I s → Q (.bool t) s) (h : I s) : wpAny (model prog w) A (richCompare .Eq (.ref l) (.ref b)) Q E s := by
  obtain ⟨⟨cls, dd, data, sl⟩, ho, hc, n, hd⟩ := id hl; obtain ⟨⟨cls2, dd2, data2, sl2⟩, ho2, hc2, n2, hd2⟩ := id hb
  simp only at hc hd hc2 hd2
  subst hc hd hc2 hd2
  refine wpAny_richCompare_same_room (op := .Eq) ⟨_, ho, rfl⟩ ⟨_, ho2, rfl⟩ F.slot_tuple_eq (GQ.call_here F.slot_tuple_eq ⟨_, ho, rfl⟩ F.entry_tuple_eq (F.args_tuple_eq_2 _ _) ?_) hu
  exact tuple_eqB (R := wants (fun v s' => v ≠ .notImplemented ∧ Q v s') E) l b items items2 n n2 dd dd2 sl sl2 I t hz (fun s' q => ⟨(fun x => nomatch x), fin s' q⟩) ho ho2 h
theorem meets_bool_any (v : Value) (b : Bool) :
    Meets (Builtin.«bool.__new__» ⟨[.type "bool", v], []⟩) (fun _ R s => (∀ (M : Model) (A : Around) (E : Value → Shared → Prop) (Q : Bool → Shared → Prop), Q b s → wpAny M A (truthy v) Q E s) ∧ R (.ok (.ret (.bool b))) s) :=
  Meets.of_wp fun _ _ _ _ s hb => by
    obtain ⟨ht, hs⟩ := hb
    obtain ⟨hs0, gs0, ds0, ts0, os0⟩ := s
    have f1 := F.conv_sub_bool
    repeat (any_goals (first | assumption | (with_reducible refine ht _ _ _ _ ?_) | wp_step))
    all_goals first | exact hs | exact ⟨_, rfl, hs⟩ | skip
theorem meetsIn_bool (v : Value) : MeetsIn prog w (Builtin.«bool.__new__» ⟨[.type "bool", v], []⟩) (fun A R s => wpAny (model prog w) A.in1 (truthy v) (fun b s' => R (.ok (.ret (.bool b))) s') (fun e s' => R (.error e) s') s) :=
  .of_wp fun A R s hh => by
    have fb := F.conv_sub_bool
    repeat (first
      | (refine wpAny_bind (m := truthy v) (wpAny_mono hh (fun b s' hb => ?_) fun _ _ x => x))
      | exact wpAny_pure ⟨_, rfl, hb⟩
      | exact ⟨_, rfl, hb⟩
      | wp_step)
theorem ifBound_objNe {M : Model} {A : Around} {E : Value → Shared → Prop} {s : Shared} {K : PySem.W.Frag} {x C : Addr} {ox : Obj} {od : Option Obj} {args : List Value} {Q : Option Value → Shared → Prop} (X : K.In s.heap) (I : PySem.W.InstAt s.heap x ox C od) (hs : PySem.W.findIn K (.ref C) "__ne__" = some (some (.builtin "object.__ne__")))
    (h : wpAny M A (call (.builtin "object.__ne__") (.ref x :: args)) (fun v => Q (some v)) E s) : wpAny M A (callSpecialIfBound? (.ref x) "__ne__" args) Q E s := by
  have fin : wpAny M A (call (.builtin "object.__ne__") ([.ref x] ++ args) >>= fun v => pure (some v)) Q E s := wpAny_bind (wpAny_mono h (fun _ _ z => wpAny_pure z) fun _ _ z => z)
  simp only [callSpecialIfBound?, bindSpecialIfBound?]; refine wpAny_holding (wpAny_bind (wpAny_bind (wpAny_bind (I.type.here ((PySem.W.looks_findIn X hs).here (wpAny_bind (wpAny_askSetting (wpAny_ite ?_))))))))
  split
  · exact wpAny_bind (wpAny_of_eq (F.cmp_object.ne.bind _) (wpAny_pure (by exact fin)))
  · exact wpAny_tryCatch (wpAny_bind (wpAny_of_eq (F.cmp_object.ne.bind _) (wpAny_pure (by exact fin))))
theorem sub_str {K : PySem.W.Frag} (C : Addr) : PySem.W.subIn K (.type "str") (.ref C) = some false := by
  have e : fastBuiltinMro "str" = some [.type "str", .type "object"] := by decide +kernel
  show (fastBuiltinMro "str").map (·.contains (.ref C)) = some false
  rw [e]
  first
    | rfl
    | simp
end
theorem meets_addS (l b : Addr) (its jts : Array Value) (n m : Nat) (sl sm : Array (Option Value)) (hz : its.size + jts.size ≤ sizeLine) :
    Meets (Builtin.«list.__add__» ⟨[.ref l, .ref b], []⟩) (fun _ R s => s.heap.get? l = some { cls := .type "list", dict := none, data := .seq its n, slots := sl } ∧ s.heap.get? b = some { cls := .type "list", dict := none, data := .seq jts m, slots := sm } ∧
      R (.ok (.ret (Value.ref s.heap.objs.size))) { s with heap := s.heap.push { cls := Value.type "list", data := Data.seq (its ++ jts) } }) :=
  .of_wp fun _ _ _ _ s hh => by
    obtain ⟨hl, hb, h⟩ := hh; have f3 := AutoSeq1.sub_list_list
    obtain ⟨hs0, gs0, ds0, ts0, os0⟩ := s
    wp_walk using AutoSeq1.wpAny_loadPart' hb, AutoSeq1.wpAny_loadPart' hl
    exact ⟨_, rfl, h⟩
end GE

/-! Own exceptions over ValueError without a field: class C(..): def __init__(self): super().__init__("C"); self.code = "C". -/
namespace PySem
namespace ExZ
open PyProof.Rows PySem.W PySem.HandSPX PySem.Calls PySem.ExN
def zA (p1 : Pos) : Arguments := { posonlyargs := [], args := [{ arg := "self", annotation := none, pos := p1 }], vararg := none, kwonlyargs := [], kw_defaults := [], kwarg := none, defaults := [] }
def zB (nm : Str) (a b c d e f k l m n : Pos) : List Stmt :=
  [.Expr (.Call (.Attribute (.Call (.Name "super" a) [] [] b) "__init__" c) [.Constant (.str nm) 0 d] [] e) f,
   .Assign [.Attribute (.Name "self" k) "code" l] (.Constant (.str nm) 0 m) n]
def zS : Scope := { kind := .function, names := [("self", .local), ("__class__", .free), ("super", .globalImplicit)], isGenerator := false, isCoroutine := false, more := [] }
theorem bd0 (qual : Str) (p1 : Pos) (body : List Stmt) (doc pm : Value) (an : Option Addr) (cdv ct : Value) (cc : Addr) (x : Value) : bindArgs (ksFn "__init__" qual (zA p1) body zS .none .none doc pm an cdv ct cc) ⟨[x], []⟩ = pure [(("self" : Str), x)] := rfl
/-- what the written part tells of such a class -/
structure Txt0 (P : Program) (K : Frag) (nm : Str) (C fI : Addr) : Prop where
  cls0 : ∃ cn q N bs bm sn sub ab col dd k0 k1 k2 k3 k5, K.lookup C = some (excClassObj cn q C N bs bm true sn sub ab col dd k0 k1 k2 k3 k5 "ValueError.__new__") ∧ refsVE bm = true
  sa0 : (findIn K (.ref C) "__setattr__" = some (some (.builtin "object.__setattr__")))
  iC0 : (findIn K (.ref C) "__init__" = some (some (.ref fI)))
  tI0 : typeIn K (.ref fI) = some (.type "function")
  kC0 : keepIn K (.ref C) = true
  exC0 : (subIn K (.ref C) (.type "BaseException") = some true)
  tyC0 : (typeIn K (.ref C) = some (.type "type"))
  noC0 : findIn K (.ref C) "code" = some none
  sup0 : ks_superIn K C C "__init__" = some (some (.builtin "ValueError.__init__"))
  vB0 : subIn K (.ref C) (.type "ValueError") = some true
  mC0 : mroIn K C (.ref C) = some true
  tp0 : nsIn K cStatics "thirdparty.any" = some none
  top0 : (P.main.scope.names.lookup ("super" : Str)).isSome = false
  fn0 : ∃ (oc : Value) (od : Option Addr) (doc pm : Value) (an : Option Addr) (cda : Addr) (ct : Value) (osl : Array (Option Value)) (cc : Addr) (qual : Str) (p1 a b c d e f k l m n : Pos),
    K.lookup fI = some ⟨oc, od, .func (ksFn "__init__" qual (zA p1) (zB nm a b c d e f k l m n) zS .none .none doc pm an (.ref cda) ct cc), osl⟩ ∧ codeIn K (.ref cda) qual = true ∧
    (c.endLine == e.line) = true ∧ (∃ ccl cdd vs ccs file tf, K.lookup cda = some ⟨ccl, cdd, .fields vs, ccs⟩ ∧ vs[2]? = some (.str file tf) ∧ ((P.main.file : Str) == file) = true) ∧
    ∃ cl cld csl, K.lookup cc = some ⟨cl, cld, .cell (some (.ref C)), csl⟩
/-- what __init__ leaves -/
structure InitEnd0 (h h' : Heap) (x C dx t1 : Addr) (nm : Str) : Prop where
  keep0 : ∀ (b : Addr) (o : Obj), b ≠ x → h.get? b = some o → h'.get? b = some o
  obj0 : (h'.get? x = some { cls := .ref C, dict := some dx, data := .fields #[.ref t1, .none, .none, .none, .bool false, .none] })
  dbig0 : h.objs.size ≤ dx
  dne0 : dx ≠ x
  ns0 : ∃ tk, h'.Ns1 dx (fun y => if y = "code" then some (.str nm tk) else none)
/-- such an exception, made -/
structure Made0 (h h' : Heap) (e C d : Addr) (nm : Str) : Prop where
  keep0 : ∀ (b : Addr) (o : Obj), h.get? b = some o → h'.get? b = some o
  new0 : h.objs.size ≤ e
  obj0 : ∃ t1, h'.get? e = some { cls := .ref C, dict := some d, data := .fields #[.ref t1, .none, .none, .none, .bool false, .none] }
  dbig0 : h.objs.size ≤ d
  dne0 : d ≠ e
  ns0 : ∃ tk, h'.Ns1 d (fun y => if y = "code" then some (.str nm tk) else none)
section
variable {prog : Program} {w : World} {A : Around} {E : Value → Shared → Prop} {R : Result → Shared → Prop} {s : Shared} {K : Frag} {mg mb : Str → Option Value} {nm : Str} {C fI : Addr}
/-- __init__ of a fresh exception -/
theorem init0 (T : Txt0 prog K nm C fI) {x t0 : Addr} (X : K.In s.heap) (hlim : s.heap.NoLimit) (hg : s.heap.Ns mainGlobals mg) (gs : mg "super" = none) (hb : s.heap.Ns builtinsNs mb) (bs : mb "super" = bootBuiltins "super")
    (hx : s.heap.get? x = some (excO C t0)) (hnx : K.lookup x = none) (hroom : A.depth < recursionLimit)
    (hq : ∀ h' tk dx t1, InitEnd0 s.heap h' x C dx t1 nm → R (.ok (.ret .none)) { s with heap := h', toks := tk }) :
    codeAny (model prog w) A (.call (.ref fI) ⟨[.ref x], []⟩) R s := by
  obtain ⟨oc, od, doc, pm, an, cda, ct, osl, cc, qual, p1, a, b, c, d, e, f, k', l, m, n, ho, hcd, hline, ⟨ccl, cdd, vs, ccs, file, tf, hcode, hvs, hfile⟩, cl, cld, csl, hcell⟩ := T.fn0
  obtain ⟨cn, q, N, bss, bm, sn, sub, ab, col, dd, k0, k1, k2, k3, k5, hC, hbm⟩ := T.cls0
  have hcl : clsIn K C = some { name := cn, bases := bss, mro := .ref C :: bm, ns := N, qualname := q, hasDict := true, slotNames := sn, subclasses := sub, abstract := ab, collection := col, hasDel := false } := by unfold clsIn; rw [hC] <;> rfl
  refine ks_codeAny_call_defAt (fd := ksFn "__init__" qual (zA p1) (zB nm a b c d e f k' l m n) zS .none .none doc pm an (.ref cda) ct cc) (body := zB nm a b c d e f k' l m n) (binds := [("self", .ref x)])
    hroom (X _ _ ho) rfl hlim (codeRec_of X hcd) rfl (BindsTo.of_eq (bd0 ..)) ?hce ?hlo (fun h₁ hn kk => ?_)
  case hce =>
    intro y hy
    have hy : y ∈ zS.names := hy
    simp only [zS, List.mem_cons, List.not_mem_nil, or_false] at hy
    rcases hy with rfl | rfl | rfl <;> (intro z; cases z)
  case hlo =>
    intro y hy
    simp only [List.mem_cons, List.not_mem_nil, or_false] at hy
    subst hy
    rfl
  have X₁ : K.In h₁ := X.keeps kk
  have hx₁ := kk _ _ hx
  have ms : ([("self", Value.ref x)] : List (Str × Value)).reverse.lookup ("self" : Str) = some (.ref x) := rfl
  have I₁ : InstAt h₁ x (excO C t0) C none := ⟨hx₁, rfl, rfl, trivial⟩
  refine ks_wpAt_execs_cons (ks_wpAt_Expr_any (ks_wpAt_MethodCall ?_ (eval_mc hline)))
  refine ks_wpAt_super_base (env := ksEnv qual zS s.heap.objs.size fI (.ref cda) cc) rfl rfl rfl rfl (X₁ _ _ ho) rfl (ar := { arg := "self", annotation := none, pos := p1 }) rfl rfl (X₁ _ _ hcode) rfl hvs hfile T.top0 ?_
  refine ks_loadName_global rfl rfl (loadGlobal_builtin (env := ksEnv qual zS s.heap.objs.size fI (.ref cda) cc) (hg.keeps kk) gs (hb.keeps kk) bs ⟨rfl, ?_⟩)
  refine wpAny_loadName_free rfl rfl rfl ⟨_, X₁ _ _ hcell, rfl⟩ ?_
  refine wpAny_loadName_local rfl rfl hn ms ?_
  refine ks_wpAny_isType_cls (X₁ _ _ hC) rfl ⟨rfl, ?_⟩
  refine ks_wpAny_call_super (X₁ _ _ hC) rfl hx₁ rfl (fun c z => by cases z) (looks_mroIn X₁ T.mC0) (fun h₂ e2 k2 => ?_)
  have X₂ : K.In h₂ := X₁.keeps k2
  have hx₂ := k2 _ _ hx₁
  have I₂ : InstAt h₂ x (excO C t0) C none := ⟨hx₂, rfl, rfl, trivial⟩
  have hsup : alongIn K "__init__" (((Value.ref C :: bm).dropWhile (· != .ref C)).drop 1) = some (some (.builtin "ValueError.__init__")) := by
    have z := T.sup0
    unfold ks_superIn at z
    rw [hcl] at z
    exact z
  refine kxs_getMethod kxs_ValueError e2 (looks_opaque X₂ T.tp0) (l₀ := .ref C :: bm) (fun A Q E s k q => wpAny_bind ((looks_clsIn X₂ hcl) A _ E s k (wpAny_pure q))) rfl X₂ hsup (I₂.type.andThen (looks_subIn X₂ T.vB0)) (ks_ne X₂ I₂ hcl) rfl ?_
  refine mw_init_row (x := x) (Heap.get?_push_size _ rfl) fun tk => ?_
  have k3 : ∀ b o, h₂.get? b = some o → (h₂.push (kxs_mw "ValueError.__init__" x)).get? b = some o := fun b o z => Heap.get?_push_of_some _ z
  refine mw_call F.excBase_ValueError (k3 _ _ (X₂ _ _ hC)) (k3 _ _ hx₂) (Heap.get?_push_size _ rfl) (by rw [sizeLine_eq]; exact (by decide : 1 ≤ 16777216)) fun h₄ t1 k4 hx₄ => ?_
  have k04 : ∀ b o, b ≠ x → s.heap.get? b = some o → h₄.get? b = some o := fun b o hb z => k4 b o hb (k3 _ _ (k2 _ _ (kk _ _ z)))
  have X₄ : K.In h₄ := kept_but X hnx k04
  have hLx : s.heap.objs.size ≠ x := Nat.ne_of_gt (Heap.lt_size hx)
  have hn₄ : h₄.Ns s.heap.objs.size fun y => ([("self", Value.ref x)] : List (Str × Value)).reverse.lookup y := by
    obtain ⟨o, es, ep, z, r⟩ := hn
    exact ⟨o, es, ep, k4 _ _ hLx (k3 _ _ (k2 _ _ z)), r⟩
  refine wpAt_of_wpAny (wpAny_execs_cons (plainObj_wpAny_Assign_Attribute ?_))
  refine wpAny_Constant_str ?_
  refine wpAny_Name (wpAny_loadName_local rfl rfl hn₄ ms ?_)
  refine set_plain X₄ (ox := excO C t1) (od := none) ⟨hx₄, rfl, rfl, trivial⟩ T.sa0 ?_
  refine exc_osa X₄ hx₄ hcl (show refsVE (.ref C :: bm) = true from hbm) rfl T.noC0 (fun h₅ tk₅ dx k5' dn dne hx₅ hn₅ => ?_)
  show wpAny _ _ (execs _ _) _ _ _; have hsz : s.heap.objs.size ≤ dx := Nat.le_trans (Nat.le_of_lt hn₄.lt) dn
  exact wpAny_execs_nil (hq h₅ tk₅ dx t1 ⟨fun b o hb z => k5' b o hb (k04 b o hb z), hx₅, hsz, dne, _, hn₅⟩)
/-- C() -/
theorem made0 (T : Txt0 prog K nm C fI) (X : K.In s.heap) (hlim : s.heap.NoLimit) (hg : s.heap.Ns mainGlobals mg) (gs : mg "super" = none) (hb : s.heap.Ns builtinsNs mb) (bs : mb "super" = bootBuiltins "super") (hroom : A.depth + 1 < recursionLimit)
    (hq : ∀ h' tk e d, Made0 s.heap h' e C d nm → R (.ok (.ret (.ref e))) { s with heap := h', toks := tk }) :
    codeAny (model prog w) A (.call (.ref C) ⟨([] : List Value), []⟩) R s := by
  obtain ⟨cn, q, N, bss, bm, sn, sub, ab, col, dd, k0, k1, k2, k3, k5, hC, hbm⟩ := T.cls0
  obtain ⟨hp, g, dr, tk, os⟩ := s; have kk : ∀ b o, hp.get? b = some o → ((hp.push (kdv_tup [])).push (excO C hp.objs.size)).get? b = some o := fun b o e => Heap.get?_push_of_some _ (Heap.get?_push_of_some _ e)
  have hget : ((hp.push (kdv_tup [])).push (excO C hp.objs.size)).get? (hp.objs.size + 1) = some (excO C hp.objs.size) := by heap_get
  have nxt : K.lookup (hp.objs.size + 1) = none := by
    cases look : K.lookup (hp.objs.size + 1) with
    | none => rfl
    | some o => exact absurd (Nat.lt_of_succ_lt (Heap.lt_size (X _ _ look))) (Nat.lt_irrefl _)
  refine call_own F.excBase_ValueError (fun Y => refsVE_contains Y bm hbm) (X _ _ hC) (looks_findIn X T.iC0) (fun self => bind_fn X self T.tI0) (Nat.zero_le _) ?_
  refine init0 (s := ⟨(hp.push (kdv_tup [])).push (excO C hp.objs.size), g, dr, tk, os⟩) T (X.keeps kk) (hlim.keeps kk) (hg.keeps kk) gs (hb.keeps kk) bs hget nxt hroom fun h' tk' dx t1 E => ?_
  have old : ∀ b o, hp.get? b = some o → h'.get? b = some o := fun b o e => E.keep0 b o (Nat.ne_of_lt (Nat.lt_succ_of_lt (Heap.lt_size e))) (kk b o e)
  have z : hp.objs.size ≤ dx := by
    have q := E.dbig0
    rw [Heap.size_push, Heap.size_push] at q
    omega
  exact ⟨rfl, hq h' tk' (hp.objs.size + 1) dx ⟨old, Nat.le_succ _, ⟨t1, E.obj0⟩, z, E.dne0, E.ns0⟩⟩
end
end ExZ
end PySem

namespace EE
open PySem PySem.Spec PyProof.Rows L2 Evl RZ
open PyProof.Rows PySem PySem.Spec L2
/-- the fields of a made exception without a field -/
def excZ (nm : Str) : List (Str × V) := [("code", .str nm)]
theorem relO_excZ {nm : Str} {tk : Tok} (f : Str) : RelO ((excZ nm).lookup f) (if f = "code" then some (.str nm tk) else none) := by
  by_cases h : f = "code"
  · subst h
    rw [if_pos rfl]
    exact ⟨tk, rfl⟩
  · have q : (f == ("code" : Str)) = false := by simpa using h
    rw [if_neg h, show (excZ nm).lookup f = none from by simp [excZ, List.lookup, q]]
    trivial
/-- C(), an exception: told by its class and its dict -/
def tMkZ (C : Addr) (nm : Str) : L2.St → Hp → XK → Prop := fun σ H Q => ∀ d, H d = none → Q (.ref C) (some d) (upd H d (.xd (excZ nm)))
section
variable {X : Cx} {C fI : Addr} {nm : Str}
structure ExcZ (P : Program) (K : PySem.W.Frag) (mg : Str → Option Value) (x : Str) (C : Addr) : Prop where
  ex : ∃ fI, PySem.ExZ.Txt0 P K x C fI
  gC : mg x = some (.ref C)
  gs : mg "super" = none
theorem pmk_exz {p pos : Pos} {k : Nat} (T : ExcZ X.prog X.K X.mg nm C) (hr : Room k X.A) (hk : 1 ≤ k) (hg : Gl X nm) (hdb : (nm == ("__debug__" : Str)) = false) :
    PMk X (.Call (.Name nm p) [] [] pos) (tMkZ C nm) := by
  obtain ⟨⟨fI, T⟩, gC, gs⟩ := T
  intro pins s σ H Q I h
  refine wpAny_Call_Name_kw (ld_glob I hg gC ?_ hdb); refine PySem.W.callWith_K0 I.kIn T.kC0 ?_
  have hlim := I.nolimit
  have glob := I.mod.glob.keeps I.bk
  obtain ⟨mb, hb, hbb⟩ := I.mod.blt
  have hb := hb.keeps I.bk
  have kIn := I.kIn
  obtain ⟨hp, g, dr, tk, os⟩ := s; refine wpAny_call (PySem.ExZ.made0 T kIn hlim glob gs hb (hbb _ (by decide)) (by have := hr.dp; omega) fun h' tk' e d M => ?_)
  show MkP X pins σ Q (.ref e) ⟨h', g, dr, tk', os⟩; obtain ⟨t1, hoe⟩ := M.obj0
  obtain ⟨tk2, hns⟩ := M.ns0
  obtain ⟨G', g1, g2⟩ := restrict h' fun b => decide (b ≠ e); have gk : ∀ b, b ≠ e → G'.get? b = h'.get? b := fun b hb => g1 b (decide_eq_true hb); have ge : G'.get? e = none := g2 e (by simp)
  have old : ∀ b o, hp.get? b = some o → G'.get? b = some o := fun b o q => (gk b (Nat.ne_of_lt (Nat.lt_of_lt_of_le (Heap.lt_size q) M.new0))).trans (M.keep0 b o q)
  have ob : ObjOk X.prog X.w (upd H d (.xd (excZ nm))) G' d (.xd (excZ nm)) := ⟨_, hns.at (fun o q => (gk d M.dne0).trans q), relO_excZ⟩
  have J : Inv X pins σ (upd H d (.xd (excZ nm))) ⟨G', g, dr, tk', os⟩ := I.laid (t' := tk') old M.dbig0 ob
  refine ⟨e, _, _, ⟨G', g, dr, tk', os⟩, _, .ref C, some d, rfl, J, fun b o q => ?_, ge, hoe, ⟨rfl, rfl⟩, rfl, rfl, ?_, rfl, I.bare, raises_own T.exC0 T.tyC0, h d (I.hok.fresh M.dbig0)⟩
  · by_cases hb : b = e
    · have gone : G'.get? b = some o := q
      rw [hb, ge] at gone; cases gone
    · exact (gk b hb).symm.trans (show G'.get? b = some o from q)
  · rw [upd_ne (Ne.symm M.dne0)]
    exact I.hok.fresh M.new0
/-- raise C() -/
def tRaiseZ (C : Addr) (nm : Str) (E : XK) : TS := fun _ σ H => tMkZ C nm σ H E
theorem ps_raiseZ {p pos pos2 : Pos} {k : Nat} {E : XK} (hc : X.calm = true) (T : ExcZ X.prog X.K X.mg nm C) (hr : Room k X.A) (hk : 1 ≤ k) (tk : Takes X fun cls d _ H => E cls d H) (hg : Gl X nm) (hdb : (nm == ("__debug__" : Str)) = false) :
    PS X (.Raise (some (.Call (.Name nm p) [] [] pos)) none pos2) (tRaiseZ C nm E) := ps_raise hc tk (pmk_exz T hr hk hg hdb)
end

/-! The unchanging heap G under the heap H, with a list L of the objects that may change. -/

/-- G: what stays; L: what may change; both stand in H -/
structure Stt (G H : Hp) (L : List (Addr × HO)) : Prop where
  ex : Ex G H
  has : ∀ p, p ∈ L → H p.1 = some p.2
  out : ∀ p, p ∈ L → G p.1 = none
  nd : (L.map (·.1)).Nodup

theorem Ex.upd2 {G H : Hp} {p : Addr} {o : HO} (e : Ex G H) : Ex (upd G p o) (upd H p o) := fun a u h => by
  unfold upd at h ⊢
  by_cases c : a = p
  · rw [if_pos c] at h ⊢; exact h
  · rw [if_neg c] at h ⊢; exact e a u h
section
variable {G H : Hp} {L : List (Addr × HO)} {p b : Addr} {o o' : HO}
theorem Stt.free (S : Stt G H L) (h : H p = none) : G p = none := fresh_back S.ex h
theorem Stt.ne (S : Stt G H L) (h : H p = none) : ∀ q, q ∈ L → q.1 ≠ p := fun q hq z => by
  have := S.has q hq
  rw [z, h] at this
  cases this
theorem Stt.new (S : Stt G H L) (h : H p = none) : Stt (upd G p o) (upd H p o) L :=
  ⟨Ex.upd2 S.ex, fun q hq => by rw [upd_ne (S.ne h q hq)]; exact S.has q hq, fun q hq => by rw [upd_ne (S.ne h q hq)]; exact S.out q hq, S.nd⟩
theorem Stt.newE (S : Stt G H L) (h : H p = none) : Ex G (upd G p o) := Ex.new (S.free h)
theorem Stt.mkL (S : Stt G H L) (h : H p = none) : Stt G (upd H p o) ((p, o) :: L) := by
  refine ⟨S.ex.trans (Ex.new h), fun q hq => ?_, fun q hq => ?_, ?_⟩
  · cases hq with
    | head => exact upd_same
    | tail _ hq => rw [upd_ne (S.ne h q hq)]; exact S.has q hq
  · cases hq with
    | head => exact S.free h
    | tail _ hq => exact S.out q hq
  · rw [List.map_cons, List.nodup_cons]
    refine ⟨fun hm => ?_, S.nd⟩
    obtain ⟨q, hq, e⟩ := List.mem_map.mp hm
    exact S.ne h q hq e
theorem Stt.at (S : Stt G H L) (i : Nat) (h : L[i]? = some (b, o)) : H b = some o := S.has (b, o) (List.mem_of_getElem? h)
theorem Stt.drop (S : Stt G H ((p, o) :: L)) : Stt G H L :=
  ⟨S.ex, fun q hq => S.has q (List.mem_cons_of_mem _ hq), fun q hq => S.out q (List.mem_cons_of_mem _ hq), (List.nodup_cons.mp S.nd).2⟩
/-- what changed no longer will -/
theorem Stt.frz (S : Stt G H ((p, o) :: L)) : Stt (upd G p o) H L := by
  have hp : H p = some o := S.has (p, o) (List.mem_cons_self ..)
  refine ⟨fun a u h => ?_, S.drop.has, fun q hq => ?_, S.drop.nd⟩
  · unfold upd at h
    by_cases c : a = p
    · rw [if_pos c] at h
      cases h
      rw [c]; exact hp
    · rw [if_neg c] at h; exact S.ex a u h
  · have hne : q.1 ≠ p := fun z => (List.nodup_cons.mp S.nd).1 (List.mem_map.mpr ⟨q, hq, z⟩)
    rw [upd_ne hne]
    exact S.out q (List.mem_cons_of_mem _ hq)
theorem Stt.frzE (S : Stt G H ((p, o) :: L)) : Ex G (upd G p o) := Ex.new (S.out (p, o) (List.mem_cons_self ..))
theorem Stt.wr (S : Stt G H L) (i : Nat) (h : L[i]? = some (b, o)) : Stt G (upd H b o') (L.set i (b, o')) := by
  have hi : i < L.length := (List.getElem?_eq_some_iff.mp h).1
  have hb : (b, o) ∈ L := List.mem_of_getElem? h
  have hmap : (L.set i (b, o')).map (·.1) = L.map (·.1) := by
    rw [List.map_set]
    apply List.ext_getElem?
    intro j
    rw [List.getElem?_set]
    by_cases c : i = j
    · subst c
      rw [if_pos rfl, if_pos (by rw [List.length_map]; exact hi), List.getElem?_map, h]
      rfl
    · rw [if_neg c]
  have key : ∀ q, q ∈ L.set i (b, o') → q = (b, o') ∨ (q ∈ L ∧ q.1 ≠ b) := fun q hq => by
    obtain ⟨j, hj⟩ := List.getElem?_of_mem hq
    rw [List.getElem?_set] at hj
    by_cases c : i = j
    · subst c
      rw [if_pos rfl, if_pos hi] at hj
      exact .inl (Option.some.inj hj).symm
    · rw [if_neg c] at hj
      refine .inr ⟨List.mem_of_getElem? hj, fun z => c ?_⟩
      have h1 : (L.map (·.1))[i]? = some b := by rw [List.getElem?_map, h]; rfl
      have h2 : (L.map (·.1))[j]? = some b := by rw [List.getElem?_map, hj, ← z]; rfl
      have hi' : i < (L.map (·.1)).length := by rw [List.length_map]; exact hi
      exact (List.getElem?_inj hi' S.nd).mp (h1.trans h2.symm)
  refine ⟨fun a u ha => ?_, fun q hq => ?_, fun q hq => ?_, by rw [hmap]; exact S.nd⟩
  · rw [upd_ne (ne_of_none ha (S.out (b, o) hb))]
    exact S.ex a u ha
  · rcases key q hq with rfl | ⟨hq, hne⟩
    · exact upd_same
    · rw [upd_ne hne]; exact S.has q hq
  · rcases key q hq with rfl | ⟨hq, hne⟩
    · exact S.out (b, o) hb
    · exact S.out q hq
theorem Stt.nil (H : Hp) : Stt H H [] := ⟨Ex.refl H, (fun _ h => nomatch h), (fun _ h => nomatch h), List.nodup_nil⟩
theorem Stt.out_nil {G H : Hp} (S : Stt G H []) : Stt H H [] := Stt.nil H
end

/-! ### data -/
mutual
theorem Dp.ex {K : PySem.W.Frag} {H H' : Hp} (e : Ex H H') : ∀ (d : PyData) (v : V), Dp K H v d → Dp K H' v d
  | .none, _, h => by cases h; exact .non
  | .bool b, _, h => by cases h; exact .bl b
  | .int i, _, h => by cases h; exact .int i
  | .str x, _, h => by cases h; exact .str x
  | .list ds, _, h => by
    cases h with
    | lst hs ha => exact .lst (ex_l e hs) (DpAll.ex e ds _ ha)
  | .tuple ds, _, h => by
    cases h with
    | tup hs ha => exact .tup (ex_t e hs) (DpAll.ex e ds _ ha)
  | .dict _, _, h => by cases h
theorem DpAll.ex {K : PySem.W.Frag} {H H' : Hp} (e : Ex H H') : ∀ (ds : List PyData) (vs : List V), DpAll K H vs ds → DpAll K H' vs ds
  | [], _, h => by cases h; exact .nil
  | d :: ds, _, h => by
    cases h with
    | cons h1 h2 => exact .cons (Dp.ex e d _ h1) (DpAll.ex e ds _ h2)
end
theorem DpAll.length {K : PySem.W.Frag} {H : Hp} : ∀ {vs : List V} {ds : List PyData}, DpAll K H vs ds → vs.length = ds.length
  | _, _, .nil => rfl
  | _, _, .cons _ h => by rw [List.length_cons, List.length_cons, DpAll.length h]
theorem DpAll.get {K : PySem.W.Frag} {H : Hp} : ∀ {vs : List V} {ds : List PyData} {i : Nat} {v : V}, DpAll K H vs ds → vs[i]? = some v → ∃ d, ds[i]? = some d ∧ Dp K H v d
  | _, _, _, _, .nil, h => by simp at h
  | _, _, 0, _, .cons h1 _, h => by
    cases (Option.some.inj h)
    exact ⟨_, rfl, h1⟩
  | _, _, i + 1, _, .cons _ h2, h => DpAll.get (i := i) h2 h
theorem DpAll.append {K : PySem.W.Frag} {H : Hp} : ∀ {vs ws : List V} {ds es : List PyData}, DpAll K H vs ds → DpAll K H ws es → DpAll K H (vs ++ ws) (ds ++ es)
  | _, _, _, _, .nil, h => h
  | _, _, _, _, .cons h1 h2, h => .cons h1 (DpAll.append h2 h)
theorem DpAll.snoc {K : PySem.W.Frag} {H : Hp} {vs : List V} {ds : List PyData} {v : V} {d : PyData} (h : DpAll K H vs ds) (h1 : Dp K H v d) : DpAll K H (vs ++ [v]) (ds ++ [d]) := DpAll.append h (.cons h1 .nil)
theorem DpAll.take {K : PySem.W.Frag} {H : Hp} : ∀ {vs : List V} {ds : List PyData} (n : Nat), DpAll K H vs ds → DpAll K H (vs.take n) (ds.take n)
  | _, _, 0, _ => .nil
  | _, _, _ + 1, .nil => .nil
  | _, _, n + 1, .cons h1 h2 => .cons h1 (DpAll.take n h2)
theorem DpAll.drop {K : PySem.W.Frag} {H : Hp} : ∀ {vs : List V} {ds : List PyData} (n : Nat), DpAll K H vs ds → DpAll K H (vs.drop n) (ds.drop n)
  | _, _, 0, h => h
  | _, _, _ + 1, .nil => .nil
  | _, _, n + 1, .cons _ h2 => DpAll.drop n h2
theorem DpAll.ints {K : PySem.W.Frag} {H : Hp} : ∀ (ns : List Int), DpAll K H (ns.map V.int) (ns.map PyData.int)
  | [] => .nil
  | n :: ns => .cons (.int n) (DpAll.ints ns)
theorem DpAll.bools {K : PySem.W.Frag} {H : Hp} : ∀ (ns : List Bool), DpAll K H (ns.map V.bl) (ns.map PyData.bool)
  | [] => .nil
  | n :: ns => .cons (.bl n) (DpAll.bools ns)

/-! Readings by the head of what is read; rules that serve several kinds of values. -/
section
variable {K : PySem.W.Frag} {σ : L2.St} {H : Hp} {v x y : V} {ta tb tc te : TE} {t u : TT} {Q : VK} {QT : Bool → Hp → Prop} {QA : List V → Hp → Prop} {D : Ends} {tr : TA} {t1 t2 : TS} {i : Nat}
theorem rd_var (h : σ[i]? = some (some v)) (q : Q v H) : tVar i σ H Q := ⟨v, h, q⟩
theorem rd_c (q : Q v H) : tC v σ H Q := q
theorem rd_op {r : R2} (q : ta σ H fun x H1 => tb σ H1 fun y H2 => r x y H2 Q) : tOp r ta tb σ H Q := q
theorem rd_un {r : V → Hp → VK → Prop} (q : ta σ H fun x H1 => r x H1 Q) : tUn r ta σ H Q := q
theorem rd_test (q : te σ H fun x H1 => ∃ k, x = .bl k ∧ QT k H1) : tTest te σ H QT := q
theorem rd_B (q : te σ H fun x H1 => ∃ k, x = .bl k ∧ QT k H1) : tB te σ H QT := q
theorem rd_bl {P : Bool → Prop} {k : Bool} (q : P k) : ∃ c, V.bl k = V.bl c ∧ P c := ⟨k, rfl, q⟩
theorem rd_and (q : t σ H fun c H1 => if c = true then u σ H1 QT else QT false H1) : tAnd t u σ H QT := q
theorem rd_or (q : t σ H fun c H1 => if c = true then QT true H1 else u σ H1 QT) : tOr t u σ H QT := q
theorem rd_not (q : t σ H fun c H1 => QT (!c) H1) : tNot t σ H QT := q
theorem rd_andV (q : ta σ H fun x H1 => ∃ c, x = .bl c ∧ if c = true then tb σ H1 Q else Q (.bl false) H1) : tAndV ta tb σ H Q := q
theorem rd_orV (q : ta σ H fun x H1 => ∃ c, x = .bl c ∧ if c = true then Q (.bl true) H1 else tb σ H1 Q) : tOrV ta tb σ H Q := q
theorem rd_notV (q : ta σ H fun x H1 => ∃ c, x = .bl c ∧ Q (.bl (!c)) H1) : tNotV ta σ H Q := q
theorem rd_if (q : t σ H fun c H1 => if c = true then ta σ H1 Q else tb σ H1 Q) : tIf t ta tb σ H Q := q
theorem rd_nil (q : QA [] H) : tNil σ H QA := q
theorem rd_cons (q : ta σ H fun x H1 => tr σ H1 fun xs H2 => QA (x :: xs) H2) : tCons ta tr σ H QA := q
theorem rd_cb {r : List V → Hp → VK → Prop} (q : tr σ H fun vs H1 => r vs H1 Q) : tCB r tr σ H Q := q
theorem rd_call {sp : Sp} {E : XK} (q : tr σ H fun vs H1 => sp (vs ++ []) H1 Q E) : tCall sp [] E tr σ H Q := q
theorem rd_callK {sp : Sp} {gV : List V → List V → List V} {E : XK} {tk : TA} (q : tr σ H fun vs H1 => tk σ H1 fun zs H2 => sp (gV vs zs) H2 Q E) : tCallK sp gV E tr tk σ H Q := q
theorem rd_seq (q : t1 { D with nx := t2 D } σ H) : tSeq t1 t2 D σ H := q
theorem rd_ifs (q : t σ H fun b H1 => if b = true then t1 D σ H1 else t2 D σ H1) : tIfS t t1 t2 D σ H := q
theorem rd_next (q : D.nx σ H) : tNext D σ H := q
theorem rd_ret (q : te σ H D.rt) : tRet te D σ H := q
theorem rd_drop (q : te σ H fun _ H1 => D.nx σ H1) : tDrop te D σ H := q
theorem rd_asg {g : TG} (q : te σ H fun x H1 => g x σ H1 D.nx) : tAsg te g D σ H := q
theorem rd_name {N : L2.St → Hp → Prop} (q : N (σ.set i (some v)) H) : gName i v σ H N := q
theorem rd_tup (q : tr σ H fun xs H1 => xs.length ≤ sizeLine ∧ ∀ p, H1 p = none → Q (.ref p) (upd H1 p (.tup xs))) : tTup tr σ H Q := q
theorem rd_lst (q : tr σ H fun xs H1 => xs.length ≤ sizeLine ∧ ∀ p, H1 p = none → Q (.ref p) (upd H1 p (.lst xs))) : tLst tr σ H Q := q
theorem rd_par {i j : Nat} (q : tr σ H fun vs H1 => ∃ v w, vs = [v, w] ∧ D.nx ((σ.set i (some v)).set j (some w)) H1) : tPar i j tr D σ H := q
theorem rd_two {P : V → V → Prop} {a b : V} (q : P a b) : ∃ v w, [a, b] = [v, w] ∧ P v w := ⟨a, b, rfl, q⟩
theorem rd_bm {T : String} {r : V → List V → Hp → VK → Prop} (q : te σ H fun x H1 => tyV K T x H1 ∧ tr σ H1 fun xs H2 => r x xs H2 Q) : tBM K T r te tr σ H Q := q
theorem rd_app {a : Addr} {xs : List V} (h : H a = some (.lst xs)) (z : xs.length < 1000000) (q : Q .non (upd H a (.lst (xs ++ [v])))) : rAppend (.ref a) [v] H Q := ⟨a, xs, v, rfl, rfl, h, Nat.lt_of_lt_of_le z (by decide), q⟩
theorem ty_list {a : Addr} {xs : List V} (h : SqL K H a xs) : tyV K "list" (.ref a) H := .inl ⟨rfl, _, h⟩
theorem rd_sl {r : V → Option Int → Option Int → Hp → VK → Prop} {tl th : TO} (q : te σ H fun x H1 => tl σ H1 fun l H2 => th σ H2 fun u H3 => r x l u H3 Q) : tSl r te tl th σ H Q := q
theorem rd_noPart {QO : Option Int → Hp → Prop} (q : QO none H) : tNoPart σ H QO := q
theorem rd_part {QO : Option Int → Hp → Prop} (q : te σ H fun x H1 => ∃ i, x = .int i ∧ QO (some i) H1) : tPart te σ H QO := q
theorem rd_int {P : Int → Prop} {k : Int} (q : P k) : ∃ i, V.int k = V.int i ∧ P i := ⟨k, rfl, q⟩
theorem rd_dec {A B p : Prop} [Decidable p] (h1 : p → A) (h2 : ¬ p → B) : if decide p = true then A else B := by
  by_cases h : p
  · rw [decide_eq_true h, if_pos rfl]; exact h1 h
  · rw [decide_eq_false h, if_neg Bool.false_ne_true]; exact h2 h
theorem rd_decN {A B p : Prop} [Decidable p] (h1 : p → B) (h2 : ¬ p → A) : if (!decide p) = true then A else B := by
  by_cases h : p
  · rw [decide_eq_true h, if_neg (show ¬ (!true) = true by decide)]; exact h1 h
  · rw [decide_eq_false h, if_pos (show (!false) = true by decide)]; exact h2 h
theorem rd_nT {A B : Prop} (h : B) : if (!true) = true then A else B := by rw [if_neg (show ¬ (!true) = true by decide)]; exact h
theorem rd_nF {A B : Prop} (h : A) : if (!false) = true then A else B := by rw [if_pos (show (!false) = true by decide)]; exact h
theorem rd_iT {A B : Prop} (h : A) : if true = true then A else B := h
theorem rd_iF {A B : Prop} (h : B) : if false = true then A else B := by rw [if_neg Bool.false_ne_true]; exact h
/-! operators of ints -/
theorem rd_I0 {g : Int → Int → V} {a b : Int} (q : Q (g a b) H) : rI0 g (.int a) (.int b) H Q := ⟨a, b, rfl, rfl, q⟩
theorem rd_I {C : Int → Int → Prop} {g : Int → Int → V} {a b : Int} (c : C a b) (q : Q (g a b) H) : rI C g (.int a) (.int b) H Q := ⟨a, b, rfl, rfl, c, q⟩
theorem rd_U {g : Int → V} {a : Int} (q : Q (g a) H) : rU g (.int a) H Q := ⟨a, rfl, q⟩
/-! is None -/
theorem rd_isN (q : Q (.bl (decide (x = .non))) H) : rIsN x .non H Q := ⟨rfl, q⟩
theorem rd_notN (q : Q (.bl (!decide (x = .non))) H) : rNotN x .non H Q := ⟨rfl, q⟩
theorem int_non {a : Int} : decide (V.int a = V.non) = false := decide_eq_false (fun z => nomatch z)
theorem str_non {a : Str} : decide (V.str a = V.non) = false := decide_eq_false (fun z => nomatch z)
theorem bl_non {a : Bool} : decide (V.bl a = V.non) = false := decide_eq_false (fun z => nomatch z)
theorem ref_non {a : Addr} : decide (V.ref a = V.non) = false := decide_eq_false (fun z => nomatch z)
theorem non_non : decide (V.non = V.non) = true := decide_eq_true rfl
theorem int_eq {a b : Int} : decide (V.int a = V.int b) = decide (a = b) := by
  by_cases h : a = b
  · subst h; rw [decide_eq_true rfl, decide_eq_true rfl]
  · rw [decide_eq_false h, decide_eq_false (fun z => h (V.int.inj z))]
theorem bl_eq {a b : Bool} : decide (V.bl a = V.bl b) = decide (a = b) := by
  by_cases h : a = b
  · subst h; rw [decide_eq_true rfl, decide_eq_true rfl]
  · rw [decide_eq_false h, decide_eq_false (fun z => h (V.bl.inj z))]
theorem str_eq {a b : Str} : decide (V.str a = V.str b) = decide (a = b) := by
  by_cases h : a = b
  · subst h; rw [decide_eq_true rfl, decide_eq_true rfl]
  · rw [decide_eq_false h, decide_eq_false (fun z => h (V.str.inj z))]
end

/-! ### rules of several kinds -/
/-- a + b -/
def rStrAdd : R2 := fun x y H Q => ∃ i j, x = .str i ∧ y = .str j ∧ i.length + j.length ≤ sizeLine ∧ Q (.str (i ++ j)) H
def gAdd (K : PySem.W.Frag) : R2 := fun x y H Q => rI0 (fun i j => .int (i + j)) x y H Q ∨ rStrAdd x y H Q ∨ rCat x y H Q ∨ rCatA K x y H Q
/-- a == b: scalars; data -/
def gEq (K : PySem.W.Frag) : R2 := fun x y H Q => rEq x y H Q ∨ rEqD K x y H Q
def gNe (K : PySem.W.Frag) : R2 := fun x y H Q => rNe x y H Q ∨ rNeD K x y H Q
/-- a * b: ints; a list's copies -/
def gMul : R2 := fun x y H Q => rI CMul (fun i j => .int (i * j)) x y H Q ∨ rRep x y H Q
/-- a < b -/
def rStrLt : R2 := fun x y H Q => ∃ i j, x = .str i ∧ y = .str j ∧ Q (.bl (decide (i.cps.toList < j.cps.toList))) H
/-- a < b of data that can be compared place by place -/
def rLtD (K : PySem.W.Frag) : R2 := fun x y H Q => ∃ d e, Dp K H x d ∧ Dp K H y e ∧ PySem.W.alike d e = true ∧ d ≠ .none ∧ PyData.depth d ≤ 64 ∧ Q (.bl (PySem.W.dataLt d e)) H
theorem op_ltD {X : Cx} (hu : X.A.units + 64 < cLine) : OpR X (compareOp .Lt) (rLtD X.K) := by
  rintro pins s σ H x y v u Q hI hv hu' ⟨d, e, hd, he, hal, hno, hdep, hQ⟩
  have ⟨l1, hr1⟩ := Dp.reads hI d x v hd hv
  have ⟨l2, hr2⟩ := Dp.reads hI e y u he hu'
  have room : X.A.units + min d.depth e.depth < cLine := by
    have hm := Nat.min_le_left d.depth e.depth
    omega
  exact PySem.W.rcLt_alike d e X.A s v u l1 l2 hr1 hr2 hal hno room _ _ _ _ ⟨.bl _, H, hI, rfl, hQ⟩
def gLt (K : PySem.W.Frag) : R2 := fun x y H Q => rI0 (fun i j => .bl (decide (i < j))) x y H Q ∨ rStrLt x y H Q ∨ rLtD K x y H Q
/-- x in y: a sign of a text; of a list or tuple of flat things; data in a list -/
def gIn (K : PySem.W.Frag) : R2 := fun x y H Q => rInS x y H Q ∨ rIn K false x y H Q
def gNotIn (K : PySem.W.Frag) : R2 := fun x y H Q => rNotInS x y H Q ∨ rIn K true x y H Q
def gSl (K : PySem.W.Frag) : V → Option Int → Option Int → Hp → VK → Prop := fun x lo hi H Q => rSlL K x lo hi H Q ∨ rSlS x lo hi H Q ∨ rSlT K x lo hi H Q
def rSeqOf (K : PySem.W.Frag) (x : V) (H : Hp) (xs : List V) : Prop := ∃ p, x = .ref p ∧ (SqL K H p xs ∨ SqT K H p xs)
def gLen (K : PySem.W.Frag) : List V → Hp → VK → Prop := fun xs H Q => ∃ x n, xs = [x] ∧ LenV K x H n ∧ Q (.int n) H
def gInt : List V → Hp → VK → Prop := fun xs H Q => ((∃ i, xs = [.int i] ∧ Q (.int i) H) ∨ ∃ k, xs = [.bl k] ∧ Q (.int (if k then 1 else 0)) H) ∨ (∃ a n, xs = [.str a] ∧ PySem.intText? a = some n ∧ a.length ≤ 640 ∧ Q (.int n) H)
def gBool : List V → Hp → VK → Prop := fun xs H Q => (∃ i, xs = [.int i] ∧ Q (.bl (i != 0)) H) ∨ ∃ k, xs = [.bl k] ∧ Q (.bl k) H
def gList (K : PySem.W.Frag) : List V → Hp → VK → Prop := fun xs H Q => ∃ p ys, xs = [.ref p] ∧ (SqL K H p ys ∨ SqT K H p ys) ∧ ∀ l, H l = none → Q (.ref l) (upd H l (.lst ys))
def gTuple (K : PySem.W.Frag) : List V → Hp → VK → Prop := fun xs H Q => ∃ p ys, xs = [.ref p] ∧ ((SqL K H p ys ∧ ∀ l, H l = none → Q (.ref l) (upd H l (.tup ys))) ∨ (SqT K H p ys ∧ Q (.ref p) H))
def gIsi (K : PySem.W.Frag) : List V → Hp → VK → Prop := fun xs H Q => rIsi K xs H Q ∨ rIsiT K xs H Q
def gRange1 : Nat := 0
section
variable {X : Cx}
theorem og_add : OpR X (binaryOp .Add) (gAdd X.K) := op_add.or (op_add_str.or (op_cat.or op_catA))
theorem og_sub : OpR X (binaryOp .Sub) (rI0 fun i j => .int (i - j)) := op_sub
theorem og_mul : OpR X (binaryOp .Mult) gMul := op_mul.or op_rep
theorem og_mod : OpR X (binaryOp .Mod) (rI (fun _ j => j ≠ 0) fun i j => .int (i.fmod j)) := op_modN
theorem og_fdiv : OpR X (binaryOp .FloorDiv) (rI CDivN fun i j => .int (i.fdiv j)) := op_fdivN
theorem og_pow : OpR X (binaryOp .Pow) (rI CPow fun i j => .int (i ^ j.toNat)) := op_pow
theorem og_eq (hu : X.A.units + 64 < cLine) : OpR X (compareOp .Eq) (gEq X.K) := op_eq.or (op_eqD hu)
theorem og_ne (hu : X.A.units + 64 < cLine) : OpR X (compareOp .NotEq) (gNe X.K) := op_ne.or (op_neD hu)
theorem og_lt (hu : X.A.units + 64 < cLine) : OpR X (compareOp .Lt) (gLt X.K) := op_lt.or (op_lt_str.or (op_ltD hu))
theorem og_le : OpR X (compareOp .LtE) (rI0 fun i j => .bl (decide (i ≤ j))) := op_le
theorem og_gt : OpR X (compareOp .Gt) (rI0 fun i j => .bl (decide (j < i))) := op_gt
theorem og_ge : OpR X (compareOp .GtE) (rI0 fun i j => .bl (decide (j ≤ i))) := op_ge
theorem og_in : OpR X (compareOp .In) (gIn X.K) := op_inS.or op_in_seq
theorem og_notIn : OpR X (compareOp .NotIn) (gNotIn X.K) := op_notInS.or op_notIn_seq
theorem og_sl : SlR X (gSl X.K) := sl_list.or (sl_str.or sl_tup)
theorem cg_len : CallR X (.builtin "len") (gLen X.K) := call_len
theorem cg_int : CallR X (.type "int") gInt := call_int1.or call_int_str
theorem cg_bool : CallR X (.type "bool") gBool := call_bool1
theorem cg_list : CallR X (.type "list") (gList X.K) := call_list_of
theorem cg_tuple : CallR X (.type "tuple") (gTuple X.K) := call_tuple_of
theorem cg_isi : CallR X (.builtin "isinstance") (gIsi X.K) := call_isi.or call_isiT
end
section
variable {K : PySem.W.Frag} {σ : L2.St} {H : Hp} {v x y : V} {Q : VK}
theorem rd_addI {a b : Int} (q : Q (.int (a + b)) H) : gAdd K (.int a) (.int b) H Q := .inl ⟨a, b, rfl, rfl, q⟩
theorem rd_addS {a b : Str} (h : a.length + b.length ≤ sizeLine) (q : Q (.str (a ++ b)) H) : gAdd K (.str a) (.str b) H Q := .inr (.inl ⟨a, b, rfl, rfl, h, q⟩)
theorem rd_addL {a b : Addr} {xs ys : List V} (h1 : H a = some (.lst xs)) (h2 : H b = some (.lst ys)) (h : xs.length + ys.length ≤ sizeLine) (q : ∀ p, H p = none → Q (.ref p) (upd H p (.lst (xs ++ ys)))) : gAdd K (.ref a) (.ref b) H Q := .inr (.inr (.inl ⟨a, b, xs, ys, rfl, rfl, h1, h2, h, q⟩))
theorem rd_mulI {a b : Int} (h : CMul a b) (q : Q (.int (a * b)) H) : gMul (.int a) (.int b) H Q := .inl ⟨a, b, rfl, rfl, h, q⟩
theorem rd_eqI {a b : Int} (q : Q (.bl (decide (a = b))) H) : gEq K (.int a) (.int b) H Q := .inl ⟨rfl, by rw [int_eq]; exact q⟩
theorem rd_neI {a b : Int} (q : Q (.bl (!decide (a = b))) H) : gNe K (.int a) (.int b) H Q := .inl ⟨rfl, by rw [int_eq]; exact q⟩
theorem rd_eqB {a b : Bool} (q : Q (.bl (decide (a = b))) H) : gEq K (.bl a) (.bl b) H Q := .inl ⟨rfl, by rw [bl_eq]; exact q⟩
theorem rd_neB {a b : Bool} (q : Q (.bl (!decide (a = b))) H) : gNe K (.bl a) (.bl b) H Q := .inl ⟨rfl, by rw [bl_eq]; exact q⟩
theorem rd_eqS {a b : Str} (q : Q (.bl (decide (a = b))) H) : gEq K (.str a) (.str b) H Q := .inl ⟨rfl, by rw [str_eq]; exact q⟩
theorem rd_neS {a b : Str} (q : Q (.bl (!decide (a = b))) H) : gNe K (.str a) (.str b) H Q := .inl ⟨rfl, by rw [str_eq]; exact q⟩
theorem rd_eqD {d e : PyData} (h1 : Dp K H x d) (h2 : Dp K H y e) (s1 : SeqAt.shaped d = true) (s2 : SeqAt.shaped e = true) (q : Q (.bl (PyData.eqv d e)) H) : gEq K x y H Q := .inr ⟨d, e, h1, h2, s1, s2, q⟩
theorem rd_neD {d e : PyData} (h1 : Dp K H x d) (h2 : Dp K H y e) (s1 : SeqAt.shaped d = true) (s2 : SeqAt.shaped e = true) (q : Q (.bl (!PyData.eqv d e)) H) : gNe K x y H Q := .inr ⟨d, e, h1, h2, s1, s2, q⟩
theorem rd_ltI {a b : Int} (q : Q (.bl (decide (a < b))) H) : gLt K (.int a) (.int b) H Q := .inl ⟨a, b, rfl, rfl, q⟩
theorem rd_ltD {d e : PyData} (h1 : Dp K H x d) (h2 : Dp K H y e) (a : PySem.W.alike d e = true) (n : d ≠ .none) (z : PyData.depth d ≤ 64) (q : Q (.bl (PySem.W.dataLt d e)) H) : gLt K x y H Q := .inr (.inr ⟨d, e, h1, h2, a, n, z, q⟩)
theorem rd_intI {a : Int} (q : Q (.int a) H) : gInt [.int a] H Q := .inl (.inl ⟨a, rfl, q⟩)
theorem rd_intB {k : Bool} (q : Q (.int (if k then 1 else 0)) H) : gInt [.bl k] H Q := .inl (.inr ⟨k, rfl, q⟩)
theorem rd_boolB {k : Bool} (q : Q (.bl k) H) : gBool [.bl k] H Q := .inr ⟨k, rfl, q⟩
theorem rd_boolI {k : Int} (q : Q (.bl (k != 0)) H) : gBool [.int k] H Q := .inl ⟨k, rfl, q⟩
theorem rd_lenL {a : Addr} {xs : List V} (h : SqL K H a xs) (q : Q (.int xs.length) H) : gLen K [.ref a] H Q := ⟨.ref a, xs.length, rfl, .inl ⟨xs, h, rfl⟩, q⟩
theorem rd_lenT {a : Addr} {xs : List V} (h : SqT K H a xs) (q : Q (.int xs.length) H) : gLen K [.ref a] H Q := ⟨.ref a, xs.length, rfl, .inr ⟨xs, h, rfl⟩, q⟩
theorem rd_lenS {z : Str} (h : z.length ≤ sizeLine) (q : Q (.int z.length) H) : gLen K [.str z] H Q := ⟨.str z, z.length, rfl, ⟨h, rfl⟩, q⟩
theorem rd_ixL {a : Addr} {xs : List V} {i : Int} (h : SqL K H a xs) (e : atI xs i = some v) (q : Q v H) : rIx K (.ref a) (.int i) H Q := .inl ⟨a, xs, i, v, rfl, rfl, h, e, q⟩
theorem rd_ixT {a : Addr} {xs : List V} {i : Int} (h : SqT K H a xs) (e : atI xs i = some v) (q : Q v H) : rIx K (.ref a) (.int i) H Q := .inr (.inl ⟨a, xs, i, v, rfl, rfl, h, e, q⟩)
theorem rd_ixS {z : Str} {c : Nat} {i : Int} (h : z.length ≤ sizeLine) (e : atI z.cps.toList i = some c) (q : Q (.str ⟨#[c]⟩) H) : rIx K (.str z) (.int i) H Q := .inr (.inr ⟨z, i, c, rfl, rfl, h, e, q⟩)
theorem rd_all {a : Addr} {bs : List Bool} (h : SqL K H a (bs.map V.bl)) (q : Q (.bl (bs.all id)) H) : rAll K [.ref a] H Q := ⟨a, bs, rfl, h, q⟩
theorem rd_any {a : Addr} {bs : List Bool} (h : SqL K H a (bs.map V.bl)) (q : Q (.bl (bs.any id)) H) : rAny K [.ref a] H Q := ⟨a, bs, rfl, h, q⟩
theorem rd_slL {a : Addr} {xs : List V} {lo hi : Option Int} (h : SqL K H a xs) (q : ∀ p, H p = none → Q (.ref p) (upd H p (.lst (cutV xs lo hi)))) : gSl K (.ref a) lo hi H Q := .inl ⟨a, xs, rfl, h, q⟩
end

/-! Comprehensions and loops over the unchanging heap. -/
/-- what may be said of the heaps: it stays behind a new object, a list at its head may be written -/
structure Wd (W : Hp → Hp → List (Addr × HO) → Prop) : Prop where
  ex : ∀ {G H L}, W G H L → Ex G H
  new : ∀ {G H L p o}, W G H L → H p = none → W (upd G p o) (upd H p o) L
  mk2 : ∀ {G H L p o}, W G H L → H p = none → W G (upd H p o) ((p, o) :: L)
  get : ∀ {G H L p o}, W G H ((p, o) :: L) → H p = some o
  set : ∀ {G H L p o o'}, W G H ((p, o) :: L) → W G (upd H p o') ((p, o') :: L)
  free : ∀ {G H L p}, W G H L → H p = none → G p = none
  drop : ∀ {G H L p o}, W G H ((p, o) :: L) → W G H L
  frz : ∀ {G H L p o}, W G H ((p, o) :: L) → W (upd G p o) H L ∧ Ex G (upd G p o)
theorem stt_world : Wd Stt := ⟨Stt.ex, Stt.new, Stt.mkL, fun S => S.at 0 rfl, fun S => S.wr 0 rfl, Stt.free, Stt.drop, fun S => ⟨S.frz, S.frzE⟩⟩
theorem Wd.newE {W : Hp → Hp → List (Addr × HO) → Prop} (hW : Wd W) {G H : Hp} {L : List (Addr × HO)} {p : Addr} {o : HO} (S : W G H L) (h : H p = none) : Ex G (upd G p o) := Ex.new (hW.free S h)
section
variable {W : Hp → Hp → List (Addr × HO) → Prop} {K : PySem.W.Frag} {J : It} {n : Nat} {Gw : Hp → Prop} {Y : Nat → Hp → V → Hp → Prop} {G H : Hp} {L : List (Addr × HO)} {σ : L2.St} {g : TG} {tt : TT} {te : TE} {vs : List Nat} {Q : VK}
/-- what is read of a comprehension behind its source -/
def LcG (J : It) (g : TG) (tt : TT) (te : TE) (vs : List Nat) (σ : L2.St) (H : Hp) (Q : VK) : Prop := tLc (fun _ H R => R J H) g tt te vs σ H Q
theorem rd_lc {wi : TI} (q : wi σ H fun J H1 => LcG J g tt te vs σ H1 Q) : tLc wi g tt te vs σ H Q := q
theorem rd_yes {QT : Bool → Hp → Prop} (q : QT true H) : tYes σ H QT := q
/-- a comprehension over a walk -/
theorem lc_go (hW : Wd W) (w : Walk J n Gw Y) (S : W G H L) (hn : n < 1000000) (It : Nat → V → Hp → Prop) (Inv : Nat → List V → Hp → Prop)
    (hG : ∀ H', Ex G H' → Gw H')
    (hY : ∀ i x G1 H1 H2 L1, i < n → Ex G G1 → W G1 H1 L1 → Y i H1 x H2 → ∃ G2, Ex G1 G2 ∧ W G2 H2 L1 ∧ It i x G2)
    (h0 : Inv 0 [] G) (hM : ∀ i acc G1 G2, Ex G1 G2 → Inv i acc G1 → Inv i acc G2)
    (hS : ∀ D i x acc G1 H1, i < n → acc.length ≤ i → Ex G G1 → W G1 H1 ((D, .lst acc) :: L) → Inv i acc G1 → It i x G1 → ∀ (Kp : VK) (Sk : Hp → Prop),
      (∀ v G2 H2, Ex G1 G2 → W G2 H2 ((D, .lst acc) :: L) → Inv (i + 1) (acc ++ [v]) G2 → Kp v H2) →
      (∀ G2 H2, Ex G1 G2 → W G2 H2 ((D, .lst acc) :: L) → Inv (i + 1) acc G2 → Sk H2) →
      g x (wipe σ vs) H1 fun σ2 H2 => wipe σ2 vs = wipe σ vs ∧ tt σ2 H2 fun b H3 => if b = true then te σ2 H3 Kp else Sk H3)
    (q : ∀ D acc G2 H2, Ex G G2 → W G2 H2 ((D, .lst acc) :: L) → Inv n acc G2 → acc.length ≤ n → Q (.ref D) H2) :
    LcG J g tt te vs σ H Q := by
  intro D hD
  refine lc_it w (fun i H' => ∃ G1 acc, Ex G G1 ∧ W G1 H' ((D, .lst acc) :: L) ∧ Inv i acc G1 ∧ acc.length ≤ i) ⟨G, [], Ex.refl G, hW.mk2 S hD, h0, Nat.le_refl _⟩
    (fun i H' _ ⟨G1, acc, e1, S1, _, _⟩ => hG H' (e1.trans (hW.ex S1))) (fun i x H1 H2 hi ⟨G1, acc, e1, S1, I1, l1⟩ y => ?_) (fun H' ⟨G1, acc, e1, S1, I1, l1⟩ => q D acc G1 H' e1 S1 I1 l1)
  obtain ⟨G2, e2, S2, it2⟩ := hY i x G1 H1 H2 _ hi e1 S1 y
  have hsz : sizeLine = 16777216 := sizeLine_eq
  refine hS D i x acc G2 H2 hi l1 (e1.trans e2) S2 (hM i acc G1 G2 e2 I1) it2 _ _ (fun v G3 H3 e3 S3 I3 => ?_) (fun G3 H3 e3 S3 I3 => ?_)
  · exact ⟨acc, hW.get S3, by omega, G3, acc ++ [v], e1.trans (e2.trans e3), hW.set S3, I3, by rw [List.length_append, List.length_singleton]; omega⟩
  · exact ⟨G3, acc, e1.trans (e2.trans e3), S3, I3, by omega⟩
end
/-! ### new objects -/
section
variable {W : Hp → Hp → List (Addr × HO) → Prop} {G H : Hp} {L : List (Addr × HO)} {o : HO} {Q : Addr → Prop} {xs : List V}
theorem mk_im (hW : Wd W) (S : W G H L) (q : ∀ p G', Ex G G' → W G' (upd H p o) L → G' p = some o → Q p) : ∀ p, H p = none → Q p := fun p hp =>
  q p _ (hW.newE S hp) (hW.new S hp) upd_same
theorem mk_mu (hW : Wd W) (S : W G H L) (q : ∀ p, W G (upd H p o) ((p, o) :: L) → Q p) : ∀ p, H p = none → Q p := fun p hp =>
  q p (hW.mk2 S hp)
theorem mk_lst (hW : Wd W) (S : W G H L) (hz : xs.length ≤ 100000) (q : ∀ p G', Ex G G' → W G' (upd H p (.lst xs)) L → G' p = some (.lst xs) → Q p) : xs.length ≤ sizeLine ∧ ∀ p, H p = none → Q p := ⟨sz_of hz, mk_im hW S q⟩
theorem mk_tup (hW : Wd W) (S : W G H L) (hz : xs.length ≤ 100000) (q : ∀ p G', Ex G G' → W G' (upd H p (.tup xs)) L → G' p = some (.tup xs) → Q p) : xs.length ≤ sizeLine ∧ ∀ p, H p = none → Q p := ⟨sz_of hz, mk_im hW S q⟩
theorem mk_lstM (hW : Wd W) (S : W G H L) (hz : xs.length ≤ 100000) (q : ∀ p, W G (upd H p (.lst xs)) ((p, .lst xs) :: L) → Q p) : xs.length ≤ sizeLine ∧ ∀ p, H p = none → Q p := ⟨sz_of hz, mk_mu hW S q⟩
end
/-! ### a for -/
section
variable {J : It} {n : Nat} {Gw : Hp → Prop} {Y : Nat → Hp → V → Hp → Prop} {G H : Hp} {σ : L2.St} {g : TG} {tb : TS} {D : Ends}
def ForG (J : It) (g : TG) (tb : TS) (D : Ends) (σ : L2.St) (H : Hp) : Prop := tFor (fun _ H R => R J H) g tb D σ H
theorem rd_for {wi : TI} (q : wi σ H fun J H1 => ForG J g tb D σ H1) : tFor wi g tb D σ H := q
theorem for_go (w : Walk J n Gw Y) (Inv : Nat → L2.St → Hp → Hp → Prop) (h0 : Inv 0 σ G H) (hG : ∀ i σ1 G1 H1, i ≤ n → Inv i σ1 G1 H1 → Gw H1)
    (hS : ∀ i x σ1 G1 H1 H2, i < n → Inv i σ1 G1 H1 → Y i H1 x H2 → ∀ N : L2.St → Hp → Prop, (∀ σ2 G2 H2, Inv (i + 1) σ2 G2 H2 → N σ2 H2) → g x σ1 H2 fun σ2 H3 => tb { D with nx := N, ct := N, bk := D.nx } σ2 H3)
    (hd : ∀ σ1 G1 H1, Inv n σ1 G1 H1 → D.nx σ1 H1) : ForG J g tb D σ H := by
  refine for_it w (fun i σ1 H1 => ∃ G1, Inv i σ1 G1 H1) ⟨G, h0⟩ (fun i σ1 H1 hi ⟨G1, h1⟩ => hG i σ1 G1 H1 hi h1) (fun i x σ1 H1 H2 hi ⟨G1, h1⟩ y => ?_) (fun σ1 H1 ⟨G1, h1⟩ => hd σ1 G1 H1 h1)
  exact hS i x σ1 G1 H1 H2 hi h1 y _ fun σ2 G2 H3 h2 => ⟨G2, h2⟩
end
/-! ### the sources -/
section
variable {K : PySem.W.Frag} {σ : L2.St} {H G : Hp} {a b : Addr} {xs ys : List V} {ta : TA} {te : TE} {R : It → Hp → Prop}
theorem rd_zipA (q : ta σ H fun vs H1 => ∃ a b xs ys, vs = [.ref a, .ref b] ∧ ((SqL K H1 a xs ∧ SqL K H1 b ys ∧ R (Itz K a b) H1) ∨ (SqT K H1 a xs ∧ SqT K H1 b ys ∧ R (ItzT K a b) H1))) : iZipA K ta σ H R := q
theorem rd_zipL {P : It → Prop} (h1 : SqL K H a xs) (h2 : SqL K H b ys) (q : P (Itz K a b)) : ∃ a' b' xs ys, [V.ref a, V.ref b] = [V.ref a', V.ref b'] ∧ ((SqL K H a' xs ∧ SqL K H b' ys ∧ P (Itz K a' b')) ∨ (SqT K H a' xs ∧ SqT K H b' ys ∧ P (ItzT K a' b'))) :=
  ⟨a, b, xs, ys, rfl, .inl ⟨h1, h2, q⟩⟩
theorem rd_zipT {P : It → Prop} (h1 : SqT K H a xs) (h2 : SqT K H b ys) (q : P (ItzT K a b)) : ∃ a' b' xs ys, [V.ref a, V.ref b] = [V.ref a', V.ref b'] ∧ ((SqL K H a' xs ∧ SqL K H b' ys ∧ P (Itz K a' b')) ∨ (SqT K H a' xs ∧ SqT K H b' ys ∧ P (ItzT K a' b'))) :=
  ⟨a, b, xs, ys, rfl, .inr ⟨h1, h2, q⟩⟩
theorem walk_zipT {n : Nat} (hn : n = min xs.length ys.length) : Walk (ItzT K a b) n (fun H => SqT K H a xs ∧ SqT K H b ys) (YPair (fun i => xs[i]?) (fun i => ys[i]?)) where
  goes := fun i _ hi hq =>
    have a1 : i < xs.length := by omega
    have a2 : i < ys.length := by omega
    ⟨xs, ys, _, _, hq.1, hq.2, List.getElem?_eq_getElem a1, List.getElem?_eq_getElem a2⟩
  stops := fun _ hq => ⟨xs, ys, hq.1, hq.2, by omega⟩
  yields := fun _ _ _ _ _ hq ⟨T, c, d, e1, e2, e3, e4, e5⟩ => ⟨T, c, d, e1, e2, e3, e4 xs hq.1, e5 ys hq.2⟩
def ItPair (K : PySem.W.Frag) (xs ys : Nat → Option V) (i : Nat) (x : V) (G : Hp) : Prop := ∃ T u w, x = .ref T ∧ SqT K G T [u, w] ∧ xs i = some u ∧ ys i = some w
theorem item_pair {W : Hp → Hp → List (Addr × HO) → Prop} (hW : Wd W) {xs ys : Nat → Option V} {i : Nat} {x : V} {G1 H1 H2 : Hp} {L1 : List (Addr × HO)} (S : W G1 H1 L1) (y : YPair xs ys i H1 x H2) :
    ∃ G2, Ex G1 G2 ∧ W G2 H2 L1 ∧ ItPair K xs ys i x G2 := by
  obtain ⟨T, u, z, rfl, hT, rfl, h1, h2⟩ := y
  exact ⟨_, hW.newE S hT, hW.new S hT, T, u, z, rfl, st_of upd_same, h1, h2⟩
theorem item_at {W : Hp → Hp → List (Addr × HO) → Prop} {i : Nat} {x : V} {G1 H1 H2 : Hp} {L1 : List (Addr × HO)} (S : W G1 H1 L1) (y : YAt xs i H1 x H2) :
    ∃ G2, Ex G1 G2 ∧ W G2 H2 L1 ∧ xs[i]? = some x := by
  obtain ⟨rfl, h⟩ := y
  exact ⟨G1, Ex.refl _, S, h⟩
theorem item_fn {W : Hp → Hp → List (Addr × HO) → Prop} {f : Nat → V} {i : Nat} {x : V} {G1 H1 H2 : Hp} {L1 : List (Addr × HO)} (S : W G1 H1 L1) (y : YFn f i H1 x H2) :
    ∃ G2, Ex G1 G2 ∧ W G2 H2 L1 ∧ x = f i := by
  obtain ⟨rfl, h⟩ := y
  exact ⟨G1, Ex.refl _, S, h⟩
/-- targets -/
theorem rd_gtup2 {i j : Nat} {T : Addr} {x y : V} {N : L2.St → Hp → Prop} (h : SqT K H T [x, y]) (q : N ((σ.set i (some x)).set j (some y)) H) : gTup K 2 (gCons (gName i) (gCons (gName j) gNil)) (.ref T) σ H N :=
  ⟨T, [x, y], rfl, h, rfl, x, [y], rfl, y, [], rfl, rfl, q⟩
end
section
variable {K : PySem.W.Frag} {σ : L2.St} {H : Hp} {a : Addr} {xs : List V} {te : TE} {R : It → Hp → Prop} {z : Str}
theorem rd_il (q : te σ H fun x H1 => ∃ a, x = .ref a ∧ (∃ xs, SqL K H1 a xs) ∧ R (Itl K a) H1) : iList K te σ H R := q
theorem rd_it (q : te σ H fun x H1 => ∃ a, x = .ref a ∧ (∃ xs, SqT K H1 a xs) ∧ R (Itt K a) H1) : iTup K te σ H R := q
theorem rd_is (q : te σ H fun x H1 => ∃ z, x = .str z ∧ R (Its z) H1) : iStr te σ H R := q
theorem rd_rng1 {ta : TA} (q : ta σ H fun vs H1 => ∃ j : Int, vs = [.int j] ∧ -(2 ^ 62) ≤ j ∧ j < 2 ^ 62 ∧ R (Itr 0 j.toNat) H1) : iRng1 ta σ H R := q
theorem rd_rng1i {P : It → Prop} {n : Int} (h1 : -(2 ^ 62) ≤ n) (h2 : n < 2 ^ 62) (q : P (Itr 0 n.toNat)) : ∃ j : Int, [V.int n] = [.int j] ∧ -(2 ^ 62) ≤ j ∧ j < 2 ^ 62 ∧ P (Itr 0 j.toNat) := ⟨n, rfl, h1, h2, q⟩
end

end EE
/-! Comprehensions with any number of fors. -/
namespace LCN
open PySem PySem.Spec PyProof.Rows L2 Evl
section
variable {elt tg iter tg1 iter1 : Expr} {ifs ifs1 : List Expr} {gens : List Comprehension} {scope : Scope} {pos : Pos} {it acc : Value} {env : Env} {d : Nat}
theorem turn_mid (h : gens[d]? = some ⟨tg, iter, ifs, 0⟩) (h2 : gens[d + 1]? = some ⟨tg1, iter1, ifs1, 0⟩) : compTurn (.ListComp elt gens scope pos) d it acc env = (do
    standAt iter.pos
    match ← pyNext it with
    | none => pure (.done .next)
    | some u =>
      letOwnedTupleGo tg it u
      assign tg env u
      let mut yes := true
      for c in ifs do
        if yes then yes ← isTrue c env (eval c env)
      if yes then
        let src ← eval iter1 env
        standAt iter1.pos
        let src ← foldedSetIterable iter1 env src
        let _ ← runOwn (.compStart (.ListComp elt gens scope pos) (d + 1) (← holding [src] (pyIter src)) acc env) env
      again (.compLoop (.ListComp elt gens scope pos) d it acc env)) := by
  unfold compTurn
  simp only [h, h2]
  rfl
theorem turn_end (h : gens[d]? = some ⟨tg, iter, ifs, 0⟩) (h2 : gens[d + 1]? = none) : compTurn (.ListComp elt gens scope pos) d it acc env = (do
    standAt iter.pos
    match ← pyNext it with
    | none => pure (.done .next)
    | some u =>
      letOwnedTupleGo tg it u
      assign tg env u
      let mut yes := true
      for c in ifs do
        if yes then yes ← isTrue c env (eval c env)
      if yes then
        (do let _ ← call (.builtin "list.append") [acc, (← eval elt env)])
      again (.compLoop (.ListComp elt gens scope pos) d it acc env)) := by
  unfold compTurn
  simp only [h, h2]
  rfl
end
section
variable {prog : Program} {w : World} {A : Around} {R : Result → Shared → Prop} {s : Shared} {elt tg iter : Expr} {ifs : List Expr} {gens rest : List Comprehension} {scope : Scope} {pos : Pos} {it acc : Value} {env : Env} {d : Nat}
abbrev Non : Value → Shared → Prop := fun _ _ => False
/-- what is run behind a clause's store and tests: the next clause, or the item -/
def Go (prog : Program) (w : World) (A : Around) (elt : Expr) (gens : List Comprehension) (scope : Scope) (pos : Pos) (acc : Value) (env : Env) : List Comprehension → Nat → (Shared → Prop) → Shared → Prop
  | [], _, P, s => wpAny (model prog w) A (eval elt env) (fun x s₁ => wpAny (model prog w) A (call (.builtin "list.append") [acc, x]) (fun _ s₂ => P s₂) Non s₁) Non s
  | c :: _, d, P, s => wpAny (model prog w) A (eval c.iter env) (fun x s₁ => wpAny (model prog w) A (pyIter x) (fun i s₂ => codeAny (model prog w) A (.compStart (.ListComp elt gens scope pos) d i acc env) (fun r s' => match r with
      | .ok _ => P s'
      | .error _ => False) s₂) Non s₁) Non s
/-- a clause's loop -/
theorem loop_at (h : gens[d]? = some ⟨tg, iter, ifs, 0⟩) (hd : gens[d + 1]? = rest.head?) (hs : ∀ c, rest.head? = some c → c.is_async = 0 ∧ ∀ x, foldedSetIterable c.iter env x = pure x) (I : Nat → Shared → Prop)
    (each : ∀ k s, I k s → wpAny (model prog w) A (pyNext it) (fun r s₁ => match r with
      | none => R (.ok .next) s₁
      | some u => wpAny (model prog w) A (letOwnedTupleGo tg it u) (fun _ s₂ => wpAny (model prog w) A (assign tg env u) (fun _ s₃ =>
          wpAny (model prog w) A (forIn ifs true fun c r => if r = true then do let yes ← isTrue c env (eval c env); pure (ForInStep.yield yes) else pure (ForInStep.yield r)) (fun yes s₄ =>
            if yes = true then Go prog w A elt gens scope pos acc env rest (d + 1) (fun s' => ∃ m, m < k ∧ I m s') s₄ else ∃ m, m < k ∧ I m s₄) Non s₃) Non s₂) Non s₁) Non s)
    (n : Nat) (h0 : I n s) : codeAny (model prog w) A (.compLoop (.ListComp elt gens scope pos) d it acc env) R s := by
  refine codeAny_loop rfl I (fun n s hI => ?_) n h0
  show wpAny _ A ((compTurn (.ListComp elt gens scope pos) d it acc env).onRaise (fun x => do noteFrame x env; theTreesLotGoes x)) _ _ s
  refine wpAny_noted ?_
  cases rest with
  | nil =>
    rw [turn_end h hd]
    refine wpAny_bind (wpAny_standAt (wpAny_bind (thnF (each n s hI) fun r s₁ h₁ => ?_)))
    cases r with
    | none => exact wpAny_pure h₁
    | some u =>
      refine wpAny_bind (thnF h₁ fun _ s₂ h₂ => wpAny_bind (thnF h₂ fun _ s₃ h₃ => wpAny_bind (thnF h₃ fun yes s₄ h₄ => ?_)))
      cases yes with
      | false => exact wpAny_pure ⟨rfl, h₄⟩
      | true => exact wpAny_bind (wpAny_bind (thnF h₄ fun x s₅ h₅ => wpAny_bind (thnF h₅ fun _ s₆ h₆ => wpAny_pure (wpAny_pure ⟨rfl, h₆⟩))))
  | cons c cs =>
    obtain ⟨tg1, iter1, ifs1, as1⟩ := c
    obtain ⟨e0, hs⟩ := hs _ rfl
    subst e0
    rw [turn_mid h hd]
    refine wpAny_bind (wpAny_standAt (wpAny_bind (thnF (each n s hI) fun r s₁ h₁ => ?_)))
    cases r with
    | none => exact wpAny_pure h₁
    | some u =>
      refine wpAny_bind (thnF h₁ fun _ s₂ h₂ => wpAny_bind (thnF h₂ fun _ s₃ h₃ => wpAny_bind (thnF h₃ fun yes s₄ h₄ => ?_)))
      cases yes with
      | false => exact wpAny_pure ⟨rfl, h₄⟩
      | true =>
        refine wpAny_bind (thnF h₄ fun x s₅ h₅ => ?_)
        refine wpAny_bind (wpAny_standAt (wpAny_bind (wpAny_of_eq (hs x) (wpAny_bind (wpAny_holding (thnF h₅ fun i s₆ h₆ => ?_))))))
        refine wpAny_bind (wpAny_runOwn ?_); rw [Around.mark_none]
        refine codeAny_mono h₆ fun r s' hr => ?_
        cases r with
        | ok f => first
          | exact wpAny_pure ⟨rfl, hr⟩
          | exact (wpAny_bind (wpAny_pure (wpAny_pure ⟨rfl, hr⟩)))
        | error e => exact hr.elim
/-- a clause's start -/
theorem start_at (h : gens[d]? = some ⟨tg, iter, ifs, 0⟩) (h0 : codeAny (model prog w) A (.compLoop (.ListComp elt gens scope pos) d it acc env) R s)
    (h1 : wpAny (model prog w) A (pyIter it) (fun i s' => codeAny (model prog w) A (.compLoop (.ListComp elt gens scope pos) d i acc env) R s') (notedBy (model prog w) A env fun x s' => R (.error x) s') s) :
    codeAny (model prog w) A (.compStart (.ListComp elt gens scope pos) d it acc env) R s := by
  refine codeAny_of_tree ?_
  show wpAny _ _ ((compStart (.ListComp elt gens scope pos) d it acc env).onRaise (fun x => do noteFrame x env; standAt theWindowsPlace)) _ _ s
  refine wpAny_notedAt ?_
  unfold compStart
  have hc : (clausesOf (.ListComp elt gens scope pos))[d]? = some ⟨tg, iter, ifs, 0⟩ := h
  simp only [hc]
  show wpAny _ _ (ask >>= _) _ _ s; refine wpAny_bind (wpAny_askSetting (wpAny_ite ?_))
  split
  · first
      | exact (wpAny_bind (wpAny_pure (wpAny_pure ⟨rfl, h0⟩)))
      | exact (wpAny_pure ⟨rfl, h0⟩)
  · first
      | exact wpAny_bind (wpAny_rule (wpAny_bind (wpAny_standAt (wpAny_bind (wpAny_mono h1 (fun i s' h' => wpAny_pure (And.intro rfl h')) fun _ _ x => x)))))
      | (refine wpAny_bind (wpAny_rule ?_); show wpAny _ _ (standAt iter.pos >>= _) _ _ s; exact wpAny_bind (wpAny_standAt (wpAny_bind (wpAny_mono h1 (fun i s' h' => wpAny_pure (And.intro rfl h')) fun _ _ x => x))))
end
/-- a further clause's reading: its source, its store, its tests; the slots that it and those behind it may fill -/
structure Cl where
  wi : TI
  g : TG
  tt : TT
  vs : List Nat
/-- what is read behind the clauses ahead, the list at D growing -/
def InN (te : TE) (D : Addr) : List Cl → L2.St → Hp → (Hp → Prop) → Prop
  | [], σ, H, Nx => te σ H fun y H1 => ∃ acc, H1 D = some (.lst acc) ∧ acc.length < sizeLine ∧ Nx (upd H1 D (.lst (acc ++ [y])))
  | c :: cs, σ, H, Nx => c.wi σ H fun J H1 => ∃ W : Nat → Nat → Hp → Prop, (∃ m, W 0 m H1) ∧ ∀ j k H, W j k H →
      (J.stop j H ∧ Nx H) ∨ (J.go j H ∧ ∃ Ny : Hp → Prop, (∀ H', Ny H' → ∃ k', k' < k ∧ W (j + 1) k' H') ∧ ∀ x H', J.yld j H x H' → c.g x (wipe σ c.vs) H' fun σ3 H3 => wipe σ3 c.vs = wipe σ c.vs ∧ c.tt σ3 H3 fun b H4 =>
        if b = true then InN te D cs σ3 H4 Ny else Ny H4)
/-- what is known of the slots behind it -/
def known : List Cl → L2.St → L2.St
  | [], σ => σ
  | c :: _, σ => wipe σ c.vs
/-- the clauses are read so -/
inductive CsOk (B : Cx) : List Comprehension → List Cl → Prop
  | nil : CsOk B [] []
  | cons {tg iter : Expr} {ifs : List Expr} {gens : List Comprehension} {wi : TI} {g : TG} {tt : TT} {vs : List Nat} {cs : List Cl} (hi : PI B tg iter wi) (hg : PG B tg g) (ht : PTs B ifs tt) (hs : ∀ x, foldedSetIterable iter B.env x = pure x)
      (hv : ∀ c, cs.head? = some c → ∀ i ∈ c.vs, i ∈ vs) (r : CsOk B gens cs) : CsOk B (⟨tg, iter, ifs, 0⟩ :: gens) (⟨wi, g, tt, vs⟩ :: cs)
theorem CsOk.head {B : Cx} {gens : List Comprehension} {cs : List Cl} (h : CsOk B gens cs) : ∀ c, gens.head? = some c → c.is_async = 0 ∧ ∀ x, foldedSetIterable c.iter B.env x = pure x := by
  cases h with
  | nil => intro c e; cases e
  | cons hi hg ht hs hv r => intro c e; cases e; exact ⟨rfl, hs⟩
theorem known_len {σ : L2.St} : ∀ cs : List Cl, (known cs σ).length = σ.length
  | [] => rfl
  | c :: _ => wipe_length _ _
theorem known_of {σ : L2.St} {vs : List Nat} {cs : List Cl} (hv : ∀ c, cs.head? = some c → ∀ i ∈ c.vs, i ∈ vs) {j : Nat} {v : V} (e : (wipe σ vs)[j]? = some (some v)) : (known cs σ)[j]? = some (some v) := by
  have ⟨e1, e2⟩ := wipe_some e
  cases cs with
  | nil => exact e1
  | cons c cs =>
    show (wipe σ c.vs)[j]? = _
    rw [wipe_out fun z => e2 (hv c rfl j z)]
    exact e1
section
variable {X : Cx} {te : TE} {elt : Expr} {gens0 : List Comprehension} {scope : Scope} {pos : Pos} {s3 : Shared} {H3 : Hp} {sc : Scope} {ce : Env} {fp : List Addr} {D : Addr}
/-- the clauses behind the first one, and the item -/
theorem inner_ok (hc : X.calm = true) (pe : PE (X.blk s3 H3 sc ce fp) elt te) {gens : List Comprehension} {cs : List Cl} (ok : CsOk (X.blk s3 H3 sc ce fp) gens cs) : ∀ (d : Nat), (∀ k, gens0[d + k]? = gens[k]?) →
    ∀ (pins : List (Addr × Obj)) (σ : L2.St) (H : Hp) (s : Shared) (Nx : Hp → Prop) (P : Shared → Prop), Inv (X.blk s3 H3 sc ce fp) pins σ H s → InN te D cs σ H Nx → (∀ H' s', Inv (X.blk s3 H3 sc ce fp) pins (known cs σ) H' s' → Nx H' → P s') →
    Go X.prog X.w X.A elt gens0 scope pos (.ref D) ce gens d P s := by
  induction ok with
  | nil =>
    intro d hd pins σ H s Nx P I q hP
    refine thnF (pe.run _ s σ H _ I q) fun z s1 ⟨y, H1, I1, r1, acc, hD, hz, nx⟩ => ?_
    exact app_ok (X := X.blk s3 H3 sc ce fp) I1 hD hz r1 fun s2 I2 => hP _ s2 I2 nx
  | @cons tg iter ifs gens wi g tt vs cs hi hg ht hs hv r ih =>
    intro d hd pins σ H s Nx P I q hP
    have here : gens0[d]? = some ⟨tg, iter, ifs, 0⟩ := hd 0
    have next : ∀ k, gens0[d + 1 + k]? = gens[k]? := fun k => by
      have e := hd (k + 1)
      rw [Nat.add_assoc, Nat.add_comm 1 k]
      exact e
    refine thnF (hi.run _ s σ H _ I q) fun xv s1 hx => thnF hx fun itv s2 h2 => ?_
    obtain ⟨it, f1, tn, J, H2, e1, I2, T, st2, f2, W, ⟨m0, w0⟩, turn⟩ := h2
    subst e1
    have stat : ∀ {H' : Hp}, (∀ b ∈ f1, H' b = none) → ∀ b ∈ f1, FpOk (X.blk s3 H3 sc ce fp) pins H' b := fun hn b hb => ⟨hn b hb, (f2 b hb).2⟩
    have loop : codeAny (model X.prog X.w) X.A (.compLoop (.ListComp elt gens0 scope pos) d (.ref it) (.ref D) ce) (fun r s' => match r with
        | .ok _ => P s'
        | .error _ => False) s2 := by
      refine loop_at (rest := gens) here ((next 0).trans (by cases gens <;> rfl)) r.head (fun k s' => ∃ j H', Inv (X.blk s3 H3 sc ce fp) pins (wipe σ vs) H' s' ∧ tn j s'.heap ∧ (∀ b ∈ f1, H' b = none) ∧ W j k H') ?_ m0
        ⟨0, H2, I2.weak (wipe_length _ _) (fun j v e => (wipe_some e).1), st2, fun b hb => (f2 b hb).1, w0⟩
      rintro k s4 ⟨j, H4, I4, st4, n4, w4⟩
      rcases turn j k H4 w4 with ⟨stop, nx⟩ | ⟨go, Ny, hNy, step⟩
      · refine thnF (T.done (X.blk s3 H3 sc ce fp) rfl rfl rfl hc j _ s4 (wipe σ vs) H4 Non I4 (stat n4) st4 stop) fun r s5 ⟨hr, I5⟩ => ?_
        subst hr
        exact hP H4 s5 I5 nx
      · refine thnF (T.item (X.blk s3 H3 sc ce fp) rfl rfl rfl hc j _ s4 (wipe σ vs) H4 Non I4 (stat n4) st4 go) fun r s5 ⟨u, hr, h5⟩ => ?_
        subst hr
        refine thnF h5 fun _ s6 ⟨x, H6, I6, r6, y6, st6, n6⟩ => ?_
        have I6' := I6.pinned (stat n6) (T.obj _ _ st6)
        refine thnF (hg.run _ s6 (wipe σ vs) H6 x u _ I6' r6 (step x H6 y6)) fun _ s7 ⟨σ7, H7, I7, hw7, q7⟩ => ?_
        refine thnF (ht.run _ s7 σ7 H7 _ I7 q7) fun b s8 ⟨H8, I8, q8⟩ => ?_
        have fin : ∀ {σ' : L2.St} {s' : Shared} {H' : Hp}, Inv (X.blk s3 H3 sc ce fp) (pins ++ pinsAt f1 s6.heap) σ' H' s' → (wipe σ vs).length = σ'.length → (∀ (i : Nat) v, (wipe σ vs)[i]? = some (some v) → σ'[i]? = some (some v)) → Ny H' →
            ∃ m, m < k ∧ ∃ j H', Inv (X.blk s3 H3 sc ce fp) pins (wipe σ vs) H' s' ∧ tn j s'.heap ∧ (∀ b ∈ f1, H' b = none) ∧ W j m H' := fun {σ' s' H'} I' hl hk ny => by
          obtain ⟨m', hm, w'⟩ := hNy H' ny
          have pin' : ∀ b ∈ f1, ∀ o, s6.heap.get? b = some o → s'.heap.get? b = some o ∧ H' b = none := fun b hb o e =>
            have z := I'.pin (b, o) (List.mem_append_right _ (List.mem_append_right _ (mem_pinsAt hb e)))
            ⟨z.1, z.2.1⟩
          refine ⟨m', hm, j + 1, H', I'.unpinned.weak hl hk, T.keep _ _ _ st6 fun b hb o e => (pin' b hb o e).1, fun b hb => ?_, w'⟩
          obtain ⟨o, e, _⟩ := T.obj _ _ st6 b hb
          exact (pin' b hb o e).2
        have hl7 : (wipe σ vs).length = σ7.length := by rw [← hw7, wipe_length]
        cases b with
        | false => exact fin I8 hl7 (fun i v e => by rw [← hw7] at e; exact (wipe_some e).1) q8
        | true => exact ih (d + 1) next _ σ7 H8 s8 Ny _ I8 q8 fun H' s' I' ny => fin I' (hl7.trans (known_len cs).symm) (fun i v e => by rw [← hw7] at e; exact known_of hv e) ny
    exact start_at here loop (T.self X.A 0 _ _ _ st2 loop)
end
/-- [elt for .. for ..]: the first clause, then the others -/
def tLcN (wi : TI) (g : TG) (tt : TT) (cs : List Cl) (te : TE) (vs : List Nat) : TE := fun σ H Q => wi σ H fun J H1 => ∀ D, H1 D = none → ∃ W : Nat → Nat → Hp → Prop, (∃ m, W 0 m (upd H1 D (.lst []))) ∧ ∀ i m H, W i m H →
  (J.stop i H ∧ Q (.ref D) H) ∨ (J.go i H ∧ ∃ Ny : Hp → Prop, (∀ H', Ny H' → ∃ m', m' < m ∧ W (i + 1) m' H') ∧ ∀ x H', J.yld i H x H' → g x (wipe σ vs) H' fun σ2 H2 => wipe σ2 vs = wipe σ vs ∧ tt σ2 H2 fun b H3 =>
    if b = true then InN te D cs σ2 H3 Ny else Ny H3)
section
variable {X : Cx} {elt tg iter : Expr} {ifs : List Expr} {gens : List Comprehension} {scope : Scope} {own : List (Str × Nat)} {pos : Pos} {wi : TI} {g : TG} {tt : TT} {te : TE} {cs : List Cl}
theorem lcN_core {pins : List (Addr × Obj)} {s : Shared} {σ : L2.St} {H : Hp} {Q : VK} {pos' : Pos} {use : Option (Value → Sem Unit)} {Qf : Value → Shared → Prop} (I : L2.Inv X pins σ H s) (h : tLcN wi g tt cs te (own.map (·.2)) σ H Q)
    (hRR : ∀ D C s' m H', L2.Inv X pins σ H' s' → Q (.ref D) H' → s'.heap.Ns C m → FpOk X pins H' C → compPost (model X.prog X.w) X.A X.xe use Qf (.ref D) C (.ok .next) s') (hc : X.calm = true) (hN : X.N.Nodup) (hi : PI X tg iter wi) (ok : BlkOk X.N X.env.scope scope own) (hv : ∀ c, cs.head? = some c → ∀ i ∈ c.vs, i ∈ own.map (·.2))
    (hg : ∀ (s : Shared) (H : Hp) (C : Addr) (cl : List (Str × Addr)) (fr : List Addr), PG (X.blk s H scope (compEnvC scope cl C X.env) fr) tg g)
    (ht : ∀ (s : Shared) (H : Hp) (C : Addr) (cl : List (Str × Addr)) (fr : List Addr), PTs (X.blk s H scope (compEnvC scope cl C X.env) fr) ifs tt)
    (hcs : ∀ (s : Shared) (H : Hp) (C : Addr) (cl : List (Str × Addr)) (fr : List Addr), CsOk (X.blk s H scope (compEnvC scope cl C X.env) fr) gens cs)
    (he : ∀ (s : Shared) (H : Hp) (C : Addr) (cl : List (Str × Addr)) (fr : List Addr), PE (X.blk s H scope (compEnvC scope cl C X.env) fr) elt te)
    (hs : ∀ x, foldedSetIterable iter X.env x = pure x) :
    wpAny (model X.prog X.w) X.A (comprehension (.ListComp elt (⟨tg, iter, ifs, 0⟩ :: gens) scope pos) scope X.env pos' (newList []) false (eval iter X.env) use) Qf X.xe s := by
  have free : ∀ y ∈ scope.names, y.2 = .free → ∃ c, X.env.cells.lookup y.1 = some c := fun y hy e => (ok.free y hy e).elim (fun k => I.ok.has _ (.inl k)) fun k => I.ok.has _ (.inr k)
  refine wpAny_comprehension_free (use := use) rfl hs (closure_ok free) ok.kind (fun y hy e => by rw [ok.uniq y hy, e]) (thn (hi.run pins s σ H _ I h) fun xv s1 hx => thn hx fun itv s2 h2 => ?_)
  obtain ⟨it, fr, tn, J, H2, e, I2, T, st2, f2, q⟩ := h2
  subst e
  refine wpAny_newObj_type (newEnv_comp ?_) (by show 0 ≤ sizeLine; decide); obtain ⟨D, hD⟩ : ∃ D, s2.heap.objs.size = D := ⟨_, rfl⟩
  rw [hD]
  obtain ⟨W, ⟨m0, w0⟩, turn⟩ := q D (I2.hok.fresh (Nat.le_of_eq hD))
  obtain ⟨sL, hsL⟩ : ∃ sL : Shared, ({ s2 with heap := s2.heap.push { cls := .type "list", data := .seq ([] : List Value).toArray } } : Shared) = sL := ⟨_, rfl⟩
  rw [hsL]
  have IL : L2.Inv X pins σ (upd H2 D (.lst [])) sL := by
    rw [← hsL]
    refine I2.laid (t' := s2.toks) (fun b o e => Heap.get?_push_of_some _ e) (Nat.le_of_eq hD) ⟨Nat.zero_le _, [], 0, .nil, ?_⟩; rw [← hD]; exact Heap.get?_push_size _ rfl
  have hpL : sL.heap = s2.heap.push { cls := .type "list", data := .seq ([] : List Value).toArray } := by rw [← hsL]
  have frL : ∀ b ∈ fr, FpOk X pins (upd H2 D (.lst [])) b ∧ b < sL.heap.objs.size := fun b hb => by
    obtain ⟨o, eb, _⟩ := T.obj _ _ st2 b hb
    have lt := Heap.lt_size eb
    refine ⟨⟨?_, (f2 b hb).2⟩, by rw [hpL, Heap.size_push]; exact Nat.lt_succ_of_lt lt⟩
    rw [upd_ne (by rw [← hD]; exact Nat.ne_of_lt lt)]
    exact (f2 b hb).1
  have stL : tn 0 sL.heap := T.keep _ _ _ st2 fun b _ o e => by rw [hpL]; exact Heap.get?_push_of_some _ e
  have IB := block_start IL ok hN frL
  have qg := hg sL (upd H2 D (.lst [])) sL.heap.objs.size (cellsFrom (sL.heap.objs.size + 1) scope.names (cloFrom X.env.cells scope.names [])) fr
  have qt := ht sL (upd H2 D (.lst [])) sL.heap.objs.size (cellsFrom (sL.heap.objs.size + 1) scope.names (cloFrom X.env.cells scope.names [])) fr
  have qe := he sL (upd H2 D (.lst [])) sL.heap.objs.size (cellsFrom (sL.heap.objs.size + 1) scope.names (cloFrom X.env.cells scope.names [])) fr
  have qc := hcs sL (upd H2 D (.lst [])) sL.heap.objs.size (cellsFrom (sL.heap.objs.size + 1) scope.names (cloFrom X.env.cells scope.names [])) fr
  have nfr : ∀ b ∈ fr, (upd H2 D (.lst [])) b = none := fun b hb => (frL b hb).1.1
  obtain ⟨bl, hbl⟩ : ∃ bl : Env, compEnvC scope (cellsFrom (sL.heap.objs.size + 1) scope.names (cloFrom X.env.cells scope.names [])) sL.heap.objs.size X.env = bl := ⟨_, rfl⟩
  have locL : bl.locals = sL.heap.objs.size := by rw [← hbl]; rfl
  rw [hbl] at IB qg qt qe qc
  obtain ⟨HL, hHL⟩ : ∃ HL : Hp, upd H2 D (.lst []) = HL := ⟨_, rfl⟩
  rw [hHL] at IL IB qg qt qe qc w0 nfr frL
  have into : codeAny (model X.prog X.w) X.A (.compStart (.ListComp elt (⟨tg, iter, ifs, 0⟩ :: gens) scope pos) 0 (.ref it) (.ref D) bl) (compPost (model X.prog X.w) X.A X.xe use Qf (.ref D) sL.heap.objs.size)
      { sL with heap := pushCells (sL.heap.push { cls := .type "dict", data := .dict #[] }) scope.names } := by
    obtain ⟨s4, hs4⟩ : ∃ s4 : Shared, ({ sL with heap := pushCells (sL.heap.push { cls := .type "dict", data := .dict #[] }) scope.names } : Shared) = s4 := ⟨_, rfl⟩
    rw [hs4] at IB ⊢
    have stB : tn 0 s4.heap := T.keep _ _ _ stL fun b _ o e => by rw [← hs4]; exact pushCells_keeps _ _ _ _ (Heap.get?_push_of_some _ e)
    have stat : ∀ {σ' : L2.St} {H' : Hp} {s' : Shared}, L2.Inv (X.blk sL HL scope bl fr) [] σ' H' s' → (∀ b ∈ fr, H' b = none) → ∀ b ∈ fr, FpOk (X.blk sL HL scope bl fr) [] H' b := fun {σ' H' s'} I' hn b hb =>
      have ⟨u1, u2⟩ := I'.ok.exf b hb
      ⟨hn b hb, u1, I'.ok.exfs b hb, .inl hb, u2, fun p hp => absurd (show p ∈ ([] : List (Addr × Obj)) ++ [] from hp) (by simp)⟩
    have turns : codeAny (model X.prog X.w) X.A (.compLoop (.ListComp elt (⟨tg, iter, ifs, 0⟩ :: gens) scope pos) 0 (.ref it) (.ref D) bl) (compPost (model X.prog X.w) X.A X.xe use Qf (.ref D) sL.heap.objs.size) s4 := by
      refine loop_at (rest := gens) rfl (by cases gens <;> rfl) qc.head (fun n s' => ∃ i H', L2.Inv (X.blk sL HL scope bl fr) [] (wipe σ (own.map (·.2))) H' s' ∧ tn i s'.heap ∧ (∀ b ∈ fr, H' b = none) ∧ W i n H') ?_ m0 ⟨0, HL, IB, stB, nfr, w0⟩
      rintro n s5 ⟨i, H5, I5, st5, n5, w5⟩; rcases turn i n H5 w5 with ⟨stop, qq⟩ | ⟨go, Ny, hNy, step⟩
      · refine thnF (T.done (X.blk sL HL scope bl fr) rfl rfl rfl hc i [] s5 _ H5 Non I5 (stat I5 n5) st5 stop) fun r s6 ⟨hr, I6⟩ => ?_
        subst hr
        have I7 : L2.Inv X pins σ H5 s6 := IL.call' (ch := fr) I6.os I6.base I6.hok I6.bare fun b hb => ⟨(frL b hb).1.2.2.2.1, (frL b hb).1.2.1, (frL b hb).1.2.2.2.2.1, (frL b hb).1.2.2.2.2.2⟩
        have gone : H5 sL.heap.objs.size = none := by
          have z : H5 bl.locals = none := I6.free
          rwa [locL] at z
        obtain ⟨m, hn, _⟩ := I6.loc
        have hn : s6.heap.Ns bl.locals m := hn
        rw [locL] at hn
        exact hRR D sL.heap.objs.size s6 m H5 I7 qq hn (IL.fpOk (Nat.le_refl _) gone)
      · refine thnF (T.item (X.blk sL HL scope bl fr) rfl rfl rfl hc i [] s5 _ H5 Non I5 (stat I5 n5) st5 go) fun r s6 ⟨u, hr, h6⟩ => ?_
        subst hr
        refine thnF h6 fun _ s7 ⟨x, H7, I7, r7, y7, st7, n7⟩ => ?_; have I7' := I7.pinned (stat I7 n7) (T.obj _ _ st7)
        refine thnF (qg.run _ s7 _ H7 x u _ I7' r7 (step x H7 y7)) fun _ s8 ⟨σ8, H8, I8, hw8, q8⟩ => ?_
        refine thnF (qt.run _ s8 σ8 H8 _ I8 q8) fun b s9 ⟨H9, I9, q9⟩ => ?_
        have fin : ∀ {σ' : L2.St} {s' : Shared} {H' : Hp}, L2.Inv (X.blk sL HL scope bl fr) ([] ++ pinsAt fr s7.heap) σ' H' s' → (wipe σ (own.map (·.2))).length = σ'.length → (∀ (j : Nat) v, (wipe σ (own.map (·.2)))[j]? = some (some v) → σ'[j]? = some (some v)) → Ny H' →
            ∃ m, m < n ∧ ∃ i H', L2.Inv (X.blk sL HL scope bl fr) [] (wipe σ (own.map (·.2))) H' s' ∧ tn i s'.heap ∧ (∀ b ∈ fr, H' b = none) ∧ W i m H' := fun {σ' s' H'} I' hl hk ny => by
          obtain ⟨m', hm, w'⟩ := hNy H' ny
          have kept : ∀ b ∈ fr, ∀ o, s7.heap.get? b = some o → s'.heap.get? b = some o ∧ H' b = none := fun b hb o e =>
            have z := I'.pin (b, o) (List.mem_append_right _ (List.mem_append_right _ (mem_pinsAt hb e)))
            ⟨z.1, z.2.1⟩
          refine ⟨m', hm, i + 1, H', (I'.unpinned (pins := [])).weak hl hk, T.keep _ _ _ st7 fun b hb o e => (kept b hb o e).1, fun b hb => ?_, w'⟩
          obtain ⟨o, eb, _⟩ := T.obj _ _ st7 b hb
          exact (kept b hb o eb).2
        have len8 : (wipe σ (own.map (·.2))).length = σ8.length := by rw [← hw8, wipe_length]
        cases b with
        | false => exact fin I9 len8 (fun j v e => by rw [← hw8] at e; exact (wipe_some e).1) q9
        | true => exact inner_ok (gens0 := ⟨tg, iter, ifs, 0⟩ :: gens) hc qe qc 1 (fun k => by rw [Nat.add_comm 1 k]; rfl) _ σ8 H9 s9 Ny _ I9 q9 fun H' s' I' ny => fin I' (len8.trans (known_len cs).symm) (fun j v e => by rw [← hw8] at e; exact known_of hv e) ny
    exact codeAny_compStart_list turns (T.self X.A 0 _ _ _ stB turns)
  rw [← hbl] at into
  exact into
/-- as a value -/
theorem pe_lcN (hc : X.calm = true) (hN : X.N.Nodup) (hi : PI X tg iter wi) (ok : BlkOk X.N X.env.scope scope own) (hv : ∀ c, cs.head? = some c → ∀ i ∈ c.vs, i ∈ own.map (·.2))
    (hg : ∀ (s : Shared) (H : Hp) (C : Addr) (cl : List (Str × Addr)) (fp : List Addr), PG (X.blk s H scope (compEnvC scope cl C X.env) fp) tg g)
    (ht : ∀ (s : Shared) (H : Hp) (C : Addr) (cl : List (Str × Addr)) (fp : List Addr), PTs (X.blk s H scope (compEnvC scope cl C X.env) fp) ifs tt)
    (hcs : ∀ (s : Shared) (H : Hp) (C : Addr) (cl : List (Str × Addr)) (fp : List Addr), CsOk (X.blk s H scope (compEnvC scope cl C X.env) fp) gens cs)
    (he : ∀ (s : Shared) (H : Hp) (C : Addr) (cl : List (Str × Addr)) (fp : List Addr), PE (X.blk s H scope (compEnvC scope cl C X.env) fp) elt te)
    (hs : ∀ x, foldedSetIterable iter X.env x = pure x := by intro _; rfl) : PE X (.ListComp elt (⟨tg, iter, ifs, 0⟩ :: gens) scope pos) (tLcN wi g tt cs te (own.map (·.2))) := by
  refine ⟨fun pins s σ H Q I h => ?_⟩; rw [eval_ListComp]
  refine lcN_core I h (fun D C s' m H' I' q hn f => ⟨m, hn, fun h'' sb => ?_⟩) hc hN hi ok hv hg ht hcs he hs
  obtain ⟨f0, f1, _, f3, f4, f5⟩ := f; exact ⟨.ref D, H', I'.turned (t' := s'.toks) (fun b o hb e => (sb.2 b hb).trans e) f0 f1 f3 f4 f5, rfl, q⟩
/-- y = [..] -/
theorem ps_setLcN {i : Nat} {y : Str} {py spos : Pos} (hc : X.calm = true) (hN : X.N.Nodup) (hy : X.N[i]? = some y) (hyl : X.env.scope.names.lookup y = some .local)
    (hsw : swapsWith (.ListComp elt (⟨tg, iter, ifs, 0⟩ :: gens) scope pos) (some (.Name y py)) spos.line X.env = pure true) (hi : PI X tg iter wi) (ok : BlkOk X.N X.env.scope scope own) (hv : ∀ c, cs.head? = some c → ∀ i ∈ c.vs, i ∈ own.map (·.2))
    (hg : ∀ (s : Shared) (H : Hp) (C : Addr) (cl : List (Str × Addr)) (fp : List Addr), PG (X.blk s H scope (compEnvC scope cl C X.env) fp) tg g)
    (ht : ∀ (s : Shared) (H : Hp) (C : Addr) (cl : List (Str × Addr)) (fp : List Addr), PTs (X.blk s H scope (compEnvC scope cl C X.env) fp) ifs tt)
    (hcs : ∀ (s : Shared) (H : Hp) (C : Addr) (cl : List (Str × Addr)) (fp : List Addr), CsOk (X.blk s H scope (compEnvC scope cl C X.env) fp) gens cs)
    (he : ∀ (s : Shared) (H : Hp) (C : Addr) (cl : List (Str × Addr)) (fp : List Addr), PE (X.blk s H scope (compEnvC scope cl C X.env) fp) elt te)
    (hs : ∀ x, foldedSetIterable iter X.env x = pure x := by intro _; rfl) : PS X (.Assign [.Name y py] (.ListComp elt (⟨tg, iter, ifs, 0⟩ :: gens) scope pos) spos) (tAsg (tLcN wi g tt cs te (own.map (·.2))) (gName i)) := by
  refine ⟨fun pins s σ H D I h => ?_⟩; rw [exec_Assign_Name_used _ _ _ _ hsw]
  refine wpAny_bind (wpAny_standAt (wpAny_bind ?_)); show wpAny _ X.A (do let _ ← comprehension (.ListComp elt (⟨tg, iter, ifs, 0⟩ :: gens) scope pos) scope X.env (firstIterPos (⟨tg, iter, ifs, 0⟩ :: gens) pos) (newList []) false (eval iter X.env) (some (assign (.Name y py) X.env))) _ _ s
  have told : tLcN wi g tt cs te (own.map (·.2)) σ H (fun x H1 => gName i x σ H1 D.nx) := h
  refine wpAny_bind (thn (lcN_core (Qf := fun _ s' => SP X pins D .next s') I told (fun L C s' m H' I' q hn f => ?_) hc hN hi ok hv hg ht hcs he hs) fun _ s' hq => wpAny_pure (wpAny_pure hq))
  show wpAny _ _ (assign (.Name y py) X.env (.ref L)) _ _ _; refine wpAny_assign_Name (store_ok2 (v := V.ref L) I' hN hy (.inl hyl) rfl (fun s2 I2 ⟨a, sb, ha⟩ => ?_) (.inr hyl))
  obtain ⟨f0, f1, _, f3, f4, f5⟩ := f
  refine ⟨m, hn.sameBut sb (ha.elim (fun z => by rw [z]; exact f1) fun z e => f4 y a z e.symm), fun h3 sb3 => ?_⟩; exact ⟨_, H', I2.turned (t' := s2.toks) (fun b o hb e => (sb3.2 b hb).trans e) f0 f1 f3 f4 f5, q⟩
theorem hv_nil {vs : List Nat} : ∀ c, ([] : List Cl).head? = some c → ∀ i ∈ c.vs, i ∈ vs := fun _ h => nomatch h
theorem hv_dec {vs : List Nat} {c : Cl} {cs : List Cl} (h : (c.vs.all fun i => decide (i ∈ vs)) = true) : ∀ d, (c :: cs).head? = some d → ∀ i ∈ d.vs, i ∈ vs := fun d e i hi => by
  obtain rfl := Option.some.inj e
  exact of_decide_eq_true (List.all_eq_true.mp h i hi)
theorem hv_of {vs : List Nat} {c : Cl} {cs : List Cl} (h : ∀ i ∈ c.vs, i ∈ vs) : ∀ d, (c :: cs).head? = some d → ∀ i ∈ d.vs, i ∈ vs := fun d e => by
  obtain rfl := Option.some.inj e
  exact h
end
end LCN

/-! The law's bag of draws. -/
namespace EE
open PySem PySem.Spec PyProof.Rows L2 Evl RZ
theorem rd_sub {to ti : TE} {t : TSet} {v : V} {σ : L2.St} {H : Hp} {N : L2.St → Hp → Prop} (q : to σ H fun o H1 => ti σ H1 fun i H2 => t o i v H2 fun H3 => N σ H3) : gSub to ti t v σ H N := q
theorem rd_setL {p : Addr} {xs : List V} {k : Int} {j : Nat} {v : V} {H : Hp} {Q : Hp → Prop} (h : H p = some (.lst xs)) (e : ixN xs.length k = some j) (q : Q (upd H p (.lst (xs.set j v)))) : rSetL (.ref p) (.int k) v H Q := ⟨p, xs, k, j, rfl, rfl, h, e, q⟩
local macro_rules | `(tactic| walk_at "sql") => `(tactic| first
  | exact sq_of (by assumption)
  | assumption
  | exact ex_l (Stt.ex (by assumption)) (by assumption)
  | exact sq_of upd_same)
local macro_rules | `(tactic| walk_at "sqt") => `(tactic| first
  | exact st_of (by assumption)
  | assumption
  | exact ex_t (Stt.ex (by assumption)) (by assumption)
  | exact st_of upd_same)
local macro_rules | `(tactic| walk_at "ix") => `(tactic| first
  | ((with_reducible refine' rd_ixL ?h1 ?h2 ?_); (case h1 => walk_at "sql"); (case h2 => exact rfl))
  | ((with_reducible refine' rd_ixT ?h1 ?h2 ?_); (case h1 => walk_at "sqt"); (case h2 => exact rfl)))
local macro_rules | `(tactic| walk_at "go1") => `(tactic| first
  | with_reducible refine rd_seq ?_
  | with_reducible refine rd_op ?_
  | with_reducible refine rd_c ?_
  | ((with_reducible refine' rd_var ?hv ?_); (case hv => exact rfl))
  | with_reducible refine rd_cons ?_
  | with_reducible refine rd_nil ?_
  | with_reducible refine rd_asg ?_
  | with_reducible refine rd_name ?_
  | with_reducible refine rd_ret ?_
  | with_reducible refine rd_ifs ?_
  | with_reducible refine rd_test ?_
  | with_reducible refine rd_B ?_
  | with_reducible refine rd_bl ?_
  | with_reducible refine rd_and ?_
  | with_reducible refine rd_or ?_
  | with_reducible refine rd_not ?_
  | with_reducible refine rd_andV ?_
  | with_reducible refine rd_orV ?_
  | with_reducible refine rd_notV ?_
  | with_reducible refine rd_if ?_
  | with_reducible refine rd_iT ?_
  | with_reducible refine rd_iF ?_
  | with_reducible refine rd_nT ?_
  | with_reducible refine rd_nF ?_
  | with_reducible refine rd_cb ?_
  | with_reducible refine rd_call ?_
  | with_reducible refine rd_callK ?_
  | with_reducible refine rd_next ?_
  | with_reducible refine rd_drop ?_
  | with_reducible refine rd_par ?_
  | with_reducible refine rd_two ?_
  | with_reducible refine rd_bm ?_
  | with_reducible refine rd_tup ?_
  | with_reducible refine rd_lst ?_
  | with_reducible refine rd_sl ?_
  | with_reducible refine rd_noPart ?_
  | with_reducible refine rd_part ?_
  | with_reducible refine rd_int ?_
  | with_reducible refine rd_un ?_
  | with_reducible refine rd_I0 ?_
  | with_reducible refine rd_U ?_
  | with_reducible refine rd_isN ?_
  | with_reducible refine rd_notN ?_
  | with_reducible refine rd_addI ?_
  | with_reducible refine rd_eqI ?_
  | with_reducible refine rd_neI ?_
  | with_reducible refine rd_eqB ?_
  | with_reducible refine rd_neB ?_
  | with_reducible refine rd_eqS ?_
  | with_reducible refine rd_neS ?_
  | with_reducible refine rd_ltI ?_
  | with_reducible refine rd_intI ?_
  | with_reducible refine rd_intB ?_
  | with_reducible refine rd_boolB ?_
  | with_reducible refine rd_boolI ?_
  | with_reducible refine rd_sub ?_
  | walk_at "ix")
local macro_rules | `(tactic| walk_at "go") => `(tactic| (repeat walk_at "go1"); (try dsimp only))
local macro_rules | `(tactic| walk_at "dec") => `(tactic| first
  | ((with_reducible refine rd_dec (fun e => ?_) (fun e => ?_)) <;> first | (exfalso; revert e; decide) | (exfalso; cases e; done) | exact absurd rfl e | skip)
  | ((with_reducible refine rd_decN (fun e => ?_) (fun e => ?_)) <;> first | (exfalso; revert e; decide) | (exfalso; cases e; done) | exact absurd rfl e | skip))

def bagO (c : Addr) (i r x n : Int) : HO := .lst [.ref c, .int i, .int r, .int x, .int n]
def Bag (K : PySem.W.Frag) (G H : Hp) (b : Addr) (L : List (Addr × HO)) : Prop :=
  ∃ (c : Addr) (i r x n : Int) (ns : List Int), Stt G H ((b, .lst [.ref c, .int i, .int r, .int x, .int n]) :: L) ∧ SqL K G c (ns.map V.int) ∧ 0 ≤ i ∧ 0 ≤ r ∧ 0 ≤ x ∧ x < 2147483587 ∧ 0 ≤ n
def sp_draw (K : PySem.W.Frag) : Sp := fun vs H Q _ => ∃ (b : Addr) (m : Int) (G : Hp) (L : List (Addr × HO)), vs = [.ref b, .int m] ∧ 0 < m ∧ m < 1073741824 ∧ Bag K G H b L ∧
  ∀ d H', 0 ≤ d → d < m → Bag K G H' b L → Q (.int d) H'
def t_draw_0a_3 (K : PySem.W.Frag) : TS :=
  (tAsg (tOp (rI (fun _ j => j ≠ 0) fun i j => .int (i.fmod j)) (tCB gInt (tCons (tOp (gAdd K) (tOp (gAdd K) (tOp gMul (tOp (rIx K) (tVar 0) (tC (.int 3))) (tC (.int 40039))) (tOp gMul (tOp (rI (fun _ j => j ≠ 0) fun i j => .int (i.fmod j)) (tCB gInt (tCons (tVar 2) tNil)) (tC (.int 2147483549))) (tC (.int 337)))) (tC (.int 2017))) tNil)) (tC (.int 2147483587))) (gSub (tVar 0) (tC (.int 3)) rSetL))
def t_draw_0a_2 (K : PySem.W.Frag) : TS :=
  (tSeq (tAsg (tIf (tTest (tOp (rI0 fun i j => .bl (decide (j ≤ i))) (tVar 2) (tOp (rI CPow fun i j => .int (i ^ j.toNat)) (tC (.int 10)) (tC (.int 18))))) (tVar 2) (tC (.int 0))) (gSub (tVar 0) (tC (.int 2)) rSetL))
  (t_draw_0a_3 K))
def t_draw_0a_1 (K : PySem.W.Frag) : TS :=
  (tSeq (tAsg (tOp (gAdd K) (tOp (rIx K) (tVar 0) (tC (.int 1))) (tC (.int 1))) (gSub (tVar 0) (tC (.int 1)) rSetL))
  (t_draw_0a_2 K))
def t_draw_1a_2 (K : PySem.W.Frag) : TS :=
  (tRet (tVar 3))
def t_draw_1a_1 (K : PySem.W.Frag) : TS :=
  (tSeq (tAsg (tOp (rI CDivN fun i j => .int (i.fdiv j)) (tOp (rIx K) (tVar 0) (tC (.int 2))) (tVar 1)) (gSub (tVar 0) (tC (.int 2)) rSetL))
  (t_draw_1a_2 K))
def t_draw_5 (K : PySem.W.Frag) : TS :=
  (tRet (tOp (rI (fun _ j => j ≠ 0) fun i j => .int (i.fmod j)) (tCB gInt (tCons (tOp (gAdd K) (tOp (gAdd K) (tOp (rI CDivN fun i j => .int (i.fdiv j)) (tOp (rIx K) (tVar 0) (tC (.int 3))) (tC (.int 61))) (tOp gMul (tVar 4) (tC (.int 32003)))) (tOp (rIx K) (tVar 0) (tC (.int 4)))) tNil)) (tVar 1)))
def t_draw_4 (K : PySem.W.Frag) : TS :=
  (tSeq (tAsg (tOp (rI (fun _ j => j ≠ 0) fun i j => .int (i.fmod j)) (tCB gInt (tCons (tOp (gAdd K) (tOp (gAdd K) (tOp (gAdd K) (tOp gMul (tVar 4) (tVar 4)) (tOp gMul (tC (.int 65063)) (tVar 4))) (tOp gMul (tC (.int 6679)) (tOp (rIx K) (tVar 0) (tC (.int 4))))) (tC (.int 40009))) tNil)) (tC (.int 2147483587))) (gSub (tVar 0) (tC (.int 3)) rSetL))
  (t_draw_5 K))
def t_draw_3 (K : PySem.W.Frag) : TS :=
  (tSeq (tAsg (tOp (rIx K) (tVar 0) (tC (.int 3))) (gName 4))
  (t_draw_4 K))
def t_draw_2 (K : PySem.W.Frag) : TS :=
  (tSeq (tAsg (tOp (gAdd K) (tOp (rIx K) (tVar 0) (tC (.int 4))) (tC (.int 1))) (gSub (tVar 0) (tC (.int 4)) rSetL))
  (t_draw_3 K))
def t_draw_1 (K : PySem.W.Frag) : TS :=
  (tSeq (tIfS (tTest (tOp (rI0 fun i j => .bl (decide (j < i))) (tOp (rIx K) (tVar 0) (tC (.int 2))) (tC (.int 0)))) (tSeq (tAsg (tOp (rI (fun _ j => j ≠ 0) fun i j => .int (i.fmod j)) (tCB gInt (tCons (tOp (rIx K) (tVar 0) (tC (.int 2))) tNil)) (tVar 1)) (gName 3))
  (t_draw_1a_1 K)) tNext)
  (t_draw_2 K))
def t_draw (K : PySem.W.Frag) : TS :=
  (tSeq (tIfS (tAnd (tTest (tOp (gEq K) (tOp (rIx K) (tVar 0) (tC (.int 2))) (tC (.int 0)))) (tTest (tOp (gLt K) (tOp (rIx K) (tVar 0) (tC (.int 1))) (tCB (gLen K) (tCons (tOp (rIx K) (tVar 0) (tC (.int 0))) tNil))))) (tSeq (tAsg (tOp (rIx K) (tOp (rIx K) (tVar 0) (tC (.int 0))) (tOp (rIx K) (tVar 0) (tC (.int 1)))) (gName 2))
  (t_draw_0a_1 K)) tNext)
  (t_draw_1 K))
theorem fmod_lo (a : Int) {b : Int} (h : 0 < b) : 0 ≤ a.fmod b := by rw [Int.fmod_eq_emod_of_nonneg a (by omega)]; exact Int.emod_nonneg a (by omega)
theorem fmod_hi (a : Int) {b : Int} (h : 0 < b) : a.fmod b < b := by rw [Int.fmod_eq_emod_of_nonneg a (by omega)]; exact Int.emod_lt_of_pos a h
theorem fdiv_lo {a b : Int} (ha : 0 ≤ a) (h : 0 < b) : 0 ≤ a.fdiv b := by rw [Int.fdiv_eq_ediv_of_nonneg a (by omega)]; exact Int.ediv_nonneg ha (by omega)
theorem read_draw_1 {K : PySem.W.Frag} {b c : Addr} {m i r x n : Int} {ns : List Int} {G H : Hp} {L : List (Addr × HO)} {D : Ends} {s2 s3 s4 : Option V} (m0 : 0 < m) (m1 : m < 1073741824)
    (S : Stt G H ((b, .lst [.ref c, .int i, .int r, .int x, .int n]) :: L)) (hc : SqL K G c (ns.map V.int)) (hi : 0 ≤ i) (hr : 0 ≤ r) (hx : 0 ≤ x) (hx2 : x < 2147483587) (hn : 0 ≤ n)
    (q : ∀ d H', 0 ≤ d → d < m → Bag K G H' b L → D.rt (.int d) H') : t_draw_1 K D [some (.ref b), some (.int m), s2, s3, s4] H := by
  have hb := S.at 0 rfl
  unfold t_draw_1
  walk_at "go"
  refine rd_dec (fun e => ?_) (fun e => ?_)
  · walk_at "go"
    refine rd_I (by omega) ?_
    walk_at "go"
    unfold t_draw_1a_1
    walk_at "go"
    refine rd_I ⟨by omega, by omega⟩ ?_
    walk_at "go"
    refine rd_setL hb rfl ?_
    unfold t_draw_1a_2
    walk_at "go"
    exact q _ _ (fmod_lo _ m0) (fmod_hi _ m0) ⟨c, i, r.fdiv m, x, n, ns, S.wr 0 rfl, hc, hi, fdiv_lo hr m0, hx, hx2, hn⟩
  · walk_at "go"
    unfold t_draw_2
    walk_at "go"
    refine rd_setL hb rfl ?_
    have S2 : Stt G (upd H b _) ((b, .lst [.ref c, .int i, .int r, .int x, .int (n + 1)]) :: L) := S.wr 0 rfl
    have hb2 := S2.at 0 rfl
    unfold t_draw_3
    walk_at "go"
    unfold t_draw_4
    walk_at "go"
    refine rd_mulI (.inl ⟨by omega, by omega⟩) ?_
    walk_at "go"
    refine rd_mulI (.inl ⟨by omega, by omega⟩) ?_
    walk_at "go"
    refine rd_mulI (.inl ⟨by omega, by omega⟩) ?_
    walk_at "go"
    refine rd_I (by decide) ?_
    walk_at "go"
    refine rd_setL hb2 rfl ?_
    have S3 : Stt G _ ((b, .lst [.ref c, .int i, .int r, .int ((x * x + 65063 * x + 6679 * (n + 1) + 40009).fmod 2147483587), .int (n + 1)]) :: L) := S2.wr 0 rfl
    have hb3 := S3.at 0 rfl
    unfold t_draw_5
    walk_at "go"
    refine rd_I ⟨by decide, by decide⟩ ?_
    walk_at "go"
    refine rd_mulI (.inl ⟨by omega, by omega⟩) ?_
    walk_at "go"
    refine rd_I (by omega) ?_
    exact q _ _ (fmod_lo _ m0) (fmod_hi _ m0) ⟨c, i, r, _, n + 1, ns, S3, hc, hi, hr, fmod_lo _ (by decide), fmod_hi _ (by decide), by omega⟩
theorem read_draw {K : PySem.W.Frag} {b : Addr} {m : Int} {G H : Hp} {L : List (Addr × HO)} {D : Ends} {s2 s3 s4 : Option V} (m0 : 0 < m) (m1 : m < 1073741824)
    (B : Bag K G H b L) (q : ∀ d H', 0 ≤ d → d < m → Bag K G H' b L → D.rt (.int d) H') : t_draw K D [some (.ref b), some (.int m), s2, s3, s4] H := by
  obtain ⟨c, i, r, x, n, ns, S, hc, hi, hr, hx, hx2, hn⟩ := B
  obtain ⟨j, rfl⟩ : ∃ j : Nat, i = (j : Int) := ⟨i.toNat, by omega⟩
  have hb := S.at 0 rfl
  unfold t_draw
  walk_at "go"
  refine rd_dec (fun e => ?_) (fun e => ?_)
  · walk_at "go"
    refine rd_lenL (ex_l S.ex hc) ?_
    walk_at "go"
    refine rd_dec (fun e2 => ?_) (fun e2 => ?_)
    · walk_at "go"
      rw [List.length_map] at e2
      have hi2 : j < ns.length := by omega
      refine rd_ixL (ex_l S.ex hc) (v := .int ns[j]) ?_ ?_
      · refine atI_nat ?_
        rw [List.getElem?_map, List.getElem?_eq_getElem hi2]
        rfl
      walk_at "go"
      unfold t_draw_0a_1
      walk_at "go"
      refine rd_setL hb rfl ?_
      have S2 : Stt G _ ((b, .lst [.ref c, .int ((j : Int) + 1), .int r, .int x, .int n]) :: L) := S.wr 0 rfl
      have hb2 := S2.at 0 rfl
      unfold t_draw_0a_2
      walk_at "go"
      refine rd_I ⟨by decide, by decide, by decide⟩ ?_
      walk_at "go"
      have key : ∀ r', 0 ≤ r' → t_draw_0a_3 K { D with nx := t_draw_1 K D } [some (.ref b), some (.int m), some (.int ns[j]), s3, s4] (upd (upd H b (.lst [.ref c, .int ((j : Int) + 1), .int r, .int x, .int n])) b (.lst [.ref c, .int ((j : Int) + 1), .int r', .int x, .int n])) := by
        intro r' hr'
        have S3 : Stt G _ ((b, .lst [.ref c, .int ((j : Int) + 1), .int r', .int x, .int n]) :: L) := S2.wr 0 rfl
        have hb3 := S3.at 0 rfl
        unfold t_draw_0a_3
        walk_at "go"
        refine rd_mulI (.inr ⟨by decide, by decide⟩) ?_
        walk_at "go"
        refine rd_I (by decide) ?_
        walk_at "go"
        refine rd_mulI (.inr ⟨by decide, by decide⟩) ?_
        walk_at "go"
        refine rd_I (by decide) ?_
        walk_at "go"
        refine rd_setL hb3 rfl ?_
        refine read_draw_1 m0 m1 (S3.wr 0 rfl) hc (by omega) hr' (fmod_lo _ (by decide)) (fmod_hi _ (by decide)) hn q
      refine rd_dec (fun e3 => ?_) (fun e3 => ?_)
      · walk_at "go"
        refine rd_setL hb2 rfl ?_
        exact key _ (by have e3' : (10 : Int) ^ (18 : Int).toNat ≤ ns[j] := e3; have : (0 : Int) < 10 ^ (18 : Int).toNat := by decide
                        omega)
      · walk_at "go"
        refine rd_setL hb2 rfl ?_
        exact key 0 (by decide)
    · walk_at "go"
      exact read_draw_1 m0 m1 S hc hi hr hx hx2 hn q
  · walk_at "go"
    exact read_draw_1 m0 m1 S hc hi hr hx hx2 hn q

/-! The law's likeness of data. -/

mutual
def lk : PyData → PyData → Bool
  | .none, .none => true
  | .bool a, .bool b => decide (a = b)
  | .int a, .int b => decide (a = b)
  | .str a, .str b => decide (a = b)
  | .list xs, .list ys => lkAll xs ys
  | .tuple xs, .tuple ys => lkAll xs ys
  | _, _ => false
def lkAll : List PyData → List PyData → Bool
  | [], [] => true
  | x :: xs, y :: ys => lk x y && lkAll xs ys
  | _, _ => false
end
mutual
theorem lk_refl : ∀ d, PyData.plain d = true → lk d d = true
  | .none, _ => rfl
  | .bool b, _ => decide_eq_true rfl
  | .int i, _ => decide_eq_true rfl
  | .str s, _ => decide_eq_true rfl
  | .list xs, h => lkAll_refl xs h
  | .tuple xs, h => lkAll_refl xs h
  | .dict _, h => by cases h
theorem lkAll_refl : ∀ ds, PyData.plainAll ds = true → lkAll ds ds = true
  | [], _ => rfl
  | x :: xs, h => by
    have h' := Bool.and_eq_true_iff.mp (show (PyData.plain x && PyData.plainAll xs) = true from h)
    show (lk x x && lkAll xs xs) = true
    rw [lk_refl x h'.1, lkAll_refl xs h'.2]; rfl
end
mutual
theorem Dp.plain {K : PySem.W.Frag} {H : Hp} : ∀ (d : PyData) (v : V), Dp K H v d → PyData.plain d = true
  | .none, _, _ => rfl
  | .bool _, _, _ => rfl
  | .int _, _, _ => rfl
  | .str _, _, _ => rfl
  | .list ds, _, h => by cases h with | lst hs ha => exact DpAll.plain ds _ ha
  | .tuple ds, _, h => by cases h with | tup hs ha => exact DpAll.plain ds _ ha
  | .dict _, _, h => by cases h
theorem DpAll.plain {K : PySem.W.Frag} {H : Hp} : ∀ (ds : List PyData) (vs : List V), DpAll K H vs ds → PyData.plainAll ds = true
  | [], _, _ => rfl
  | d :: ds, _, h => by
    cases h with
    | cons h1 h2 =>
      show (PyData.plain d && PyData.plainAll ds) = true
      rw [Dp.plain d _ h1, DpAll.plain ds _ h2]; rfl
end
theorem lkAll_zip : ∀ (ds es : List PyData), ds.length = es.length → lkAll ds es = (List.zipWith lk ds es).all id
  | [], [], _ => rfl
  | d :: ds, e :: es, h => by
    show (lk d e && lkAll ds es) = (id (lk d e) && (List.zipWith lk ds es).all id)
    rw [lkAll_zip ds es (by simpa using h)]
    rfl
  | [], _ :: _, h => nomatch h
  | _ :: _, [], h => nomatch h
theorem lkAll_len : ∀ (ds es : List PyData), ds.length ≠ es.length → lkAll ds es = false
  | [], [], h => (h rfl).elim
  | d :: ds, e :: es, h => by
    show (lk d e && lkAll ds es) = false
    rw [lkAll_len ds es (fun z => h (by simp [z])), Bool.and_false]
  | [], _ :: _, _ => rfl
  | _ :: _, [], _ => rfl
/-! ### kinds -/
def tyN : PyData → String
  | .none => "NoneType"
  | .bool _ => "bool"
  | .int _ => "int"
  | .str _ => "str"
  | .list _ => "list"
  | .tuple _ => "tuple"
  | .dict _ => "dict"
theorem SqL.ty {K : PySem.W.Frag} {H : Hp} {a : Addr} {xs : List V} (h : SqL K H a xs) : TyX K H (.ref a) (.type "list") := by
  rcases h with (h | ⟨o, h⟩) | ⟨o, its, n, h1, h2, _⟩
  · exact .base (.lst h)
  · exact .base (.frz h)
  · exact .kList h1 h2
theorem SqT.ty {K : PySem.W.Frag} {H : Hp} {a : Addr} {xs : List V} (h : SqT K H a xs) : TyX K H (.ref a) (.type "tuple") := by
  rcases h with (h | ⟨o, h⟩) | ⟨o, its, n, h1, h2, _⟩
  · exact .base (.tup h)
  · exact .fTuple h
  · exact .kTuple h1 h2
theorem Dp.ty {K : PySem.W.Frag} {H : Hp} {v : V} {d : PyData} (h : Dp K H v d) : TyX K H v (.type (tyN d)) := by
  cases h with
  | non => exact .base .non
  | bl b => exact .base (.bl b)
  | int i => exact .base (.int i)
  | str x => exact .base (.str x)
  | lst hs _ => exact SqL.ty hs
  | tup hs _ => exact SqT.ty hs
theorem rd_isi {K : PySem.W.Frag} {H : Hp} {v : V} {d : PyData} {T : String} {b : Bool} {Q : VK} (h : Dp K H v d) (k : kitB (tyN d) T = some b) (q : Q (.bl b) H) : gIsi K [v, .ty T] H Q :=
  .inl ⟨v, .ty T, .type (tyN d), .type T, b, rfl, .ty T, Dp.ty h, kit_ty k, q⟩
theorem rd_isi2 {K : PySem.W.Frag} {H : Hp} {v : V} {d : PyData} {T U : String} {tp : Addr} {b c : Bool} {Q : VK} (ht : H tp = some (.tup [.ty T, .ty U])) (h : Dp K H v d) (k1 : kitB (tyN d) T = some b) (k2 : kitB (tyN d) U = some c) {r : Bool} (er : (b || c) = r) (q : Q (.bl r) H) : gIsi K [v, .ref tp] H Q :=
  .inr ⟨v, tp, [.ty T, .ty U], .type (tyN d), [.type T, .type U], b || c, rfl, ht, .cons (.ty T) (.cons (.ty U) .nil), Dp.ty h,
    kitAny_cons (kit_ty k1) (fun hb => by subst hb; exact kitAny_cons (kit_ty k2) (fun hc => by subst hc; exact kitAny_nil) (fun hc => by subst hc; rfl)) (fun hb => by subst hb; rfl), by rw [er]; exact q⟩
theorem Stt.less {G G' H : Hp} {L : List (Addr × HO)} (e : Ex G G') (S : Stt G' H L) : Stt G H L := ⟨e.trans S.ex, S.has, fun p hp => fresh_back e (S.out p hp), S.nd⟩
theorem kt_NoneType_bool : kitB "NoneType" "bool" = some false := by decide +kernel
theorem kt_NoneType_int : kitB "NoneType" "int" = some false := by decide +kernel
theorem kt_NoneType_str : kitB "NoneType" "str" = some false := by decide +kernel
theorem kt_NoneType_list : kitB "NoneType" "list" = some false := by decide +kernel
theorem kt_NoneType_tuple : kitB "NoneType" "tuple" = some false := by decide +kernel
theorem kt_bool_bool : kitB "bool" "bool" = some true := by decide +kernel
theorem kt_bool_int : kitB "bool" "int" = some true := by decide +kernel
theorem kt_bool_str : kitB "bool" "str" = some false := by decide +kernel
theorem kt_bool_list : kitB "bool" "list" = some false := by decide +kernel
theorem kt_bool_tuple : kitB "bool" "tuple" = some false := by decide +kernel
theorem kt_int_bool : kitB "int" "bool" = some false := by decide +kernel
theorem kt_int_int : kitB "int" "int" = some true := by decide +kernel
theorem kt_int_str : kitB "int" "str" = some false := by decide +kernel
theorem kt_int_list : kitB "int" "list" = some false := by decide +kernel
theorem kt_int_tuple : kitB "int" "tuple" = some false := by decide +kernel
theorem kt_str_bool : kitB "str" "bool" = some false := by decide +kernel
theorem kt_str_int : kitB "str" "int" = some false := by decide +kernel
theorem kt_str_str : kitB "str" "str" = some true := by decide +kernel
theorem kt_str_list : kitB "str" "list" = some false := by decide +kernel
theorem kt_str_tuple : kitB "str" "tuple" = some false := by decide +kernel
theorem kt_list_bool : kitB "list" "bool" = some false := by decide +kernel
theorem kt_list_int : kitB "list" "int" = some false := by decide +kernel
theorem kt_list_str : kitB "list" "str" = some false := by decide +kernel
theorem kt_list_list : kitB "list" "list" = some true := by decide +kernel
theorem kt_list_tuple : kitB "list" "tuple" = some false := by decide +kernel
theorem kt_tuple_bool : kitB "tuple" "bool" = some false := by decide +kernel
theorem kt_tuple_int : kitB "tuple" "int" = some false := by decide +kernel
theorem kt_tuple_str : kitB "tuple" "str" = some false := by decide +kernel
theorem kt_tuple_list : kitB "tuple" "list" = some false := by decide +kernel
theorem kt_tuple_tuple : kitB "tuple" "tuple" = some true := by decide +kernel
/-- nested less than n deep, no list of a million things -/
def fit : Nat → PyData → Prop
  | 0, _ => False
  | n + 1, .list es => es.length < 1000000 ∧ ∀ e, e ∈ es → fit n e
  | n + 1, .tuple es => es.length < 1000000 ∧ ∀ e, e ∈ es → fit n e
  | _ + 1, _ => True
def sp_like (K : PySem.W.Frag) (n : Nat) : Sp := fun vs H Q _ => ∃ (G : Hp) (L : List (Addr × HO)) (x y : V) (d e : PyData), vs = [x, y] ∧ Stt G H L ∧ Dp K G x d ∧ Dp K G y e ∧ fit n e ∧ (∀ H', Stt G H' L → Q (.bl (lk d e)) H')
def t_like_0a_1 (K : PySem.W.Frag) (n : Nat) : TS :=
  (tRet (tAndV (tOp (gEq K) (tCB (gLen K) (tCons (tVar 0) tNil)) (tCB (gLen K) (tCons (tVar 1) tNil))) (tCB (rAll K) (tCons (tLc (iZipA K (tCons (tVar 0) (tCons (tVar 1) tNil))) (gTup K 2 (gCons (gName 2) (gCons (gName 3) gNil))) tYes (tCall (sp_like K n) [] E0 (tCons (tVar 2) (tCons (tVar 3) tNil))) [2, 3]) tNil))))
def t_like_3 (K : PySem.W.Frag) (n : Nat) : TS :=
  (tRet (tAndV (tOp (gEq K) (tCB (gIsi K) (tCons (tVar 0) (tCons (tC (.ty "str")) tNil))) (tCB (gIsi K) (tCons (tVar 1) (tCons (tC (.ty "str")) tNil)))) (tOp (gEq K) (tVar 0) (tVar 1))))
def t_like_2 (K : PySem.W.Frag) (n : Nat) : TS :=
  (tSeq (tIfS (tOr (tTest (tOp (gNe K) (tCB (gIsi K) (tCons (tVar 0) (tCons (tC (.ty "bool")) tNil))) (tCB (gIsi K) (tCons (tVar 1) (tCons (tC (.ty "bool")) tNil))))) (tTest (tOp (gNe K) (tCB (gIsi K) (tCons (tVar 0) (tCons (tC (.ty "int")) tNil))) (tCB (gIsi K) (tCons (tVar 1) (tCons (tC (.ty "int")) tNil)))))) (tRet (tC (.bl false))) tNext)
  (t_like_3 K n))
def t_like_1 (K : PySem.W.Frag) (n : Nat) : TS :=
  (tSeq (tIfS (tOr (tTest (tOp rIsN (tVar 1) (tC .non))) (tTest (tOp rIsN (tVar 0) (tC .non)))) (tRet (tAndV (tOp rIsN (tVar 1) (tC .non)) (tOp rIsN (tVar 0) (tC .non)))) tNext)
  (t_like_2 K n))
def t_like (K : PySem.W.Frag) (n : Nat) : TS :=
  (tSeq (tIfS (tB (tCB (gIsi K) (tCons (tVar 1) (tCons (tTup (tCons (tC (.ty "list")) (tCons (tC (.ty "tuple")) tNil))) tNil)))) (tSeq (tIfS (tOr (tTest (tOp (gNe K) (tCB (gIsi K) (tCons (tVar 0) (tCons (tC (.ty "list")) tNil))) (tCB (gIsi K) (tCons (tVar 1) (tCons (tC (.ty "list")) tNil))))) (tTest (tOp (gNe K) (tCB (gIsi K) (tCons (tVar 0) (tCons (tC (.ty "tuple")) tNil))) (tCB (gIsi K) (tCons (tVar 1) (tCons (tC (.ty "tuple")) tNil)))))) (tRet (tC (.bl false))) tNext)
  (t_like_0a_1 K n)) tNext)
  (t_like_1 K n))
local macro_rules | `(tactic| walk_at "kt") => `(tactic| first
  | exact kt_NoneType_bool
  | exact kt_NoneType_int
  | exact kt_NoneType_str
  | exact kt_NoneType_list
  | exact kt_NoneType_tuple
  | exact kt_bool_bool
  | exact kt_bool_int
  | exact kt_bool_str
  | exact kt_bool_list
  | exact kt_bool_tuple
  | exact kt_int_bool
  | exact kt_int_int
  | exact kt_int_str
  | exact kt_int_list
  | exact kt_int_tuple
  | exact kt_str_bool
  | exact kt_str_int
  | exact kt_str_str
  | exact kt_str_list
  | exact kt_str_tuple
  | exact kt_list_bool
  | exact kt_list_int
  | exact kt_list_str
  | exact kt_list_list
  | exact kt_list_tuple
  | exact kt_tuple_bool
  | exact kt_tuple_int
  | exact kt_tuple_str
  | exact kt_tuple_list
  | exact kt_tuple_tuple)
local macro_rules | `(tactic| walk_at "dp") => `(tactic| first
  | exact Dp.non | exact Dp.bl _ | exact Dp.int _ | exact Dp.str _ | assumption | exact Dp.ex (Stt.ex (by assumption)) _ _ (by assumption))
local macro_rules | `(tactic| walk_at "isi") => `(tactic| ((with_reducible refine' rd_isi ?h ?k ?_); (case h => walk_at "dp"); (case k => walk_at "kt")))
theorem read_like_list {K : PySem.W.Frag} {n : Nat} {G H : Hp} {L : List (Addr × HO)} {x y : V} {ds : List PyData} {es : List PyData} {D : Ends} {s2 s3 : Option V} (S : Stt G H L) (hx : Dp K G x (.list ds)) (hy : Dp K G y (.list es)) (hz : es.length < 1000000) (hn : ∀ e, e ∈ es → fit n e)
    (q : ∀ H', Stt G H' L → D.rt (.bl (lkAll ds es)) H') : t_like_0a_1 K n D [some x, some y, s2, s3] H := by
  unfold t_like_0a_1
  cases hx with
  | @lst a xs _ ha hA =>
  cases hy with
  | @lst b ys _ hb hB =>
  walk_at "go"
  refine rd_lenL (ex_l S.ex ha) ?_
  walk_at "go"
  refine rd_lenL (ex_l S.ex hb) ?_
  have hl1 := DpAll.length hA
  have hl2 := DpAll.length hB
  walk_at "go"
  refine rd_dec (fun e => ?_) (fun e => ?_)
  · have hl : ds.length = es.length := by omega
    walk_at "go"
    refine rd_lc ?_
    refine rd_zipA ?_
    walk_at "go"
    refine ⟨_, _, _, _, rfl, .inl ⟨ex_l S.ex ha, ex_l S.ex hb, ?_⟩⟩
    refine lc_go stt_world (walk_zip (n := ds.length) (by omega)) S (by omega) (ItPair K (fun i => xs[i]?) (fun i => ys[i]?)) (fun i acc _ => acc = (List.zipWith (fun d e => V.bl (lk d e)) ds es).take i)
      (fun H' e' => ⟨ex_l e' ha, ex_l e' hb⟩) (fun i x G1 H1 H2 L1 _ e1 S1 y => item_pair stt_world S1 y) rfl (fun _ _ _ _ _ h => h) ?_ ?_
    · intro D i x acc G1 H1 hi hacc e1 S1 I1 it Kp Sk kp sk
      obtain ⟨T, u, w, rfl, hT, hu, hw⟩ := it
      obtain ⟨d1, hd1, dp1⟩ := DpAll.get hA hu
      obtain ⟨d2, hd2, dp2⟩ := DpAll.get hB hw
      refine rd_gtup2 (ex_t S1.ex hT) ⟨rfl, ?_⟩
      refine rd_yes (rd_iT ?_)
      walk_at "go"
      refine ⟨G1, _, u, w, d1, d2, rfl, S1, Dp.ex e1 _ _ dp1, Dp.ex e1 _ _ dp2, hn d2 (List.mem_of_getElem? hd2), fun H2 S2 => kp _ G1 H2 (Ex.refl _) S2 ?_⟩
      rw [I1, List.take_add_one, List.getElem?_zipWith, hd1, hd2]
      rfl
    · intro D acc G2 H2 e2 S2 I2 _
      have hacc : acc = (List.zipWith lk ds es).map V.bl := by
        rw [I2, List.map_zipWith, List.take_of_length_le (by rw [List.length_zipWith]; omega)]
      subst hacc
      walk_at "go"
      refine rd_all (sq_of (S2.at 0 rfl)) ?_
      have := q H2 (S2.drop.less e2)
      rw [lkAll_zip ds es hl] at this
      exact this
  · walk_at "go"
    have := q H S
    rw [lkAll_len ds es (by omega)] at this
    exact this
theorem read_like_tup {K : PySem.W.Frag} {n : Nat} {G H : Hp} {L : List (Addr × HO)} {x y : V} {ds : List PyData} {es : List PyData} {D : Ends} {s2 s3 : Option V} (S : Stt G H L) (hx : Dp K G x (.tuple ds)) (hy : Dp K G y (.tuple es)) (hz : es.length < 1000000) (hn : ∀ e, e ∈ es → fit n e)
    (q : ∀ H', Stt G H' L → D.rt (.bl (lkAll ds es)) H') : t_like_0a_1 K n D [some x, some y, s2, s3] H := by
  unfold t_like_0a_1
  cases hx with
  | @tup a xs _ ha hA =>
  cases hy with
  | @tup b ys _ hb hB =>
  walk_at "go"
  refine rd_lenT (ex_t S.ex ha) ?_
  walk_at "go"
  refine rd_lenT (ex_t S.ex hb) ?_
  have hl1 := DpAll.length hA
  have hl2 := DpAll.length hB
  walk_at "go"
  refine rd_dec (fun e => ?_) (fun e => ?_)
  · have hl : ds.length = es.length := by omega
    walk_at "go"
    refine rd_lc ?_
    refine rd_zipA ?_
    walk_at "go"
    refine ⟨_, _, _, _, rfl, .inr ⟨ex_t S.ex ha, ex_t S.ex hb, ?_⟩⟩
    refine lc_go stt_world (walk_zipT (n := ds.length) (by omega)) S (by omega) (ItPair K (fun i => xs[i]?) (fun i => ys[i]?)) (fun i acc _ => acc = (List.zipWith (fun d e => V.bl (lk d e)) ds es).take i)
      (fun H' e' => ⟨ex_t e' ha, ex_t e' hb⟩) (fun i x G1 H1 H2 L1 _ e1 S1 y => item_pair stt_world S1 y) rfl (fun _ _ _ _ _ h => h) ?_ ?_
    · intro D i x acc G1 H1 hi hacc e1 S1 I1 it Kp Sk kp sk
      obtain ⟨T, u, w, rfl, hT, hu, hw⟩ := it
      obtain ⟨d1, hd1, dp1⟩ := DpAll.get hA hu
      obtain ⟨d2, hd2, dp2⟩ := DpAll.get hB hw
      refine rd_gtup2 (ex_t S1.ex hT) ⟨rfl, ?_⟩
      refine rd_yes (rd_iT ?_)
      walk_at "go"
      refine ⟨G1, _, u, w, d1, d2, rfl, S1, Dp.ex e1 _ _ dp1, Dp.ex e1 _ _ dp2, hn d2 (List.mem_of_getElem? hd2), fun H2 S2 => kp _ G1 H2 (Ex.refl _) S2 ?_⟩
      rw [I1, List.take_add_one, List.getElem?_zipWith, hd1, hd2]
      rfl
    · intro D acc G2 H2 e2 S2 I2 _
      have hacc : acc = (List.zipWith lk ds es).map V.bl := by
        rw [I2, List.map_zipWith, List.take_of_length_le (by rw [List.length_zipWith]; omega)]
      subst hacc
      walk_at "go"
      refine rd_all (sq_of (S2.at 0 rfl)) ?_
      have := q H2 (S2.drop.less e2)
      rw [lkAll_zip ds es hl] at this
      exact this
  · walk_at "go"
    have := q H S
    rw [lkAll_len ds es (by omega)] at this
    exact this
local macro_rules | `(tactic| walk_at "gk") => `(tactic| repeat (first | walk_at "go1" | walk_at "isi" | walk_at "dec"))
theorem read_like {K : PySem.W.Frag} {n : Nat} {G H : Hp} {L : List (Addr × HO)} {x y : V} {d e : PyData} {D : Ends} {s2 s3 : Option V} (S : Stt G H L) (hx : Dp K G x d) (hy : Dp K G y e) (hn : fit (n + 1) e)
    (q : ∀ H', Stt G H' L → D.rt (.bl (lk d e)) H') : t_like K n D [some x, some y, s2, s3] H := by
  unfold t_like
  walk_at "gk"
  refine ⟨(by decide : 2 ≤ sizeLine), fun p hp => ?_⟩
  have S1 := S.new (o := .tup [.ty "list", .ty "tuple"]) hp
  have e1 := S.newE (o := .tup [.ty "list", .ty "tuple"]) hp
  have q1 : ∀ H', Stt (upd G p (.tup [.ty "list", .ty "tuple"])) H' L → D.rt (.bl (lk d e)) H' := fun H' S' => q H' (S'.less e1)
  have hx1 := Dp.ex e1 _ _ hx
  have hy1 := Dp.ex e1 _ _ hy
  have hp1 : upd H p (.tup [.ty "list", .ty "tuple"]) p = some (.tup [.ty "list", .ty "tuple"]) := upd_same
  generalize upd G p (.tup [.ty "list", .ty "tuple"]) = G1 at *
  generalize upd H p (.tup [.ty "list", .ty "tuple"]) = H1 at *
  clear hx hy q S e1 hp
  walk_at "go"
  have hy2 := Dp.ex S1.ex _ _ hy1
  cases e with
  | list es =>
    refine rd_isi2 hp1 hy2 kt_list_list kt_list_tuple (r := true) rfl ?_
    walk_at "gk"
    cases d with
    | list ds =>
      walk_at "gk"
      exact read_like_list S1 hx1 hy1 hn.1 hn.2 q1
    | dict _ => cases hx1
    | _ =>
      walk_at "gk"
      exact q1 _ S1
  | tuple es =>
    refine rd_isi2 hp1 hy2 kt_tuple_list kt_tuple_tuple (r := true) rfl ?_
    walk_at "gk"
    cases d with
    | tuple ds =>
      walk_at "gk"
      exact read_like_tup S1 hx1 hy1 hn.1 hn.2 q1
    | dict _ => cases hx1
    | _ =>
      walk_at "gk"
      exact q1 _ S1
  | dict _ => cases hy1
  | none =>
    refine rd_isi2 hp1 hy2 kt_NoneType_list kt_NoneType_tuple (r := false) rfl ?_
    walk_at "gk"
    try dsimp only
    unfold t_like_1
    have hx2 := Dp.ex S1.ex _ _ hx1
    cases hy1
    cases d with
    | dict _ => cases hx1
    | _ =>
      cases hx1
      all_goals (walk_at "gk")
      all_goals (try dsimp only)
      all_goals first
        | exact q1 _ S1
        | (unfold t_like_2; walk_at "gk"; (try dsimp only); first | exact q1 _ S1 | (unfold t_like_3; walk_at "gk"; exact q1 _ S1))
  | bool b =>
    refine rd_isi2 hp1 hy2 kt_bool_list kt_bool_tuple (r := false) rfl ?_
    walk_at "gk"
    try dsimp only
    unfold t_like_1
    have hx2 := Dp.ex S1.ex _ _ hx1
    cases hy1
    cases d with
    | dict _ => cases hx1
    | _ =>
      cases hx1
      all_goals (walk_at "gk")
      all_goals (try dsimp only)
      all_goals first
        | exact q1 _ S1
        | (unfold t_like_2; walk_at "gk"; (try dsimp only); first | exact q1 _ S1 | (unfold t_like_3; walk_at "gk"; exact q1 _ S1))
  | int b =>
    refine rd_isi2 hp1 hy2 kt_int_list kt_int_tuple (r := false) rfl ?_
    walk_at "gk"
    try dsimp only
    unfold t_like_1
    have hx2 := Dp.ex S1.ex _ _ hx1
    cases hy1
    cases d with
    | dict _ => cases hx1
    | _ =>
      cases hx1
      all_goals (walk_at "gk")
      all_goals (try dsimp only)
      all_goals first
        | exact q1 _ S1
        | (unfold t_like_2; walk_at "gk"; (try dsimp only); first | exact q1 _ S1 | (unfold t_like_3; walk_at "gk"; exact q1 _ S1))
  | str b =>
    refine rd_isi2 hp1 hy2 kt_str_list kt_str_tuple (r := false) rfl ?_
    walk_at "gk"
    try dsimp only
    unfold t_like_1
    have hx2 := Dp.ex S1.ex _ _ hx1
    cases hy1
    cases d with
    | dict _ => cases hx1
    | _ =>
      cases hx1
      all_goals (walk_at "gk")
      all_goals (try dsimp only)
      all_goals first
        | exact q1 _ S1
        | (unfold t_like_2; walk_at "gk"; (try dsimp only); first | exact q1 _ S1 | (unfold t_like_3; walk_at "gk"; exact q1 _ S1))


theorem Stt.swap {G H : Hp} {x y : Addr × HO} {L : List (Addr × HO)} (S : Stt G H (x :: y :: L)) : Stt G H (y :: x :: L) := by
  have m : ∀ p, p ∈ y :: x :: L → p ∈ x :: y :: L := fun p hp => (List.Perm.swap x y L).mem_iff.mp hp
  refine ⟨S.ex, fun p hp => S.has p (m p hp), fun p hp => S.out p (m p hp), ?_⟩
  have h := S.nd
  simp only [List.map_cons, List.nodup_cons, List.mem_cons] at h ⊢
  exact ⟨fun z => z.elim (fun z => h.1 (.inl z.symm)) h.2.1, fun z => h.1 (.inr z), h.2.2⟩
theorem Bag.ex {K : PySem.W.Frag} {G H : Hp} {b : Addr} {L : List (Addr × HO)} (B : Bag K G H b L) : Ex G H := by
  obtain ⟨_, _, _, _, _, _, S, _⟩ := B
  exact S.ex
theorem bag_world (K : PySem.W.Frag) (b : Addr) : Wd fun G H L => Bag K G H b L where
  ex := Bag.ex
  new := fun ⟨c, i, r, x, n, ns, S, hc, h⟩ hp => ⟨c, i, r, x, n, ns, S.new hp, ex_l (S.newE hp) hc, h⟩
  mk2 := fun ⟨c, i, r, x, n, ns, S, hc, h⟩ hp => ⟨c, i, r, x, n, ns, (S.mkL hp).swap, hc, h⟩
  get := fun ⟨c, i, r, x, n, ns, S, hc, h⟩ => S.at 1 rfl
  set := fun ⟨c, i, r, x, n, ns, S, hc, h⟩ => ⟨c, i, r, x, n, ns, S.wr 1 rfl, hc, h⟩
  free := fun ⟨c, i, r, x, n, ns, S, hc, h⟩ hp => S.free hp
  drop := fun ⟨c, i, r, x, n, ns, S, hc, h⟩ => ⟨c, i, r, x, n, ns, S.swap.drop, hc, h⟩
  frz := fun ⟨c, i, r, x, n, ns, S, hc, h⟩ => ⟨⟨c, i, r, x, n, ns, S.swap.frz, ex_l S.swap.frzE hc, h⟩, S.swap.frzE⟩
/-- with the bag: what leaves all that may change keeps the bag -/
theorem Bag.stt {K : PySem.W.Frag} {G H : Hp} {b : Addr} {L : List (Addr × HO)} (B : Bag K G H b L) : ∃ M, Stt G H M ∧ ∀ G' H', Ex G G' → Stt G' H' M → Bag K G' H' b L := by
  obtain ⟨c, i, r, x, n, ns, S, hc, h⟩ := B
  exact ⟨_, S, fun G' H' e S' => ⟨c, i, r, x, n, ns, S', ex_l e hc, h⟩⟩
theorem cutV_take (ns : List Int) : cutV (ns.map V.int) none (some 63) = (ns.take 63).map V.int := by
  unfold cutV
  rw [HT.sIx_none, show HT.sIx (ns.map V.int).length (ns.map V.int).length (some 63) = min 63 (ns.map V.int).length from HT.sIx_nat _ _ 63]
  rw [List.drop_zero, Nat.sub_zero, List.map_take, ← List.take_take, List.take_length]
def sp_open (K : PySem.W.Frag) : Sp := fun vs H Q _ => ∃ (a : Addr) (ns : List Int) (G : Hp) (L : List (Addr × HO)), vs = [.ref a] ∧ Stt G H L ∧ SqL K G a (ns.map V.int) ∧ (∀ b G' H', Ex G G' → Bag K G' H' b L → Q (.ref b) H')
def t_open (K : PySem.W.Frag) : TS :=
  (tRet (tLst (tCons (tCB (gList K) (tCons (tSl (gSl K) (tVar 0) tNoPart (tPart (tC (.int 63)))) tNil)) (tCons (tC (.int 0)) (tCons (tC (.int 0)) (tCons (tC (.int 120121)) (tCons (tC (.int 0)) tNil)))))))
theorem read_open {K : PySem.W.Frag} {a : Addr} {ns : List Int} {G H : Hp} {L : List (Addr × HO)} {D : Ends} (S : Stt G H L) (ha : SqL K G a (ns.map V.int)) (q : ∀ b G' H', Ex G G' → Bag K G' H' b L → D.rt (.ref b) H') : t_open K D [some (.ref a)] H := by
  unfold t_open
  walk_at "go"
  refine rd_slL (ex_l S.ex ha) fun p hp => ?_
  have S1 := S.new (o := .lst (cutV (ns.map V.int) none (some 63))) hp
  have e1 := S.newE (o := .lst (cutV (ns.map V.int) none (some 63))) hp
  have h1 : upd H p (.lst (cutV (ns.map V.int) none (some 63))) p = some (.lst ((ns.take 63).map V.int)) := by rw [upd_same, cutV_take]
  walk_at "go"
  refine ⟨p, _, rfl, .inl (sq_of h1), fun c hc => ?_⟩
  have S2 := S1.new (o := .lst ((ns.take 63).map V.int)) hc
  have e2 := S1.newE (o := .lst ((ns.take 63).map V.int)) hc
  walk_at "go"
  refine ⟨by show 5 ≤ sizeLine; decide, fun b hb => ?_⟩
  have S3 := S2.mkL (o := .lst [.ref c, .int 0, .int 0, .int 120121, .int 0]) hb
  exact q b _ _ (e1.trans e2) ⟨c, 0, 0, 120121, 0, ns.take 63, S3, sq_of upd_same, by decide, by decide, by decide, by decide, by decide⟩
/-- one of some things -/
def sp_of (K : PySem.W.Frag) : Sp := fun vs H Q _ => ∃ (b a : Addr) (xs : List V) (G : Hp) (L : List (Addr × HO)), vs = [.ref b, .ref a] ∧ Bag K G H b L ∧ (∀ H', Bag K G H' b L → SqL K H' a xs ∨ SqT K H' a xs) ∧ 0 < xs.length ∧ xs.length < 1000000 ∧
  (∀ x H', x ∈ xs → Bag K G H' b L → Q x H')
def t_of (K : PySem.W.Frag) : TS :=
  (tRet (tOp (rIx K) (tVar 1) (tCall (sp_draw K) [] E0 (tCons (tVar 0) (tCons (tCB (gLen K) (tCons (tVar 1) tNil)) tNil)))))
theorem read_of {K : PySem.W.Frag} {b a : Addr} {xs : List V} {G H : Hp} {L : List (Addr × HO)} {D : Ends} (B : Bag K G H b L) (hs : ∀ H', Bag K G H' b L → SqL K H' a xs ∨ SqT K H' a xs) (h0 : 0 < xs.length) (h1 : xs.length < 1000000)
    (q : ∀ x H', x ∈ xs → Bag K G H' b L → D.rt x H') : t_of K D [some (.ref b), some (.ref a)] H := by
  unfold t_of
  walk_at "go"
  refine ⟨.ref a, xs.length, rfl, ?_, ?_⟩
  · rcases hs H B with h | h
    · exact .inl ⟨xs, h, rfl⟩
    · exact .inr ⟨xs, h, rfl⟩
  walk_at "go"
  refine ⟨b, _, G, L, rfl, by omega, by omega, B, fun d H' d0 d1 B' => ?_⟩
  obtain ⟨j, rfl⟩ : ∃ j : Nat, d = (j : Int) := ⟨d.toNat, by omega⟩
  have hj : j < xs.length := by omega
  have hat : atI xs (j : Int) = some xs[j] := atI_nat (List.getElem?_eq_getElem hj)
  rcases hs H' B' with h | h
  · exact rd_ixL h hat (q _ _ (List.getElem_mem hj) B')
  · exact rd_ixT h hat (q _ _ (List.getElem_mem hj) B')
theorem sat_draw {K : PySem.W.Frag} {vs : List V} {H : Hp} {Q : VK} {E : XK} (h : sp_draw K vs H Q E) : vs.length = 2 ∧ t_draw K { nx := fun _ H' => Q .non H', rt := Q } (vs.map some ++ List.replicate (5 - vs.length) none) H := by
  obtain ⟨b, m, G, L, rfl, m0, m1, B, q⟩ := h
  exact ⟨rfl, read_draw m0 m1 B q⟩
theorem sat_open {K : PySem.W.Frag} {vs : List V} {H : Hp} {Q : VK} {E : XK} (h : sp_open K vs H Q E) : vs.length = 1 ∧ t_open K { nx := fun _ H' => Q .non H', rt := Q } (vs.map some ++ List.replicate (1 - vs.length) none) H := by
  obtain ⟨a, ns, G, L, rfl, S, ha, q⟩ := h
  exact ⟨rfl, read_open S ha q⟩
theorem sat_of {K : PySem.W.Frag} {vs : List V} {H : Hp} {Q : VK} {E : XK} (h : sp_of K vs H Q E) : vs.length = 2 ∧ t_of K { nx := fun _ H' => Q .non H', rt := Q } (vs.map some ++ List.replicate (2 - vs.length) none) H := by
  obtain ⟨b, a, xs, G, L, rfl, B, hs, h0, h1, q⟩ := h
  exact ⟨rfl, read_of B hs h0 h1 q⟩
theorem never_like (K : PySem.W.Frag) : ∀ vs H Q E, sp_like K 0 vs H Q E → False := fun _ _ _ _ ⟨_, _, _, _, _, _, _, _, _, _, h, _⟩ => h
theorem sat_like {K : PySem.W.Frag} {n : Nat} {vs : List V} {H : Hp} {Q : VK} {E : XK} (h : sp_like K (n + 1) vs H Q E) : vs.length = 2 ∧ t_like K n { nx := fun _ H' => Q .non H', rt := Q } (vs.map some ++ List.replicate (4 - vs.length) none) H := by
  obtain ⟨G, L, x, y, d, e, rfl, S, hx, hy, hn, q⟩ := h
  exact ⟨rfl, read_like S hx hy hn q⟩

/-! Comprehensions over lists and tuples by plain functions. -/
section
variable {W : Hp → Hp → List (Addr × HO) → Prop} {K : PySem.W.Frag} {G H : Hp} {L : List (Addr × HO)} {σ : L2.St} {te : TE} {tt : TT} {Q : VK} {a : Addr} {xs : List V} {j : Nat}
theorem lc_mapJ (hW : Wd W) {J : It} {Gw : Hp → Prop} (w : Walk J xs.length Gw (YAt xs)) (S : W G H L) (hg : ∀ H', Ex G H' → Gw H') (hz : xs.length < 1000000) (hw : ∀ x, wipe ((wipe σ [j]).set j (some x)) [j] = wipe σ [j]) (f : V → V)
    (hS : ∀ x acc D G1 H1, x ∈ xs → Ex G G1 → W G1 H1 ((D, .lst acc) :: L) → ∀ Kp : VK, (∀ H2, W G1 H2 ((D, .lst acc) :: L) → Kp (f x) H2) → te ((wipe σ [j]).set j (some x)) H1 Kp)
    (q : ∀ D G2 H2, Ex G G2 → W G2 H2 ((D, .lst (xs.map f)) :: L) → Q (.ref D) H2) : LcG J (gName j) tYes te [j] σ H Q := by
  refine lc_go hW w S hz (fun i v _ => xs[i]? = some v) (fun i acc _ => acc = (xs.take i).map f) hg
    (fun i x G1 H1 H2 L1 _ e1 S1 y => item_at S1 y) rfl (fun _ _ _ _ _ h => h) ?_ ?_
  · intro D i x acc G1 H1 hi _ e1 S1 I1 it Kp Sk kp sk
    refine rd_name ⟨hw x, rd_yes (rd_iT ?_)⟩
    refine hS x acc D G1 H1 (List.mem_of_getElem? it) e1 S1 _ fun H2 S2 => kp _ G1 H2 (Ex.refl _) S2 ?_
    rw [I1, List.take_add_one, it, List.map_append]
    rfl
  · intro D acc G2 H2 e2 S2 I2 _
    rw [List.take_length] at I2
    subst I2
    exact q D G2 H2 e2 S2
theorem lc_filterJ (hW : Wd W) {J : It} {Gw : Hp → Prop} (w : Walk J xs.length Gw (YAt xs)) (S : W G H L) (hg : ∀ H', Ex G H' → Gw H') (hz : xs.length < 1000000) (hw : ∀ x, wipe ((wipe σ [j]).set j (some x)) [j] = wipe σ [j]) (f : V → V) (p : V → Bool)
    (hT : ∀ x acc D G1 H1, x ∈ xs → Ex G G1 → W G1 H1 ((D, .lst acc) :: L) → ∀ Kt : Bool → Hp → Prop, (∀ H2, W G1 H2 ((D, .lst acc) :: L) → Kt (p x) H2) → tt ((wipe σ [j]).set j (some x)) H1 Kt)
    (hS : ∀ x acc D G1 H1, x ∈ xs → p x = true → Ex G G1 → W G1 H1 ((D, .lst acc) :: L) → ∀ Kp : VK, (∀ H2, W G1 H2 ((D, .lst acc) :: L) → Kp (f x) H2) → te ((wipe σ [j]).set j (some x)) H1 Kp)
    (q : ∀ D G2 H2, Ex G G2 → W G2 H2 ((D, .lst ((xs.filter p).map f)) :: L) → Q (.ref D) H2) : LcG J (gName j) tt te [j] σ H Q := by
  refine lc_go hW w S hz (fun i v _ => xs[i]? = some v) (fun i acc _ => acc = ((xs.take i).filter p).map f) hg
    (fun i x G1 H1 H2 L1 _ e1 S1 y => item_at S1 y) rfl (fun _ _ _ _ _ h => h) ?_ ?_
  · intro D i x acc G1 H1 hi _ e1 S1 I1 it Kp Sk kp sk
    refine rd_name ⟨hw x, ?_⟩
    have e : (xs.take (i + 1)).filter p = (xs.take i).filter p ++ (if p x = true then [x] else []) := by
      rw [List.take_add_one, it, List.filter_append, show (some x).toList = [x] from rfl, List.filter_cons, List.filter_nil]
    refine hT x acc D G1 H1 (List.mem_of_getElem? it) e1 S1 _ fun H2 S2 => ?_
    by_cases hp : p x = true
    · rw [if_pos hp]
      rw [if_pos hp] at e
      refine hS x acc D G1 H2 (List.mem_of_getElem? it) hp e1 S2 _ fun H3 S3 => kp _ G1 H3 (Ex.refl _) S3 ?_
      rw [I1, e, List.map_append]
      rfl
    · rw [if_neg hp]
      rw [if_neg hp] at e
      refine sk G1 H2 (Ex.refl _) S2 ?_
      rw [I1, e, List.append_nil]
  · intro D acc G2 H2 e2 S2 I2 _
    rw [List.take_length] at I2
    subst I2
    exact q D G2 H2 e2 S2
/-- n values told by a world that draws -/
theorem lc_draws (hW : Wd W) {n : Nat} {lo : Int} (S : W G H L) (hz : n < 1000000) (hw : ∀ x, wipe ((wipe σ [j]).set j (some x)) [j] = wipe σ [j]) (P : V → Prop)
    (hS : ∀ i acc D G1 H1, i < n → Ex G G1 → W G1 H1 ((D, .lst acc) :: L) → ∀ Kp : VK, (∀ v G2 H2, Ex G1 G2 → W G2 H2 ((D, .lst acc) :: L) → P v → Kp v H2) → te ((wipe σ [j]).set j (some (.int (lo + (i : Nat))))) H1 Kp)
    (q : ∀ D vs G2 H2, Ex G G2 → W G2 H2 ((D, .lst vs) :: L) → vs.length = n → (∀ v, v ∈ vs → P v) → Q (.ref D) H2) : LcG (Itr lo n) (gName j) tYes te [j] σ H Q := by
  refine lc_go hW walk_range S hz (fun i v _ => v = .int (lo + (i : Nat))) (fun i acc _ => acc.length = i ∧ ∀ v, v ∈ acc → P v) (fun _ _ => True.intro)
    (fun i x G1 H1 H2 L1 _ e1 S1 y => item_fn S1 y) ⟨rfl, fun _ h => by cases h⟩ (fun _ _ _ _ _ h => h) ?_ ?_
  · intro D i x acc G1 H1 hi _ e1 S1 I1 it Kp Sk kp sk
    subst it
    refine rd_name ⟨hw _, rd_yes (rd_iT ?_)⟩
    refine hS i acc D G1 H1 hi e1 S1 _ fun v G2 H2 e2 S2 hv => kp v G2 H2 e2 S2 ⟨by rw [List.length_append, I1.1]; rfl, fun u hu => ?_⟩
    cases List.mem_append.mp hu with
    | inl h => exact I1.2 u h
    | inr h => rw [List.mem_singleton.mp h]; exact hv
  · intro D acc G2 H2 e2 S2 I2 _
    exact q D acc G2 H2 e2 S2 I2.1 I2.2
end
theorem len_snoc {α : Type} (l : List α) (a : α) : (l ++ [a]).length = l.length + 1 := List.length_append
theorem in_two {α : Type} {x a : α} {l : List α} (h : x ∈ a :: l) : x = a ∨ x ∈ l := List.mem_cons.mp h
theorem dec_iff {p q : Prop} [Decidable p] [Decidable q] (h : p ↔ q) : decide p = decide q := decide_eq_decide.mpr h
/-! ### scalars -/
/-- a value: a number or None -/
def oV : Option Int → V
  | none => .non
  | some i => .int i
def oD : Option Int → PyData
  | none => .none
  | some i => .int i
theorem oDp {K : PySem.W.Frag} {H : Hp} : ∀ a : Option Int, Dp K H (oV a) (oD a)
  | none => .non
  | some i => .int i
theorem oDps {K : PySem.W.Frag} {H : Hp} : ∀ l : List (Option Int), DpAll K H (l.map oV) (l.map oD)
  | [] => .nil
  | a :: l => .cons (oDp a) (oDps l)
theorem o_eqv (a b : Option Int) : PyData.eqv (oD a) (oD b) = decide (a = b) := by
  cases a <;> cases b
  · rfl
  · rfl
  · rfl
  · rename_i x y
    show (x == y) = decide (some x = some y)
    by_cases h : x = y
    · subst h; rw [beq_self_eq_true, decide_eq_true rfl]
    · rw [decide_eq_false (fun z => h (Option.some.inj z))]; exact beq_eq_false_iff_ne.mpr h
theorem o_shaped (a : Option Int) : SeqAt.shaped (oD a) = true := by cases a <;> rfl
theorem o_canLay : ∀ l : List (Option Int), PyData.canLayAll0 (l.map oD) = true
  | [] => rfl
  | a :: l => by
    show (PyData.canLay0 (oD a) && PyData.canLayAll0 (l.map oD)) = true
    rw [o_canLay l]
    cases a <;> rfl
theorem o_depth : ∀ l : List (Option Int), PyData.depthAll (l.map oD) = 0
  | [] => rfl
  | a :: l => by
    show max (PyData.depth (oD a)) (PyData.depthAll (l.map oD)) = 0
    rw [o_depth l]
    cases a <;> rfl
theorem os_shaped (l : List (Option Int)) : SeqAt.shaped (.list (l.map oD)) = true := by
  unfold SeqAt.shaped
  rw [show PyData.canLay0 (.list (l.map oD)) = PyData.canLayAll0 (l.map oD) from rfl, o_canLay, show PyData.depth (.list (l.map oD)) = PyData.depthAll (l.map oD) + 1 from rfl, o_depth]
  rfl
theorem os_eqv : ∀ l m : List (Option Int), PyData.eqv (.list (l.map oD)) (.list (m.map oD)) = decide (l = m)
  | [], [] => rfl
  | [], _ :: _ => rfl
  | _ :: _, [] => rfl
  | a :: l, b :: m => by
    show (PyData.eqv (oD a) (oD b) && PyData.eqv (.list (l.map oD)) (.list (m.map oD))) = _
    rw [o_eqv, os_eqv l m]
    by_cases h : a = b
    · by_cases h2 : l = m
      · subst h h2; simp
      · rw [decide_eq_false h2, decide_eq_false (fun z => h2 (List.cons.inj z).2), Bool.and_false]
    · rw [decide_eq_false h, decide_eq_false (fun z => h (List.cons.inj z).1), Bool.false_and]
theorem fit_scal {n : Nat} {d : PyData} (h : ∀ es, d ≠ .list es ∧ d ≠ .tuple es) : fit (n + 1) d := by
  cases d with
  | list es => exact ((h es).1 rfl).elim
  | tuple es => exact ((h es).2 rfl).elim
  | _ => exact True.intro
theorem fit_os (n : Nat) (l : List (Option Int)) (h : l.length < 1000000) : fit (n + 2) (.list (l.map oD)) := ⟨by rw [List.length_map]; exact h, fun e he => by
  obtain ⟨a, _, rfl⟩ := List.mem_map.mp he
  cases a <;> exact True.intro⟩
theorem fit_bools (n : Nat) (l : List Bool) (h : l.length < 1000000) : fit (n + 2) (.list (l.map PyData.bool)) := ⟨by rw [List.length_map]; exact h, fun e he => by
  obtain ⟨a, _, rfl⟩ := List.mem_map.mp he
  exact True.intro⟩

/-! Calls with keywords alone; defs made callable. -/
/-- n keyword values, put in the parameters' order -/
def gPV {α : Type} (n : Nat) (perm : List Nat) (vs zs : List α) : List α := if vs.length = 0 ∧ zs.length = n then perm.filterMap fun i => zs[i]? else []
theorem gPV_rel {n : Nat} {perm : List Nat} {vs zs : List V} {us ws : List Value} (r : Vals vs us) (q : Vals zs ws) : Vals (gPV n perm vs zs) (gPV n perm us ws) := by
  have h1 := r.length
  have h2 := q.length
  unfold gPV
  by_cases h : vs.length = 0 ∧ zs.length = n
  · rw [if_pos h, if_pos ⟨by rw [← h1]; exact h.1, by rw [← h2]; exact h.2⟩]
    induction perm with
    | nil => exact .nil
    | cons i perm ih =>
      rw [List.filterMap_cons, List.filterMap_cons]
      cases e : zs[i]? with
      | none =>
        rw [Vals.none_of q e]
        exact ih
      | some x =>
        obtain ⟨u, hu, ru⟩ := Vals.get q e
        rw [hu]
        exact .cons ru ih
  · rw [if_neg h, if_neg (fun z => h ⟨by rw [h1]; exact z.1, by rw [h2]; exact z.2⟩)]
    exact .nil
structure CalK (P : Program) (w : World) (K : PySem.W.Frag) (mg : Str → Option Value) (base : Heap) (k : Nat) (x : Str) (sp : Sp) (ks : List Str) (perm : List Nat) : Prop where
  ex : ∃ (f : Addr) (fd : FuncData) (ps : List Str), FnOk P w K mg base CX0 k f fd ps sp ∧ mg x = some (.ref f) ∧ PySem.W.keepIn K (.ref f) = true ∧ KBinds K fd ps ks (gPV ks.length perm) (gPV ks.length perm)
theorem calK_mk {P : Program} {w : World} {K : PySem.W.Frag} {mg : Str → Option Value} {base : Heap} {k : Nat} {x qual : Str} {st : Stmt} {f : Addr} {fd : FuncData} {ps ks : List Str} {perm : List Nat} {sp : Sp} (F : Fun K x qual st f fd) (G : FnOk P w K mg base CX0 k f fd ps sp) (g : mg x = some (.ref f)) (h0 : 0 < ps.length)
    (h : ∀ (kV doc pm : Value) (an : Option Addr) (cdv ct : Value) (ws : List Value), ws.length = ks.length → bindArgs (PySem.W.fnOf x qual (defArgs st) (defBody st) (defScope st) .none kV doc pm an cdv ct) ⟨[], ks.zip ws⟩ = pure (ps.zip (gPV ks.length perm [] ws))) : CalK P w K mg base k x sp ks perm := by
  have ⟨_, _, kV, doc, pm, an, cdv, ct, _, hfd, _, _⟩ := F.ex
  subst hfd
  refine ⟨f, _, ps, G, g, F.kp, ⟨fun s us ws _ hl => ?_, gPV_rel⟩⟩
  by_cases c : us.length = 0 ∧ ws.length = ks.length
  · have hu : us = [] := List.length_eq_zero_iff.mp c.1
    subst hu
    exact .of_eq (h kV doc pm an cdv ct ws c.2)
  · unfold gPV at hl
    rw [if_neg c] at hl
    exact absurd hl (by simp; omega)
section
variable {X : Cx} {k j : Nat} {x : Str} {sp : Sp} {ks : List Str} {perm : List Nat} {p pos : Pos} {kws : List Keyword} {tk : TA}
/-- a call by its name, all its values by keyword -/
theorem pe_cK (c : CalK X.prog X.w X.K X.mg X.base k x sp ks perm) (hr : Room j X.A) (hk : k ≤ j) (hg : Gl X x) (hkw : PK X kws tk)
    (named : (backToKw pos (keywordEach kws X.env)).all (·.1.isSome) = true := by rfl)
    (names : (backToKw pos (keywordEach kws X.env)).filterMap (·.1) = ks := by rfl)
    (nodb : (x == ("__debug__" : Str)) = false := by decide)
    (noStar : ((backTo pos (starEach [] X.env)).any (·.1)
      || (backToKw pos (keywordEach kws X.env)).any (·.1.isNone)) = false := by rfl) :
    PE X (.Call (.Name x p) [] kws pos) (tCallK sp (gPV ks.length perm) E0 tNil tk) := by
  have ⟨f, fd, ps, ok, hmg, hkeep, hbinds⟩ := c.ex
  constructor
  intro pins s σ H Q hI hQ
  apply wpAny_Call_Name_kw (ld_glob hI hg hmg ?_ nodb)
  apply PySem.W.callWith_KW0 (h₀ := X.base) hI.ok.mod.kin hkeep named ?_ noStar
  apply thn (hkw.run pos pins s σ H _ hI hQ)
  rintro ws s2 ⟨zs, H2, hI2, hz, hQ2⟩
  constructor
  · exact hI2.kIn
  · rw [names]
    exact run_fnk ok (hr.mono hk) hbinds pass0 hI2 .nil hz hQ2
end
/-- a def that keeps its promise, made callable -/
theorem cal_mk {P : Program} {w : World} {K : PySem.W.Frag} {mg : Str → Option Value} {base : Heap} {k : Nat} {x qual : Str} {st : Stmt} {f : Addr} {fd : FuncData} {ps : List Str} {sp : Sp} (F : Fun K x qual st f fd) (G : FnOk P w K mg base CX0 k f fd ps sp) (g : mg x = some (.ref f))
    (h : ∀ (kV doc pm : Value) (an : Option Addr) (cdv ct : Value) (us : List Value), us.length = ps.length → bindArgs (PySem.W.fnOf x qual (defArgs st) (defBody st) (defScope st) .none kV doc pm an cdv ct) ⟨us, []⟩ = pure (ps.zip us)) : C8.Cal P w K mg base k x sp [] :=
  ⟨f, fd, ps, [], G, g, F.kp, F.binds h, .nil⟩
theorem fnOk_never {P : Program} {w : World} {K : PySem.W.Frag} {mg : Str → Option Value} {base : Heap} {k : Nat} {f : Addr} {fd : FuncData} {ps : List Str} {sp : Sp} (h : ∀ vs H Q E, sp vs H Q E → False) : FnOk P w K mg base CX0 k f fd ps sp :=
  ⟨fun vs H Q E z => (h vs H Q E z).elim, fun _ _ _ _ _ _ _ _ _ _ _ _ _ z => (h _ _ _ _ z).elim⟩

/-! Built-ins with one keyword; max and min of numbers with a default. -/
def CallKR (X : Cx) (f : Value) (kn : Str) (r : V → V → Hp → VK → Prop) : Prop :=
  ∀ (pins : List (Addr × Obj)) (s : Shared) (σ : L2.St) (H : Hp) (x d : V) (v w : Value) (Q : VK), Inv X pins σ H s → RelV x v → RelV d w → r x d H Q →
    wpAny (model X.prog X.w) X.A (call f [v] [(kn, w)]) (EP X pins σ Q) X.xe s
def tBK (r : V → V → Hp → VK → Prop) (t tk : TA) : TE := fun σ H Q => t σ H fun vs H1 => tk σ H1 fun zs H2 => ∃ a d, vs = [a] ∧ zs = [d] ∧ r a d H2 Q
theorem rd_bk {r : V → V → Hp → VK → Prop} {t tk : TA} {σ : L2.St} {H : Hp} {Q : VK} (q : t σ H fun vs H1 => tk σ H1 fun zs H2 => ∃ a d, vs = [a] ∧ zs = [d] ∧ r a d H2 Q) : tBK r t tk σ H Q := q
theorem rd_bk1 {P : V → V → Prop} {a d : V} (q : P a d) : ∃ a' d', [a] = [a'] ∧ [d] = [d'] ∧ P a' d' := ⟨a, d, rfl, rfl, q⟩
theorem pe_bK {X : Cx} {id : String} {kn x : Str} {p pos : Pos} {e : Expr} {kws : List Keyword} {t tk : TA} {r : V → V → Hp → VK → Prop} (hc : CallKR X (.builtin id) kn r) (hg : Gl X x) (hm : X.mg x = none) (hv : bootBuiltins x = some (.builtin id))
    (ha : PA X [e] t) (hk : PK X kws tk)
    (hks : (backToKw pos (keywordEach kws X.env)).filterMap (·.1) = [kn] := by rfl)
    (hn : x ≠ "__name__" := by decide) (hdb : (x == ("__debug__" : Str)) = false := by decide)
    (he : backTo pos (starEach [e] X.env) = (false, eval e X.env) :: backTo pos (starEach [] X.env) := by rfl) (hpl : (backTo pos (starEach [e] X.env)).any (·.1) = false := by rfl)
    (hall : (backToKw pos (keywordEach kws X.env)).all (·.1.isSome) = true := by rfl) (hno : (backToKw pos (keywordEach kws X.env)).any (·.1.isNone) = false := by rfl) :
    PE X (.Call (.Name x p) [e] kws pos) (tBK r t tk) := by
  constructor
  intro pins s σ H Q hI hQ
  apply wpAny_Call_Name_kw (ld_blt hI hg hm hv ?_ hn hdb)
  apply PyProof.Rows.callWith_kw ?_ he hpl hall hno
  apply thn (ha.run pos pins s σ H _ hI hQ)
  rintro us s1 ⟨vs, H1, hI1, r1, q1⟩
  apply thn (hk.run pos pins s1 σ H1 _ hI1 q1)
  rintro ws s2 ⟨zs, H2, hI2, r2, a, d, rfl, rfl, q⟩
  rw [hks]
  match r1, r2 with
  | .cons ra .nil, .cons rd .nil => exact hc pins s2 σ H2 a d _ _ Q hI2 ra rd q
def foldMax : List Int → Option Int
  | [] => none
  | n :: r => some (r.foldl max n)
def foldMin : List Int → Option Int
  | [] => none
  | n :: r => some (r.foldl min n)
def rMaxD (K : PySem.W.Frag) : V → V → Hp → VK → Prop := fun x d H Q => ∃ (a : Addr) (ns : List Int), x = .ref a ∧ SqL K H a (ns.map V.int) ∧ Q ((foldMax ns).elim d V.int) H
def rMinD (K : PySem.W.Frag) : V → V → Hp → VK → Prop := fun x d H Q => ∃ (a : Addr) (ns : List Int), x = .ref a ∧ SqL K H a (ns.map V.int) ∧ Q ((foldMin ns).elim d V.int) H
theorem depth_ints : ∀ ns : List Int, PyData.depthAll (ns.map PyData.int) = 0
  | [] => rfl
  | n :: ns => by
    show max 0 (PyData.depthAll (ns.map PyData.int)) = 0
    rw [depth_ints ns]; rfl
theorem alike_ints (ns : List Int) : PySem.W.AlikeAll (ns.map PyData.int) := by
  refine ⟨fun x hx y hy => ?_, fun x hx => ?_⟩
  · have ⟨_, _, h1⟩ := List.mem_map.mp hx
    have ⟨_, _, h2⟩ := List.mem_map.mp hy
    subst h1; subst h2; rfl
  · have ⟨_, _, h1⟩ := List.mem_map.mp hx
    subst h1
    exact fun z => nomatch z
theorem ck_max {X : Cx} (hc : X.calm = true) (hu : X.A.units + 64 < cLine) : CallKR X (.builtin "max") "default" (rMaxD X.K) := by
  rintro pins s σ H x d v w Q hI rx rd ⟨a, ns, rfl, hs, q⟩
  have ⟨its, rv, hl, _⟩ := hI.list hs
  cases rx
  have ⟨as, hr⟩ := Dp.readsAll hI _ _ its (DpAll.ints (K := X.K) (H := H) ns) rv
  have room : PyData.depthAll (ns.map PyData.int) = 0 := depth_ints ns
  apply PySem.W.max_list_default (hI.ok.hd hc) hl.isList hr (alike_ints ns) (by omega)
  · intro e h' tk hk
    cases List.map_eq_nil_iff.mp e
    exact ⟨_, H, hI.kept hk, rd, q⟩
  · intro y ys i v h' tk bs e hi r hk
    match ns, e with
    | n :: r2, e =>
      have ⟨e1, e2⟩ := List.cons.inj e
      subst e1 e2
      rw [PySem.W.maxD_ints] at r
      cases r
      exact ⟨.int (r2.foldl max n), H, hI.kept hk, ⟨_, rfl⟩, q⟩
theorem ck_min {X : Cx} (hc : X.calm = true) (hu : X.A.units + 64 < cLine) : CallKR X (.builtin "min") "default" (rMinD X.K) := by
  rintro pins s σ H x d v w Q hI rx rd ⟨a, ns, rfl, hs, q⟩
  have ⟨its, rv, hl, _⟩ := hI.list hs
  cases rx
  have ⟨as, hr⟩ := Dp.readsAll hI _ _ its (DpAll.ints (K := X.K) (H := H) ns) rv
  have room : PyData.depthAll (ns.map PyData.int) = 0 := depth_ints ns
  apply PySem.W.min_list_default (hI.ok.hd hc) hl.isList hr (alike_ints ns) (by omega)
  · intro e h' tk hk
    cases List.map_eq_nil_iff.mp e
    exact ⟨_, H, hI.kept hk, rd, q⟩
  · intro y ys i v h' tk bs e hi r hk
    match ns, e with
    | n :: r2, e =>
      have ⟨e1, e2⟩ := List.cons.inj e
      subst e1 e2
      rw [PySem.W.minD_ints] at r
      cases r
      exact ⟨.int (r2.foldl min n), H, hI.kept hk, ⟨_, rfl⟩, q⟩
def rMin2 : List V → Hp → VK → Prop := fun xs H Q => ∃ i j, xs = [.int i, .int j] ∧ Q (.int (if j < i then j else i)) H
theorem cg_max2 {X : Cx} (hc : X.calm = true) : CallR X (.builtin "max") Evl.rMax2 := call_max2 hc
theorem cg_min2 {X : Cx} (hc : X.calm = true) : CallR X (.builtin "min") rMin2 := call_min2 hc

/-! Comprehensions with two fors. -/
section
variable {W : Hp → Hp → List (Addr × HO) → Prop} {K : PySem.W.Frag} {J J1 : It} {n n1 : Nat} {Gw Gw1 : Hp → Prop} {Y Y1 : Nat → Hp → V → Hp → Prop} {G H : Hp} {L : List (Addr × HO)} {σ : L2.St} {g g1 : TG} {tt tt1 : TT} {te : TE} {wi1 : TI} {vs vs1 : List Nat} {Q : VK}
/-- what is read behind the first source -/
def Lc2G (J : It) (g : TG) (tt : TT) (wi1 : TI) (g1 : TG) (tt1 : TT) (te : TE) (vs vs1 : List Nat) (σ : L2.St) (H : Hp) (Q : VK) : Prop := tLc2 (fun _ H R => R J H) g tt wi1 g1 tt1 te vs vs1 σ H Q
theorem rd_lc2 {wi : TI} (q : wi σ H fun J H1 => Lc2G J g tt wi1 g1 tt1 te vs vs1 σ H1 Q) : tLc2 wi g tt wi1 g1 tt1 te vs vs1 σ H Q := q
/-- what is read behind the second source, the list at D growing -/
def InG (J1 : It) (g1 : TG) (tt1 : TT) (te : TE) (vs1 : List Nat) (σ2 : L2.St) (D : Addr) (H4 : Hp) (Nx : Hp → Prop) : Prop := ∃ W1 : Nat → Nat → Hp → Prop, (∃ m, W1 0 m H4) ∧ ∀ j k H, W1 j k H →
  (J1.stop j H ∧ Nx H) ∨ (J1.go j H ∧ ∃ Ny : Hp → Prop, (∀ H', Ny H' → ∃ k', k' < k ∧ W1 (j + 1) k' H') ∧ ∀ x H', J1.yld j H x H' → g1 x (wipe σ2 vs1) H' fun σ3 H5 => wipe σ3 vs1 = wipe σ2 vs1 ∧ tt1 σ3 H5 fun b H6 =>
    if b = true then te σ3 H6 fun y H7 => ∃ acc, H7 D = some (.lst acc) ∧ acc.length < sizeLine ∧ Ny (upd H7 D (.lst (acc ++ [y]))) else Ny H6)
theorem in_go {D : Addr} {acc0 : List V} {Nx : Hp → Prop} (hW : Wd W) (w : Walk J1 n1 Gw1 Y1) (S : W G H ((D, .lst acc0) :: L)) (hz : acc0.length + n1 < 1000000) (It1 : Nat → V → Hp → Prop) (Inv1 : Nat → List V → Hp → Prop)
    (hG : ∀ H', Ex G H' → Gw1 H')
    (hY : ∀ i x G1 H1 H2 L1, i < n1 → Ex G G1 → W G1 H1 L1 → Y1 i H1 x H2 → ∃ G2, Ex G1 G2 ∧ W G2 H2 L1 ∧ It1 i x G2)
    (h0 : Inv1 0 acc0 G) (hM : ∀ i acc G1 G2, Ex G1 G2 → Inv1 i acc G1 → Inv1 i acc G2)
    (hS : ∀ i x acc G1 H1, i < n1 → Ex G G1 → W G1 H1 ((D, .lst acc) :: L) → Inv1 i acc G1 → It1 i x G1 → ∀ (Kp : VK) (Sk : Hp → Prop),
      (∀ v G2 H2, Ex G1 G2 → W G2 H2 ((D, .lst acc) :: L) → Inv1 (i + 1) (acc ++ [v]) G2 → Kp v H2) →
      (∀ G2 H2, Ex G1 G2 → W G2 H2 ((D, .lst acc) :: L) → Inv1 (i + 1) acc G2 → Sk H2) →
      g1 x (wipe σ vs1) H1 fun σ3 H2 => wipe σ3 vs1 = wipe σ vs1 ∧ tt1 σ3 H2 fun b H3 => if b = true then te σ3 H3 Kp else Sk H3)
    (q : ∀ acc G2 H2, Ex G G2 → W G2 H2 ((D, .lst acc) :: L) → Inv1 n1 acc G2 → Nx H2) : InG J1 g1 tt1 te vs1 σ D H Nx := by
  have hsz : sizeLine = 16777216 := sizeLine_eq
  refine ⟨fun i m H' => m = n1 - i ∧ i ≤ n1 ∧ ∃ G1 acc, Ex G G1 ∧ W G1 H' ((D, .lst acc) :: L) ∧ Inv1 i acc G1 ∧ acc.length ≤ acc0.length + i, ⟨n1, rfl, Nat.zero_le _, G, acc0, Ex.refl G, S, h0, Nat.le_refl _⟩, ?_⟩
  rintro i m H1 ⟨rfl, hi, G1, acc, e1, S1, I1, l1⟩
  have gw := hG H1 (e1.trans (hW.ex S1))
  by_cases hlt : i < n1
  · refine .inr ⟨w.goes i H1 hlt gw, fun H' => ∃ G2 acc, Ex G G2 ∧ W G2 H' ((D, .lst acc) :: L) ∧ Inv1 (i + 1) acc G2 ∧ acc.length ≤ acc0.length + (i + 1), fun H' p' => ⟨n1 - (i + 1), by omega, rfl, hlt, p'⟩, fun x H2 y => ?_⟩
    obtain ⟨G2, e2, S2, it2⟩ := hY i x G1 H1 H2 _ hlt e1 S1 (w.yields i H1 x H2 hlt gw y)
    refine hS i x acc G2 H2 hlt (e1.trans e2) S2 (hM i acc G1 G2 e2 I1) it2 _ _ (fun v G3 H3 e3 S3 I3 => ?_) (fun G3 H3 e3 S3 I3 => ?_)
    · exact ⟨acc, hW.get S3, by omega, G3, acc ++ [v], e1.trans (e2.trans e3), hW.set S3, I3, by rw [List.length_append, List.length_singleton]; omega⟩
    · exact ⟨G3, acc, e1.trans (e2.trans e3), S3, I3, by omega⟩
  · have e : i = n1 := by omega
    subst e
    exact .inl ⟨w.stops H1 gw, q acc G1 H1 e1 S1 I1⟩
/-- the outer walk -/
theorem lc2_go (hW : Wd W) (w : Walk J n Gw Y) (S : W G H L) (It : Nat → V → Hp → Prop) (Inv : Nat → List V → Hp → Prop)
    (hG : ∀ H', Ex G H' → Gw H')
    (hY : ∀ i x G1 H1 H2 L1, i < n → Ex G G1 → W G1 H1 L1 → Y i H1 x H2 → ∃ G2, Ex G1 G2 ∧ W G2 H2 L1 ∧ It i x G2)
    (h0 : Inv 0 [] G) (hM : ∀ i acc G1 G2, Ex G1 G2 → Inv i acc G1 → Inv i acc G2)
    (hS : ∀ D i x acc G1 H1, i < n → Ex G G1 → W G1 H1 ((D, .lst acc) :: L) → Inv i acc G1 → It i x G1 → ∀ (Nx : Hp → Prop),
      (∀ acc' G2 H2, Ex G1 G2 → W G2 H2 ((D, .lst acc') :: L) → Inv (i + 1) acc' G2 → Nx H2) →
      g x (wipe σ vs) H1 fun σ2 H2 => wipe σ2 vs = wipe σ vs ∧ tt σ2 H2 fun b H3 => if b = true then wi1 σ2 H3 fun J1 H4 => InG J1 g1 tt1 te vs1 σ2 D H4 Nx else Nx H3)
    (q : ∀ D acc G2 H2, Ex G G2 → W G2 H2 ((D, .lst acc) :: L) → Inv n acc G2 → Q (.ref D) H2) : Lc2G J g tt wi1 g1 tt1 te vs vs1 σ H Q := by
  intro D hD
  refine ⟨fun i m H' => m = n - i ∧ i ≤ n ∧ ∃ G1 acc, Ex G G1 ∧ W G1 H' ((D, .lst acc) :: L) ∧ Inv i acc G1, ⟨n, rfl, Nat.zero_le _, G, [], Ex.refl G, hW.mk2 S hD, h0⟩, ?_⟩
  rintro i m H1 ⟨rfl, hi, G1, acc, e1, S1, I1⟩
  have gw := hG H1 (e1.trans (hW.ex S1))
  by_cases hlt : i < n
  · refine .inr ⟨w.goes i H1 hlt gw, fun H' => ∃ G2 acc, Ex G G2 ∧ W G2 H' ((D, .lst acc) :: L) ∧ Inv (i + 1) acc G2, fun H' p' => ⟨n - (i + 1), by omega, rfl, hlt, p'⟩, fun x H2 y => ?_⟩
    obtain ⟨G2, e2, S2, it2⟩ := hY i x G1 H1 H2 _ hlt e1 S1 (w.yields i H1 x H2 hlt gw y)
    exact hS D i x acc G2 H2 hlt (e1.trans e2) S2 (hM i acc G1 G2 e2 I1) it2 _ fun acc' G3 H3 e3 S3 I3 => ⟨G3, acc', e1.trans (e2.trans e3), S3, I3⟩
  · have e : i = n := by omega
    subst e
    exact .inl ⟨w.stops H1 gw, q D acc G1 H1 e1 S1 I1⟩
end

/-! Reading comprehensions with any number of fors. -/
open PySem PySem.Spec PyProof.Rows L2 Evl RZ LCN
section
variable {W : Hp → Hp → List (Addr × HO) → Prop} {K : PySem.W.Frag} {J : It} {n : Nat} {Gw : Hp → Prop} {Y : Nat → Hp → V → Hp → Prop} {G H : Hp} {L : List (Addr × HO)} {σ : L2.St} {g : TG} {tt : TT} {te : TE} {wi : TI} {vs : List Nat} {Q : VK} {c : Cl} {cs : List Cl}
/-- behind the first source -/
def LcNG (J : It) (g : TG) (tt : TT) (cs : List Cl) (te : TE) (vs : List Nat) (σ : L2.St) (H : Hp) (Q : VK) : Prop := tLcN (fun _ H R => R J H) g tt cs te vs σ H Q
theorem rd_lcN (q : wi σ H fun J H1 => LcNG J g tt cs te vs σ H1 Q) : tLcN wi g tt cs te vs σ H Q := q
/-- behind a further source, the list at D growing -/
def InNG (J : It) (c : Cl) (cs : List Cl) (te : TE) (D : Addr) (σ : L2.St) (H : Hp) (Nx : Hp → Prop) : Prop := InN te D (⟨fun _ H R => R J H, c.g, c.tt, c.vs⟩ :: cs) σ H Nx
theorem rd_inN {D : Addr} {Nx : Hp → Prop} {g1 : TG} {tt1 : TT} {vs1 : List Nat} (q : wi σ H fun J H1 => InNG J ⟨wi, g1, tt1, vs1⟩ cs te D σ H1 Nx) : InN te D (⟨wi, g1, tt1, vs1⟩ :: cs) σ H Nx := q
theorem rd_emit {D : Addr} {Nx : Hp → Prop} (q : te σ H fun y H1 => ∃ acc, H1 D = some (.lst acc) ∧ acc.length < sizeLine ∧ Nx (upd H1 D (.lst (acc ++ [y])))) : InN te D [] σ H Nx := q
/-- the first walk -/
theorem lcN_go (hW : Wd W) (w : Walk J n Gw Y) (S : W G H L) (It : Nat → V → Hp → Prop) (Inv : Nat → List V → Hp → Prop)
    (hG : ∀ H', Ex G H' → Gw H')
    (hY : ∀ i x G1 H1 H2 L1, i < n → Ex G G1 → W G1 H1 L1 → Y i H1 x H2 → ∃ G2, Ex G1 G2 ∧ W G2 H2 L1 ∧ It i x G2)
    (h0 : Inv 0 [] G) (hM : ∀ i acc G1 G2, Ex G1 G2 → Inv i acc G1 → Inv i acc G2)
    (hS : ∀ D i x acc G1 H1, i < n → Ex G G1 → W G1 H1 ((D, .lst acc) :: L) → Inv i acc G1 → It i x G1 → ∀ (Ny : Hp → Prop),
      (∀ acc' G2 H2, Ex G1 G2 → W G2 H2 ((D, .lst acc') :: L) → Inv (i + 1) acc' G2 → Ny H2) →
      g x (wipe σ vs) H1 fun σ2 H2 => wipe σ2 vs = wipe σ vs ∧ tt σ2 H2 fun b H3 => if b = true then InN te D cs σ2 H3 Ny else Ny H3)
    (q : ∀ D acc G2 H2, Ex G G2 → W G2 H2 ((D, .lst acc) :: L) → Inv n acc G2 → Q (.ref D) H2) : LcNG J g tt cs te vs σ H Q := by
  intro D hD
  refine ⟨fun i m H' => m = n - i ∧ i ≤ n ∧ ∃ Ga acc, Ex G Ga ∧ W Ga H' ((D, .lst acc) :: L) ∧ Inv i acc Ga, ⟨n, rfl, Nat.zero_le _, G, [], Ex.refl G, hW.mk2 S hD, h0⟩, ?_⟩
  rintro i m H1 ⟨rfl, hi, G1, acc, e1, S1, I1⟩
  have gw := hG H1 (e1.trans (hW.ex S1))
  rcases Nat.lt_or_eq_of_le hi with lt | rfl
  · refine .inr ⟨w.goes i H1 lt gw, fun H' => ∃ Ga acc, Ex G Ga ∧ W Ga H' ((D, .lst acc) :: L) ∧ Inv (i + 1) acc Ga, fun H' p' => ⟨n - (i + 1), by omega, rfl, lt, p'⟩, fun x H2 y => ?_⟩
    obtain ⟨G2, e2, S2, it2⟩ := hY i x G1 H1 H2 _ lt e1 S1 (w.yields i H1 x H2 lt gw y)
    exact hS D i x acc G2 H2 lt (e1.trans e2) S2 (hM i acc G1 G2 e2 I1) it2 _ fun acc' G3 H3 e3 S3 I3 => ⟨G3, acc', e1.trans (e2.trans e3), S3, I3⟩
  · exact .inl ⟨w.stops H1 gw, q D acc G1 H1 e1 S1 I1⟩
/-- a further walk -/
theorem inN_go {D : Addr} {acc0 : List V} {Nx : Hp → Prop} (hW : Wd W) (w : Walk J n Gw Y) (S : W G H ((D, .lst acc0) :: L)) (It : Nat → V → Hp → Prop) (Inv : Nat → List V → Hp → Prop)
    (hG : ∀ H', Ex G H' → Gw H')
    (hY : ∀ i x G1 H1 H2 L1, i < n → Ex G G1 → W G1 H1 L1 → Y i H1 x H2 → ∃ G2, Ex G1 G2 ∧ W G2 H2 L1 ∧ It i x G2)
    (h0 : Inv 0 acc0 G) (hM : ∀ i acc G1 G2, Ex G1 G2 → Inv i acc G1 → Inv i acc G2)
    (hS : ∀ i x acc G1 H1, i < n → Ex G G1 → W G1 H1 ((D, .lst acc) :: L) → Inv i acc G1 → It i x G1 → ∀ (Ny : Hp → Prop),
      (∀ acc' G2 H2, Ex G1 G2 → W G2 H2 ((D, .lst acc') :: L) → Inv (i + 1) acc' G2 → Ny H2) →
      c.g x (wipe σ c.vs) H1 fun σ2 H2 => wipe σ2 c.vs = wipe σ c.vs ∧ c.tt σ2 H2 fun b H3 => if b = true then InN te D cs σ2 H3 Ny else Ny H3)
    (q : ∀ acc G2 H2, Ex G G2 → W G2 H2 ((D, .lst acc) :: L) → Inv n acc G2 → Nx H2) : InNG J c cs te D σ H Nx := by
  refine ⟨fun i m H' => m = n - i ∧ i ≤ n ∧ ∃ Ga acc, Ex G Ga ∧ W Ga H' ((D, .lst acc) :: L) ∧ Inv i acc Ga, ⟨n, rfl, Nat.zero_le _, G, acc0, Ex.refl G, S, h0⟩, ?_⟩
  rintro i m H1 ⟨rfl, hi, G1, acc, e1, S1, I1⟩
  have gw := hG H1 (e1.trans (hW.ex S1))
  rcases Nat.lt_or_eq_of_le hi with lt | rfl
  · refine .inr ⟨w.goes i H1 lt gw, fun H' => ∃ Ga acc, Ex G Ga ∧ W Ga H' ((D, .lst acc) :: L) ∧ Inv (i + 1) acc Ga, fun H' p' => ⟨n - (i + 1), by omega, rfl, lt, p'⟩, fun x H2 y => ?_⟩
    obtain ⟨G2, e2, S2, it2⟩ := hY i x G1 H1 H2 _ lt e1 S1 (w.yields i H1 x H2 lt gw y)
    exact hS i x acc G2 H2 lt (e1.trans e2) S2 (hM i acc G1 G2 e2 I1) it2 _ fun acc' G3 H3 e3 S3 I3 => ⟨G3, acc', e1.trans (e2.trans e3), S3, I3⟩
  · exact .inl ⟨w.stops H1 gw, q acc G1 H1 e1 S1 I1⟩
end


local macro_rules | `(tactic| walk_at "kt") => `(tactic| first
  | exact kt_NoneType_bool
  | exact kt_NoneType_int
  | exact kt_NoneType_str
  | exact kt_NoneType_list
  | exact kt_NoneType_tuple
  | exact kt_bool_bool
  | exact kt_bool_int
  | exact kt_bool_str
  | exact kt_bool_list
  | exact kt_bool_tuple
  | exact kt_int_bool
  | exact kt_int_int
  | exact kt_int_str
  | exact kt_int_list
  | exact kt_int_tuple
  | exact kt_str_bool
  | exact kt_str_int
  | exact kt_str_str
  | exact kt_str_list
  | exact kt_str_tuple
  | exact kt_list_bool
  | exact kt_list_int
  | exact kt_list_str
  | exact kt_list_list
  | exact kt_list_tuple
  | exact kt_tuple_bool
  | exact kt_tuple_int
  | exact kt_tuple_str
  | exact kt_tuple_list
  | exact kt_tuple_tuple)
local macro_rules | `(tactic| walk_at "dp") => `(tactic| first
  | exact Dp.non | exact Dp.bl _ | exact Dp.int _ | exact Dp.str _ | assumption | exact Dp.ex (Stt.ex (by assumption)) _ _ (by assumption))
local macro_rules | `(tactic| walk_at "isi") => `(tactic| ((with_reducible refine' rd_isi ?h ?k ?_); (case h => walk_at "dp"); (case k => walk_at "kt")))
local macro_rules | `(tactic| walk_at "gk") => `(tactic| repeat (first | walk_at "go1" | walk_at "isi" | walk_at "dec"))
local macro_rules | `(tactic| walk_at "dc") => `(tactic| first
  | ((with_reducible refine rd_dec (fun e => ?aa) (fun e => ?bb)); (case aa => first | (exfalso; revert e; decide) | (exfalso; cases e; done) | exact absurd rfl e))
  | ((with_reducible refine rd_dec (fun e => ?aa) (fun e => ?bb)); (case bb => first | (exfalso; revert e; decide) | (exfalso; cases e; done) | exact absurd rfl e))
  | ((with_reducible refine rd_decN (fun e => ?aa) (fun e => ?bb)); (case aa => first | (exfalso; revert e; decide) | (exfalso; cases e; done) | exact absurd rfl e))
  | ((with_reducible refine rd_decN (fun e => ?aa) (fun e => ?bb)); (case bb => first | (exfalso; revert e; decide) | (exfalso; cases e; done) | exact absurd rfl e)))
local macro_rules | `(tactic| walk_at "gc") => `(tactic| (repeat (first | walk_at "go1" | walk_at "isi" | walk_at "dc")); (try dsimp only))

/-- a stretch: None, or two sides -/
abbrev SD := Option (Option Int × Option Int)
def StV (K : PySem.W.Frag) (G : Hp) (v : V) : SD → Prop
  | none => v = .non
  | some (a, b) => ∃ p, v = .ref p ∧ SqT K G p [oV a, oV b]
def sD : SD → PyData
  | none => .none
  | some (a, b) => .tuple [oD a, oD b]
theorem StV.ex {K : PySem.W.Frag} {G G' : Hp} {v : V} (e : Ex G G') : ∀ {s : SD}, StV K G v s → StV K G' v s
  | none, h => h
  | some (a, b), ⟨p, h1, h2⟩ => ⟨p, h1, ex_t e h2⟩
theorem StV.dp {K : PySem.W.Frag} {G : Hp} {v : V} : ∀ {s : SD}, StV K G v s → Dp K G v (sD s)
  | none, h => by cases h; exact .non
  | some (a, b), ⟨p, h1, h2⟩ => by subst h1; exact .tup h2 (.cons (oDp a) (.cons (oDp b) .nil))
def loV : Option Int → Int → Bool
  | none, _ => true
  | some a, v => decide (a ≤ v)
def hiV : Option Int → Int → Bool
  | none, _ => true
  | some b, v => decide (v ≤ b)
def inS : SD → Option Int → Bool
  | none, none => true
  | none, some _ => false
  | some _, none => false
  | some (a, b), some v => loV a v && hiV b v
def sp_in_stretch (K : PySem.W.Frag) : Sp := fun vs H Q _ => ∃ (x : V) (s : SD) (o : Option Int), vs = [x, oV o] ∧ StV K H x s ∧ Q (.bl (inS s o)) H
def t_in_stretch_2 (K : PySem.W.Frag) : TS :=
  (tRet (tAndV (tOrV (tOp rIsN (tVar 2) (tC .non)) (tCB gBool (tCons (tOp (rI0 fun i j => .bl (decide (i ≤ j))) (tVar 2) (tVar 1)) tNil))) (tOrV (tOp rIsN (tVar 3) (tC .non)) (tCB gBool (tCons (tOp (rI0 fun i j => .bl (decide (i ≤ j))) (tVar 1) (tVar 3)) tNil)))))
def t_in_stretch_1 (K : PySem.W.Frag) : TS :=
  (tSeq (tAsg (tVar 0) (gTup K 2 (gCons (gName 2) (gCons (gName 3) gNil))))
  (t_in_stretch_2 K))
def t_in_stretch (K : PySem.W.Frag) : TS :=
  (tSeq (tIfS (tOr (tTest (tOp rIsN (tVar 0) (tC .non))) (tTest (tOp rIsN (tVar 1) (tC .non)))) (tRet (tAndV (tOp rIsN (tVar 0) (tC .non)) (tOp rIsN (tVar 1) (tC .non)))) tNext)
  (t_in_stretch_1 K))
theorem read_in_stretch {K : PySem.W.Frag} {x : V} {s : SD} {o : Option Int} {H : Hp} {D : Ends} {a1 a2 : Option V} (hx : StV K H x s) (q : D.rt (.bl (inS s o)) H) : t_in_stretch K D [some x, some (oV o), a1, a2] H := by
  unfold t_in_stretch
  cases s with
  | none =>
    cases hx
    cases o <;> (dsimp only [oV]; walk_at "gc"; exact q)
  | some ab =>
    obtain ⟨a, b⟩ := ab
    obtain ⟨p, rfl, hp⟩ := hx
    cases o with
    | none =>
      dsimp only [oV]
      walk_at "gc"
      exact q
    | some v =>
      dsimp only [oV]
      walk_at "gc"
      try dsimp only
      unfold t_in_stretch_1
      walk_at "gc"
      refine rd_gtup2 hp ?_
      unfold t_in_stretch_2
      rcases a with _ | a <;> rcases b with _ | b <;> dsimp only [oV]
      · walk_at "gc"
        exact q
      · walk_at "gc"
        exact q
      · walk_at "gc"
        by_cases h : a ≤ v
        · rw [decide_eq_true h]
          walk_at "gc"
          rw [show inS (some (some a, none)) (some v) = (decide (a ≤ v) && true) from rfl, decide_eq_true h] at q
          exact q
        · rw [decide_eq_false h]
          walk_at "gc"
          rw [show inS (some (some a, none)) (some v) = (decide (a ≤ v) && true) from rfl, decide_eq_false h] at q
          exact q
      · walk_at "gc"
        by_cases h : a ≤ v
        · rw [decide_eq_true h]
          walk_at "gc"
          rw [show inS (some (some a, some b)) (some v) = (decide (a ≤ v) && decide (v ≤ b)) from rfl, decide_eq_true h] at q
          exact q
        · rw [decide_eq_false h]
          walk_at "gc"
          rw [show inS (some (some a, some b)) (some v) = (decide (a ≤ v) && decide (v ≤ b)) from rfl, decide_eq_false h] at q
          exact q
theorem sat_in_stretch {K : PySem.W.Frag} {vs : List V} {H : Hp} {Q : VK} {E : XK} (h : sp_in_stretch K vs H Q E) : vs.length = 2 ∧ t_in_stretch K { nx := fun _ H' => Q .non H', rt := Q } (vs.map some ++ List.replicate (4 - vs.length) none) H := by
  obtain ⟨x, s, o, rfl, hx, q⟩ := h
  exact ⟨rfl, read_in_stretch hx q⟩
theorem fit_sD (n : Nat) : ∀ s : SD, fit (n + 2) (sD s)
  | none => True.intro
  | some (a, b) => ⟨by show 2 < _; decide, fun e he => by
    rcases in_two he with rfl | he
    · cases a <;> exact True.intro
    · rw [List.mem_singleton.mp he]; cases b <;> exact True.intro⟩

/-! Numbers, values, stretches. -/


def isNum : PyData → Bool
  | .int _ => true
  | _ => false
def isVal : PyData → Bool
  | .none => true
  | .int _ => true
  | _ => false
def sp_is_number (K : PySem.W.Frag) : Sp := fun vs H Q _ => ∃ (x : V) (d : PyData), vs = [x] ∧ Dp K H x d ∧ Q (.bl (isNum d)) H
def t_is_number (K : PySem.W.Frag) : TS :=
  (tRet (tAndV (tCB (gIsi K) (tCons (tVar 0) (tCons (tC (.ty "int")) tNil))) (tNotV (tCB (gIsi K) (tCons (tVar 0) (tCons (tC (.ty "bool")) tNil))))))
theorem read_is_number {K : PySem.W.Frag} {x : V} {d : PyData} {H : Hp} {D : Ends} (hx : Dp K H x d) (q : D.rt (.bl (isNum d)) H) : t_is_number K D [some x] H := by
  unfold t_is_number
  cases d with
  | dict _ => cases hx
  | _ =>
    walk_at "gk"
    exact q
theorem sat_is_number {K : PySem.W.Frag} {vs : List V} {H : Hp} {Q : VK} {E : XK} (h : sp_is_number K vs H Q E) : vs.length = 1 ∧ t_is_number K { nx := fun _ H' => Q .non H', rt := Q } (vs.map some ++ List.replicate (1 - vs.length) none) H := by
  obtain ⟨x, d, rfl, hx, q⟩ := h
  exact ⟨rfl, read_is_number hx q⟩
def sp_is_value (K : PySem.W.Frag) : Sp := fun vs H Q _ => ∃ (x : V) (d : PyData), vs = [x] ∧ Dp K H x d ∧ Q (.bl (isVal d)) H
def t_is_value (K : PySem.W.Frag) : TS :=
  (tRet (tOrV (tOp rIsN (tVar 0) (tC .non)) (tCall (sp_is_number K) [] E0 (tCons (tVar 0) tNil))))
theorem read_is_value {K : PySem.W.Frag} {x : V} {d : PyData} {H : Hp} {D : Ends} (hx : Dp K H x d) (q : D.rt (.bl (isVal d)) H) : t_is_value K D [some x] H := by
  unfold t_is_value
  cases d with
  | dict _ => cases hx
  | none =>
    cases hx
    walk_at "gk"
    exact q
  | _ =>
    have hx' := hx
    cases hx
    walk_at "gk"
    exact ⟨_, _, rfl, hx', q⟩
theorem sat_is_value {K : PySem.W.Frag} {vs : List V} {H : Hp} {Q : VK} {E : XK} (h : sp_is_value K vs H Q E) : vs.length = 1 ∧ t_is_value K { nx := fun _ H' => Q .non H', rt := Q } (vs.map some ++ List.replicate (1 - vs.length) none) H := by
  obtain ⟨x, d, rfl, hx, q⟩ := h
  exact ⟨rfl, read_is_value hx q⟩

/-! Numbers, values, stretches. -/


/-- low may stand below high -/
def leV : PyData → PyData → Bool
  | .int a, .int b => decide (a ≤ b)
  | _, _ => true
def isSt : PyData → Bool
  | .none => true
  | .tuple [a, b] => isVal a && isVal b && leV a b
  | _ => false
def sp_is_stretch (K : PySem.W.Frag) : Sp := fun vs H Q _ => ∃ (x : V) (d : PyData), vs = [x] ∧ Dp K H x d ∧ Q (.bl (isSt d)) H
def t_is_stretch_4 (K : PySem.W.Frag) : TS :=
  (tRet (tOrV (tOp rIsN (tVar 1) (tC .non)) (tOrV (tOp rIsN (tVar 2) (tC .non)) (tCB gBool (tCons (tOp (rI0 fun i j => .bl (decide (i ≤ j))) (tVar 1) (tVar 2)) tNil)))))
def t_is_stretch_3 (K : PySem.W.Frag) : TS :=
  (tSeq (tIfS (tOr (tNot (tB (tCall (sp_is_value K) [] E0 (tCons (tVar 1) tNil)))) (tNot (tB (tCall (sp_is_value K) [] E0 (tCons (tVar 2) tNil))))) (tRet (tC (.bl false))) tNext)
  (t_is_stretch_4 K))
def t_is_stretch_2 (K : PySem.W.Frag) : TS :=
  (tSeq (tAsg (tVar 0) (gTup K 2 (gCons (gName 1) (gCons (gName 2) gNil))))
  (t_is_stretch_3 K))
def t_is_stretch_1 (K : PySem.W.Frag) : TS :=
  (tSeq (tIfS (tOr (tNot (tB (tCB (gIsi K) (tCons (tVar 0) (tCons (tC (.ty "tuple")) tNil))))) (tTest (tOp (gNe K) (tCB (gLen K) (tCons (tVar 0) tNil)) (tC (.int 2))))) (tRet (tC (.bl false))) tNext)
  (t_is_stretch_2 K))
def t_is_stretch (K : PySem.W.Frag) : TS :=
  (tSeq (tIfS (tTest (tOp rIsN (tVar 0) (tC .non))) (tRet (tC (.bl true))) tNext)
  (t_is_stretch_1 K))
theorem rd_gtup {K : PySem.W.Frag} {i j : Nat} {T : Addr} {x y : V} {σ : L2.St} {H : Hp} {N : L2.St → Hp → Prop} (h : SqT K H T [x, y]) (q : N ((σ.set i (some x)).set j (some y)) H) : gTup K 2 (gCons (gName i) (gCons (gName j) gNil)) (.ref T) σ H N := rd_gtup2 h q
theorem read_is_stretch {K : PySem.W.Frag} {x : V} {d : PyData} {H : Hp} {D : Ends} {a1 a2 : Option V} (hx : Dp K H x d) (q : D.rt (.bl (isSt d)) H) : t_is_stretch K D [some x, a1, a2] H := by
  unfold t_is_stretch
  cases d with
  | dict _ => cases hx
  | none =>
    cases hx
    walk_at "gk"
    exact q
  | tuple ds =>
    have hx' := hx
    cases hx with
    | @tup p xs _ hp hA =>
    have hl := DpAll.length hA
    walk_at "gk"
    try dsimp only
    unfold t_is_stretch_1
    walk_at "gk"
    refine rd_lenT hp ?_
    walk_at "go"
    refine rd_decN (fun e => ?_) (fun e => ?_)
    · have h2 : ds.length = 2 := by omega
      match ds, h2 with
      | [d1, d2], _ =>
      cases hA with
      | @cons v1 _ _ _ h1 hA =>
      cases hA with
      | @cons v2 _ _ _ h2 hA =>
      cases hA
      walk_at "go"
      unfold t_is_stretch_2
      walk_at "go"
      refine rd_gtup2 hp ?_
      unfold t_is_stretch_3
      walk_at "go"
      refine ⟨_, d1, rfl, h1, ?_⟩
      walk_at "go"
      cases e1 : isVal d1 with
      | false =>
        walk_at "gk"
        rw [show isSt (.tuple [d1, d2]) = (isVal d1 && isVal d2 && leV d1 d2) from rfl, e1] at q
        exact q
      | true =>
        walk_at "gk"
        refine ⟨_, d2, rfl, h2, ?_⟩
        walk_at "go"
        cases e2 : isVal d2 with
        | false =>
          walk_at "gk"
          rw [show isSt (.tuple [d1, d2]) = (isVal d1 && isVal d2 && leV d1 d2) from rfl, e1, e2] at q
          exact q
        | true =>
          walk_at "gk"
          try dsimp only
          unfold t_is_stretch_4
          rw [show isSt (.tuple [d1, d2]) = (isVal d1 && isVal d2 && leV d1 d2) from rfl, e1, e2] at q
          cases d1 with
          | none =>
            cases h1
            walk_at "gk"
            cases d2 with
            | none => exact q
            | int _ => exact q
            | _ => cases e2
          | int a =>
            cases h1
            cases d2 with
            | none =>
              cases h2
              walk_at "gk"
              exact q
            | int b =>
              cases h2
              walk_at "gk"
              exact q
            | _ => cases e2
          | _ => cases e1
    · walk_at "go"
      have : isSt (.tuple ds) = false := by
        match ds, hl with
        | [], _ => rfl
        | [_], _ => rfl
        | [_, _], h => exact absurd (by rw [h]; rfl) e
        | _ :: _ :: _ :: _, _ => rfl
      rw [this] at q
      exact q
  | _ =>
    have hx' := hx
    cases hx
    walk_at "gk"
    try dsimp only
    unfold t_is_stretch_1
    walk_at "gk"
    exact q
theorem sat_is_stretch {K : PySem.W.Frag} {vs : List V} {H : Hp} {Q : VK} {E : XK} (h : sp_is_stretch K vs H Q E) : vs.length = 1 ∧ t_is_stretch K { nx := fun _ H' => Q .non H', rt := Q } (vs.map some ++ List.replicate (3 - vs.length) none) H := by
  obtain ⟨x, d, rfl, hx, q⟩ := h
  exact ⟨rfl, read_is_stretch hx q⟩

/-! enumerate of a tuple; zip of a list and a tuple. -/
section
variable {s : Shared} {P : Program} {w : World} {A : Around} {E : Value → Shared → Prop}
/-- one more pair of a place and an item -/
theorem enumT_step {e it l : Addr} {i : Nat} {vs : Array Value} {x old : Value} {Q : Value → Shared → Prop} (en : IsEnum s.heap e it i old) (ti : s.heap.IsTupleIter it l i) (tu : s.heap.IsTuple l vs) (vx : vs[i]? = some x) (ne : e ≠ it)
    (q : ∀ h2, IsEnumOut h2 e it ((i : Int) + 1) x s.heap.objs.size → h2.IsTupleIter it l (i + 1) → h2.get? s.heap.objs.size = some { cls := .type "tuple", data := .seq #[.int i s.toks, x] } → h2.objs.size = s.heap.objs.size + 1 →
      (∀ b o, b ≠ e → b ≠ it → s.heap.get? b = some o → h2.get? b = some o) → Q (.ref s.heap.objs.size) { s with heap := h2, toks := s.toks + 1 }) :
    wpAny (model P w) A (Builtin.«enumerate.__next__» ⟨[.ref e], []⟩) (fun fin s2 => ∃ v, fin = .done (.ret v) ∧ Q v s2) E s := by
  obtain ⟨hp, ge, dr, tk, os⟩ := s
  have low : e < hp.objs.size := Heap.lt_size en
  show wpAny _ _ (field (.ref e) 2 >>= _) _ _ (⟨hp, ge, dr, tk, os⟩ : Shared)
  refine wpAny_bind (wpAny_field en rfl (x := .ref it) rfl ?_)
  refine wpAny_bind (nextOf_tuple_item ti tu vx fun a1 i1 k1 => ?_)
  replace k1 : Heap.SameBut it hp a1 := k1
  have e1 : IsEnum a1 e it i old := (k1.2 e ne).trans en
  show wpAny _ _ (field (.ref e) 3 >>= _) _ _ (⟨a1, ge, dr, tk, os⟩ : Shared)
  refine wpAny_bind (wpAny_field e1 rfl (x := rawInt i) rfl ?_)
  show wpAny _ _ (field (.ref e) 4 >>= _) _ _ (⟨a1, ge, dr, tk, os⟩ : Shared)
  refine wpAny_bind (wpAny_field e1 rfl (x := .none) rfl ?_)
  show wpAny _ _ (mkInt i >>= _) _ _ (⟨a1, ge, dr, tk, os⟩ : Shared)
  refine wpAny_bind (wpAny_mkInt ?_); show wpAny _ _ (setField (.ref e) 3 (rawInt ((i : Int) + 1)) >>= _) _ _ (⟨a1, ge, dr, tk + 1, os⟩ : Shared)
  refine wpAny_bind (wpAny_setField_rec e1 (by simp) fun a2 e2 k2 => ?_)
  replace k2 : Heap.SameBut e a1 a2 := k2
  replace e2 : IsEnum a2 e it ((i : Int) + 1) old := e2
  show wpAny _ _ (setField (.ref e) 4 .none >>= _) _ _ (⟨a2, ge, dr, tk + 1, os⟩ : Shared)
  refine wpAny_bind (wpAny_setField_rec e2 (by simp) fun a3 e3 k3 => ?_)
  replace k3 : Heap.SameBut e a2 a3 := k3
  replace e3 : IsEnum a3 e it ((i : Int) + 1) old := e3
  show wpAny _ _ (newTuple [.int i tk, x] >>= _) _ _ (⟨a3, ge, dr, tk + 1, os⟩ : Shared)
  refine wpAny_bind (wpAny_newTuple ?_); have z3 : a3.objs.size = hp.objs.size := k3.1.trans (k2.1.trans k1.1)
  have e4 : IsEnum (a3.push { cls := .type "tuple", data := .seq #[.int i tk, x] }) e it ((i : Int) + 1) old := Heap.get?_push_of_some _ e3
  have t4 := Heap.get?_push_size a3 (o := { cls := .type "tuple", data := .seq #[.int i tk, x] }) rfl
  have i3 : a3.IsTupleIter it l (i + 1) := (i1.extBut k2.extBut (Ne.symm ne)).extBut k3.extBut (Ne.symm ne)
  have i4 : (a3.push { cls := .type "tuple", data := .seq #[.int i tk, x] }).IsTupleIter it l (i + 1) := have ⟨o, ho, r⟩ := i3; ⟨o, Heap.get?_push_of_some _ ho, r⟩
  have z4 : (a3.push { cls := .type "tuple", data := .seq #[.int i tk, x] }).objs.size = hp.objs.size + 1 := by rw [Heap.size_push, z3]
  have s4 : ∀ b o, b ≠ e → b ≠ it → hp.get? b = some o → (a3.push { cls := .type "tuple", data := .seq #[.int i tk, x] }).get? b = some o := fun b o b1 b2 z =>
    Heap.get?_push_of_some _ (k3.extBut b o b1 (k2.extBut b o b1 (k1.extBut b o b2 z)))
  rw [z3] at t4
  rw [z3]
  generalize a3.push { cls := .type "tuple", data := .seq #[.int i tk, x] } = a4 at e4 t4 i4 z4 s4
  show wpAny _ _ (Builtin.SmallTypes.ownedTupleIsFree (.ref e) >>= _) _ _ (⟨a4, ge, dr, tk + 1, os⟩ : Shared)
  unfold Builtin.SmallTypes.ownedTupleIsFree; refine wpAny_bind (wpAny_bind (wpAny_field e4 rfl (x := .none) rfl (wpAny_pure ?_)))
  simp only [if_true]
  refine wpAny_bind (wpAny_rule ?_); refine wpAny_bind (wpAny_field e4 rfl (x := old) rfl ?_)
  refine wpAny_bind (wpAny_setField_rec e4 (by simp) fun a5 e5 k5 => ?_)
  replace k5 : Heap.SameBut e a4 a5 := k5
  replace e5 : IsEnum a5 e it ((i : Int) + 1) x := e5
  show wpAny _ _ (Builtin.SmallTypes.ownedTupleHandOut (.ref e) (.ref hp.objs.size) >>= _) _ _ (⟨a5, ge, dr, tk + 1, os⟩ : Shared)
  unfold Builtin.SmallTypes.ownedTupleHandOut; refine wpAny_bind (wpAny_bind (wpAny_setField_rec e5 (by simp) fun a6 e6 k6 => ?_))
  replace k6 : Heap.SameBut e a5 a6 := k6
  replace e6 : IsEnumOut a6 e it ((i : Int) + 1) x hp.objs.size := e6
  refine wpAny_setField_rec e6 (by simp) fun a7 e7 k7 => ?_
  replace k7 : Heap.SameBut e a6 a7 := k7
  replace e7 : IsEnumOut a7 e it ((i : Int) + 1) x hp.objs.size := e7
  have up : ∀ b o, b ≠ e → a4.get? b = some o → a7.get? b = some o := fun b o b1 z => k7.extBut b o b1 (k6.extBut b o b1 (k5.extBut b o b1 z))
  refine wpAny_bind (wpAny_letGo (wpAny_pure ⟨_, rfl, q a7 e7 ?_ (up _ _ (Nat.ne_of_gt low) t4) ?_ fun b o b1 b2 z => up b o b1 (s4 b o b1 b2 z)⟩))
  · exact have ⟨o, ho, r⟩ := i4; ⟨o, up it o (Ne.symm ne) ho, r⟩
  · rw [k7.1, k6.1, k5.1, z4]
theorem enumT_item {e it l : Addr} {i : Nat} {vs : Array Value} {x old : Value} {Q : Option Value → Shared → Prop} (en : IsEnum s.heap e it i old) (ti : s.heap.IsTupleIter it l i) (tu : s.heap.IsTuple l vs) (vx : vs[i]? = some x) (ne : e ≠ it)
    (q : ∀ h2, IsEnumOut h2 e it ((i : Int) + 1) x s.heap.objs.size → h2.IsTupleIter it l (i + 1) → h2.get? s.heap.objs.size = some { cls := .type "tuple", data := .seq #[.int i s.toks, x] } → h2.objs.size = s.heap.objs.size + 1 →
      (∀ b o, b ≠ e → b ≠ it → s.heap.get? b = some o → h2.get? b = some o) → Q (some (.ref s.heap.objs.size)) { s with heap := h2, toks := s.toks + 1 }) : wpAny (model P w) A (pyNext (.ref e)) Q E s := by
  have ty : s.TypeIs (.ref e) "enumerate" := ⟨_, en, rfl⟩
  unfold pyNext
  refine wpAny_bind (wpAny_attempt (wpAny_callSpecial?_slot (name := Str.ofString "__next__") ty PySem.F.slot_enumerate_next (wpAny_call_entry PySem.F.slot_enumerate_next ty PySem.F.entry_enumerate_next (enumT_step en ti tu vx ne fun h2 x1 x2 x3 x4 x5 => wpAny_pure (q h2 x1 x2 x3 x4 x5)) (PySem.F.args_enumerate_next_1 _))))
theorem enumT_end {e it l : Addr} {i : Nat} {vs : Array Value} {old : Value} {Q : Option Value → Shared → Prop} (calm : A.handled = none) (en : IsEnum s.heap e it i old) (ti : s.heap.IsTupleIter it l i) (tu : s.heap.IsTuple l vs) (vx : vs[i]? = none)
    (q : ∀ h2, Heap.ExtBut it s.heap h2 → Q none { s with heap := h2 }) : wpAny (model P w) A (pyNext (.ref e)) Q E s := by
  have ty : s.TypeIs (.ref e) "enumerate" := ⟨_, en, rfl⟩
  unfold pyNext
  refine wpAny_bind (wpAny_attempt (wpAny_callSpecial?_slot (name := Str.ofString "__next__") ty PySem.F.slot_enumerate_next (wpAny_call_entry PySem.F.slot_enumerate_next ty PySem.F.entry_enumerate_next ?_ (PySem.F.args_enumerate_next_1 _))))
  show wpAny _ _ (field (.ref e) 2 >>= _) _ _ s
  refine wpAny_bind (wpAny_field en rfl (x := .ref it) rfl ?_)
  refine wpAny_bind (nextOf_tuple_end calm ti tu vx fun h2 y k2 ⟨o, ho, hc⟩ => ?_)
  exact wpAny_bind (wpAny_isInstance (T := "StopIteration") (b := true) ⟨o, ho, hc⟩ isSubtype_stop (wpAny_pure (q _ k2)))
end
/-- enumerate(t) -/
theorem newEnumT (l : Addr) (vs : Array Value) : Meets (Builtin.«enumerate.__new__» ⟨[.type "enumerate", .ref l], []⟩) (fun _ R s => s.heap.IsTuple l vs ∧
    R (.ok (.ret (.ref (s.heap.push { cls := .type "tuple_iterator", data := .fields #[.ref l, .int 0 0] }).objs.size)))
      { s with heap := (s.heap.push { cls := .type "tuple_iterator", data := .fields #[.ref l, .int 0 0] }).push { cls := .type "enumerate", data := .fields #[.none, .bool false, .ref s.heap.objs.size, rawInt 0, .none, .none] } }) :=
  .of_wp fun P w A R s h => by
    obtain ⟨hp, ge, dr, tk, os⟩ := s
    obtain ⟨tu, h⟩ := h
    have sb := sub_enumerate
    have tu : Heap.IsTuple (Shared.heap ⟨hp, ge, dr, tk, os⟩) l vs := tu
    obtain ⟨o, ho, hc, n, hd⟩ := id tu
    have ho' : (Shared.heap ⟨hp, ge, dr, tk, os⟩).get? l = some o := ho
    wp_walk using AutoSeq1.wpAny_loadPart' ho'
    refine wpAny_stack_any fun st => wpAny_pure ?_; split
    · rename_i c _ _ _ _ _
      cases c == Value.type "enumerate" <;> (wp_walk using wpAny_pyIter_tuple tu) <;> exact ⟨_, rfl, h⟩
    · wp_walk using wpAny_pyIter_tuple tu
      exact ⟨_, rfl, h⟩
section
variable {s : Shared} {P : Program} {w : World} {A : Around} {E : Value → Shared → Prop}
theorem call_enumT {l : Addr} {vs : Array Value} {Q : Value → Shared → Prop} (tu : s.heap.IsTuple l vs)
    (q : ∀ h2, IsEnum h2 (s.heap.objs.size + 1) s.heap.objs.size 0 .none → h2.IsTupleIter s.heap.objs.size l 0 → h2.objs.size = s.heap.objs.size + 2 → (∀ b o, s.heap.get? b = some o → h2.get? b = some o) → Q (.ref (s.heap.objs.size + 1)) { s with heap := h2 }) :
    wpAny (model P w) A (call (.type "enumerate") [.ref l]) Q E s := by
  have z : (s.heap.push { cls := .type "tuple_iterator", data := .fields #[.ref l, .int 0 0] }).objs.size = s.heap.objs.size + 1 := Heap.size_push ..
  have en := Heap.get?_push_size (s.heap.push { cls := .type "tuple_iterator", data := .fields #[.ref l, .int 0 0] }) (o := { cls := .type "enumerate", data := .fields #[.none, .bool false, .ref s.heap.objs.size, rawInt 0, .none, .none] }) rfl
  rw [z] at en
  refine callType_new PySem.F.called_enumerate (by decide) (PySem.F.typeCall_enumerate_1 _) (PySem.F.newCall_enumerate_1 _) (fun ob => PySem.F.args_object_init_2 ob _) PySem.F.entry_enumerate_new (newEnumT l vs) ⟨tu, ?_⟩
  show _ ∧ _
  rw [z]
  exact ⟨⟨_, en, rfl⟩, q _ en ⟨_, Heap.get?_push_of_some _ (Heap.get?_push_size _ rfl), rfl, rfl⟩ (by rw [Heap.size_push, z]) fun b o x => Heap.get?_push_of_some _ (Heap.get?_push_of_some _ x)⟩
end
/-! ### the walks -/
/-- the tuple at a, its items with their places -/
def IteT (K : PySem.W.Frag) (a : Addr) : It :=
  ⟨fun i H => ∃ (xs : List V) (x : V), SqT K H a xs ∧ xs[i]? = some x, fun i H v H' => ∃ T x, v = .ref T ∧ H T = none ∧ H' = upd H T (.tup [.int (i : Nat), x]) ∧ ∀ xs, SqT K H a xs → xs[i]? = some x, fun i H => ∃ xs : List V, SqT K H a xs ∧ xs.length ≤ i⟩
theorem turn_enumT {P : Program} {w : World} {K : PySem.W.Frag} {elts : List Expr} {kk : Nat} {tpos : Pos} (a e it : Addr) : Turn P w K (.Tuple elts kk tpos) (IteT K a) [e, it] e (fun i h => (∃ old, IsEnum h e it ((i : Nat) : Int) old) ∧ h.IsTupleIter it a i ∧ e ≠ it) where
  mem := by simp
  obj := fun i h ⟨⟨old, en⟩, ⟨o, ho, hc, hd⟩, _⟩ b hb => by
    rcases (List.mem_cons.mp hb : _ ∨ _) with rfl | hb
    · exact ⟨_, en, fun v z => nomatch z⟩
    · rw [show b = _ from List.mem_singleton.mp hb]
      exact ⟨o, ho, fun v z => by rw [hd] at z; cases z⟩
  keep := fun i h h2 ⟨⟨old, en⟩, ⟨o, ho, r⟩, ne⟩ k => ⟨⟨old, k e (by simp) _ en⟩, ⟨o, k it (by simp) _ ho, r⟩, ne⟩
  item := by
    rintro X rfl rfl rfl calm i pins s σ H E I free ⟨⟨old, en⟩, ti, ne⟩ ⟨xs, x, hq, hx⟩
    obtain ⟨its, rv, p, _⟩ := I.tuple hq
    obtain ⟨u, hu, ru⟩ := rv.get hx; have le : e < s.heap.objs.size := Heap.lt_size en
    have li : it < s.heap.objs.size := have ⟨_, z, _⟩ := ti; Heap.lt_size z
    refine enumT_item en ti p (x := u) (by simpa using hu) ne fun h2 en2 ti2 T2 sz k2 => ⟨_, rfl, wpAny_letOwnedTupleGo_enum (s := { s with heap := h2, toks := s.toks + 1 }) en2 fun h3 en3 sb => ?_⟩
    have T3 : h3.get? s.heap.objs.size = some { cls := .type "tuple", data := .seq #[.int i s.toks, u] } := (sb.2 _ (Nat.ne_of_gt le)).trans T2
    have ok : ObjOk X.prog X.w (upd H s.heap.objs.size (.tup [.int (i : Nat), x])) h3 s.heap.objs.size (.tup [.int (i : Nat), x]) := ⟨by show 2 ≤ sizeLine; decide, [.int i s.toks, u], .cons ⟨_, rfl⟩ (.cons ru .nil), ⟨_, T3, rfl, _, rfl⟩⟩
    have I3 : Inv X pins σ (upd H s.heap.objs.size (.tup [.int (i : Nat), x])) { s with heap := h3, toks := s.toks + 1 } :=
      I.turnedNew (ch := [e, it]) (fun b o hb z => (sb.2 b (fun y => hb (by simp [y]))).trans (k2 b o (fun y => hb (by simp [y])) (fun y => hb (by simp [y])) z)) free (Nat.le_refl _) ok
    refine ⟨.ref s.heap.objs.size, _, I3, rfl, ⟨_, x, rfl, I.hok.fresh (Nat.le_refl _), rfl, fun ys hy => by rw [I.tuple_inj hy hq]; exact hx⟩, ⟨⟨u, ?_⟩, ?_, ne⟩, fun b hb => ?_⟩
    · rw [show ((i + 1 : Nat) : Int) = (i : Int) + 1 by omega]
      exact en3
    · obtain ⟨o, ho, r⟩ := ti2
      exact ⟨o, (sb.2 it (Ne.symm ne)).trans ho, r⟩
    · have lb : b < s.heap.objs.size := by
        rcases (List.mem_cons.mp hb : _ ∨ _) with z | z
        · rw [z]; exact le
        · rw [List.mem_singleton.mp z]; exact li
      rw [upd_ne (Nat.ne_of_lt lb)]
      exact (free b hb).1
  done := by
    rintro X rfl rfl rfl calm i pins s σ H E I free ⟨⟨old, en⟩, ti, ne⟩ ⟨xs, hq, hx⟩
    obtain ⟨its, rv, p, _⟩ := I.tuple hq
    obtain ⟨f0, f1, f2, f3, f4, f5⟩ := free it (by simp)
    have hl := rv.length
    exact enumT_end (I.ok.hd calm) en ti p (by simp; omega) fun h2 eb => ⟨rfl, I.turned (t' := s.toks) (fun b o hb z => eb b o hb z) f0 f1 f3 f4 f5⟩
  self := fun A i s Q E ⟨⟨_, en⟩, _⟩ h => wpAny_pyIter_enum en h
/-- enumerate(e), e a tuple -/
def iEnumT (K : PySem.W.Frag) (ta : TA) : TI := fun σ H R => ta σ H fun vs H1 => ∃ a xs, vs = [.ref a] ∧ SqT K H1 a xs ∧ R (IteT K a) H1
theorem pi_enumT {X : Cx} {e : Expr} {ta : TA} {p pos tpos : Pos} {elts : List Expr} {kk : Nat} (hg : Gl X "enumerate") (hm : X.mg "enumerate" = none) (ha : PA X [e] ta) (hs : starEach [e] X.env = [(false, eval e X.env)] := by rfl) :
    PI X (.Tuple elts kk tpos) (.Call (.Name "enumerate" p) [e] [] pos) (iEnumT X.K ta) := by
  refine ⟨fun pins s σ H R I h => Call_ (ld_blt I hg hm boot_enumerate (PyProof.Rows.callWith_type1 (thn (ha.run pos pins s σ H _ I h) fun us s1 ⟨vs, H1, I1, r1, a, xs, ex, hq, q⟩ => ?_) hs rfl))⟩
  subst ex
  rw [Vals.ref1 r1]
  obtain ⟨its, rv, p1, _⟩ := I1.tuple hq
  refine call_enumT p1 fun h2 en ti sz k2 => wpAny_pyIter_enum en ?_
  have I2 : Inv X pins σ H1 { s1 with heap := h2 } := I1.kept (t' := s1.toks) k2
  refine ⟨s1.heap.objs.size + 1, [s1.heap.objs.size + 1, s1.heap.objs.size], _, _, H1, rfl, I2, turn_enumT a (s1.heap.objs.size + 1) s1.heap.objs.size, ⟨⟨.none, en⟩, ti, Nat.succ_ne_self _⟩, fun b hb => ?_, q⟩
  have le : s1.heap.objs.size ≤ b := by
    rcases (List.mem_cons.mp hb : _ ∨ _) with z | z
    · rw [z]; exact Nat.le_succ _
    · rw [List.mem_singleton.mp z]; exact Nat.le_refl _
  exact I1.fpOk le (I1.hok.fresh le)
theorem walk_enumT {K : PySem.W.Frag} {a : Addr} {xs : List V} : Walk (IteT K a) xs.length (fun H => SqT K H a xs) (YPair (fun i => some (.int (i : Nat))) (fun i => xs[i]?)) where
  goes := fun i _ hi hq => ⟨xs, _, hq, List.getElem?_eq_getElem hi⟩
  stops := fun _ hq => ⟨xs, hq, Nat.le_refl _⟩
  yields := fun i _ _ _ hi hq ⟨T, x, e1, e2, e3, e4⟩ => ⟨T, _, x, e1, e2, e3, rfl, e4 xs hq⟩

/-! zip of a list and a tuple. -/
section
variable {s : Shared} {P : Program} {w : World} {A : Around} {E : Value → Shared → Prop}
/-- what a zip object over the iterators i1 (of the list l1), i2 (of the tuple l2) looks like, k items taken -/
structure ZipM (h : Heap) (z TI TO i1 i2 l1 l2 : Addr) (k : Nat) : Prop where
  ap : ZipApart z TI TO i1 i2 l1 l2
  zip : IsZip h z TI TO .none
  ti : IsPair h TI (.ref i1) (.ref i2)
  to_ : ∃ a b, IsPair h TO a b
  it1 : h.IsListIter i1 l1 k
  it2 : h.IsTupleIter i2 l2 k
theorem zipM_step {z TI TO i1 i2 l1 l2 : Addr} {k : Nat} {xs ys : Array Value} {x y : Value} {Q : Value → Shared → Prop} (Z : ZipM s.heap z TI TO i1 i2 l1 l2 k) (li : s.heap.IsList l1 xs) (tu : s.heap.IsTuple l2 ys) (hx : xs[k]? = some x) (hy : ys[k]? = some y)
    (q : ∀ h2, IsZip h2 z TI TO (rawInt s.heap.objs.size) → IsPair h2 TO x y → h2.IsListIter i1 l1 (k + 1) → h2.IsTupleIter i2 l2 (k + 1) → IsPair h2 s.heap.objs.size x y → h2.objs.size = s.heap.objs.size + 1 →
      (∀ c o, c ≠ z → c ≠ TO → c ≠ i1 → c ≠ i2 → s.heap.get? c = some o → h2.get? c = some o) → Q (.ref s.heap.objs.size) { s with heap := h2 }) :
    wpAny (model P w) A (Builtin.«zip.__next__» ⟨[.ref z], []⟩) (fun fin s2 => ∃ v, fin = .done (.ret v) ∧ Q v s2) E s := by
  obtain ⟨D, iz, iti, ⟨a0, b0, ito⟩, n1, n2⟩ := Z
  obtain ⟨hp, ge, dr, tk, os⟩ := s
  show wpAny _ _ (field (.ref z) 2 >>= _) _ _ (⟨hp, ge, dr, tk, os⟩ : Shared)
  refine wpAny_bind (wpAny_field iz rfl (x := .bool false) rfl ?_)
  show wpAny _ _ (field (.ref z) 3 >>= _) _ _ (⟨hp, ge, dr, tk, os⟩ : Shared)
  refine wpAny_bind (wpAny_field iz rfl (x := .ref TI) rfl ?_)
  refine wpAny_bind (wpAny_seqItems iti rfl ?_)
  show wpAny _ _ (Builtin.SmallTypes.ownedTupleIsFree (.ref z) >>= _) _ _ (⟨hp, ge, dr, tk, os⟩ : Shared)
  unfold Builtin.SmallTypes.ownedTupleIsFree; refine wpAny_bind (wpAny_bind (wpAny_field iz rfl (x := .none) rfl (wpAny_pure ?_)))
  simp only [if_true]
  refine wpAny_bind (wpAny_rule ?_); refine wpAny_bind (wpAny_field iz rfl (x := .ref TO) rfl ?_)
  refine wpAny_bind (wpAny_setField_rec iz (by simp) fun g1 iz1 k1 => ?_)
  replace k1 : Heap.SameBut z hp g1 := k1
  replace iz1 : IsZip g1 z TI TO .ellipsis := iz1
  refine wpAny_bind ?_
  simp only [List.zipIdx_cons, List.zipIdx_nil, List.forIn_cons, List.forIn_nil]; refine wpAny_bind (wpAny_bind (wpAny_onRaise ?_))
  show wpAny _ _ (Builtin.SmallTypes.nextOf (.ref i1) >>= _) _ _ (⟨g1, ge, dr, tk, os⟩ : Shared)
  have e1 := k1.extBut
  refine wpAny_bind (wpAny_nextOf_list_item (Heap.IsListIter.extBut n1 e1 D.i1z) (Heap.IsList.extBut li e1 D.l1z) hx fun g2 m1 k2 => wpAny_pure ?_)
  replace k2 : Heap.SameBut i1 g1 g2 := k2
  have e2 := k2.extBut
  have ito2 : IsPair g2 TO a0 b0 := e2 _ _ D.TOi1 (e1 _ _ D.TOz ito)
  refine wpAny_bind (wpAny_seqItems ito2 rfl ?_)
  refine wpAny_bind (wpAny_updateSeq_pair ito2 fun g3 ito3 k3 => ?_)
  replace k3 : Heap.SameBut TO g2 g3 := k3
  have e3 := k3.extBut
  replace ito3 : IsPair g3 TO x b0 := ito3
  refine wpAny_bind (wpAny_letGo (wpAny_pure ?_)); refine wpAny_bind (wpAny_bind (wpAny_onRaise ?_))
  show wpAny _ _ (Builtin.SmallTypes.nextOf (.ref i2) >>= _) _ _ (⟨g3, ge, dr, tk, os⟩ : Shared)
  have n23 : g3.IsTupleIter i2 l2 k := ((n2.extBut e1 D.i2z).extBut e2 D.i12.symm).extBut e3 D.TOi2.symm
  have tu3 : g3.IsTuple l2 ys := ((Heap.IsTuple.extBut tu e1 D.l2z).extBut e2 D.l2i1).extBut e3 D.l2TO
  refine wpAny_bind (nextOf_tuple_item n23 tu3 hy fun g4 m2 k4 => wpAny_pure ?_)
  replace k4 : Heap.SameBut i2 g3 g4 := k4
  have e4 := k4.extBut
  have ito4 : IsPair g4 TO x b0 := e4 _ _ D.TOi2 ito3
  refine wpAny_bind (wpAny_seqItems ito4 rfl ?_)
  refine wpAny_bind (wpAny_updateSeq_pair ito4 fun g5 ito5 k5 => ?_)
  replace k5 : Heap.SameBut TO g4 g5 := k5
  have e5 := k5.extBut
  replace ito5 : IsPair g5 TO x y := ito5
  refine wpAny_bind (wpAny_letGo (wpAny_pure (wpAny_pure ?_))); refine wpAny_bind (wpAny_seqItems ito5 rfl ?_)
  refine wpAny_bind (wpAny_newTuple ?_); have sz5 : g5.objs.size = hp.objs.size := k5.1.trans (k4.1.trans (k3.1.trans (k2.1.trans k1.1)))
  have iz5 : IsZip g5 z TI TO .ellipsis := e5 _ _ D.TOz.symm (e4 _ _ D.i2z.symm (e3 _ _ D.TOz.symm (e2 _ _ D.i1z.symm iz1)))
  have all5 : ∀ c o, c ≠ z → c ≠ TO → c ≠ i1 → c ≠ i2 → hp.get? c = some o → g5.get? c = some o := fun c o c1 c2 c3 c4 v => e5 _ _ c2 (e4 _ _ c4 (e3 _ _ c2 (e2 _ _ c3 (e1 _ _ c1 v))))
  have m15 : g5.IsListIter i1 l1 (k + 1) := ((Heap.IsListIter.extBut m1 e3 D.TOi1.symm).extBut e4 D.i12).extBut e5 D.TOi1.symm
  have m25 : g5.IsTupleIter i2 l2 (k + 1) := Heap.IsTupleIter.extBut m2 e5 D.TOi2.symm
  have ltz : z < g5.objs.size := Heap.lt_size iz5
  have ltTO : TO < g5.objs.size := Heap.lt_size ito5
  show wpAny _ _ (Builtin.SmallTypes.ownedTupleHandOut (.ref z) (.ref g5.objs.size) >>= _) _ _ _
  unfold Builtin.SmallTypes.ownedTupleHandOut; have iz6 : IsZip (g5.push { cls := .type "tuple", data := .seq #[x, y] }) z TI TO .ellipsis := Heap.get?_push_of_some _ iz5
  refine wpAny_bind (wpAny_bind (wpAny_setField_rec iz6 (by simp) fun g7 iz7 k7 => ?_))
  replace iz7 : IsZip g7 z TI TO (rawInt g5.objs.size) := iz7
  refine wpAny_setField_rec iz7 (by simp) fun g8 iz8 k8 => ?_
  replace iz8 : IsZip g8 z TI TO (rawInt g5.objs.size) := iz8
  have up : ∀ c o, c ≠ z → g5.get? c = some o → g8.get? c = some o := fun c o c1 v => k8.extBut _ _ c1 (k7.extBut _ _ c1 (Heap.get?_push_of_some _ v))
  have T8 : IsPair g8 g5.objs.size x y := k8.extBut _ _ (Nat.ne_of_gt ltz) (k7.extBut _ _ (Nat.ne_of_gt ltz) (Heap.get?_push_size _ rfl))
  have sz8 : g8.objs.size = g5.objs.size + 1 := by rw [k8.1, k7.1, Heap.size_push]
  rw [sz5] at iz8 T8 sz8
  refine wpAny_pure ⟨_, rfl, ?_⟩; show Q (.ref g5.objs.size) _
  rw [sz5]
  exact q g8 iz8 (up _ _ D.TOz ito5) (have ⟨o, ho, r⟩ := m15; ⟨o, up _ _ D.i1z ho, r⟩) (have ⟨o, ho, r⟩ := m25; ⟨o, up _ _ D.i2z ho, r⟩) T8 sz8 fun c o c1 c2 c3 c4 v => up c o c1 (all5 c o c1 c2 c3 c4 v)
theorem zipM_over {z TI TO i1 i2 l1 l2 : Addr} {k : Nat} {xs ys : Array Value} {Q : PySem.Fin → Shared → Prop} (calm : A.handled = none) (Z : ZipM s.heap z TI TO i1 i2 l1 l2 k) (li : s.heap.IsList l1 xs) (tu : s.heap.IsTuple l2 ys) (over : xs[k]? = none ∨ ys[k]? = none)
    (q : ∀ h2 e, (∀ c o, c ≠ z → c ≠ TO → c ≠ i1 → c ≠ i2 → s.heap.get? c = some o → h2.get? c = some o) → (∃ o, h2.get? e = some o ∧ o.cls = .type "StopIteration") → E (.ref e) { s with heap := h2 }) :
    wpAny (model P w) A (Builtin.«zip.__next__» ⟨[.ref z], []⟩) Q E s := by
  obtain ⟨D, iz, iti, ⟨a0, b0, ito⟩, n1, n2⟩ := Z
  obtain ⟨hp, ge, dr, tk, os⟩ := s
  show wpAny _ _ (field (.ref z) 2 >>= _) _ _ (⟨hp, ge, dr, tk, os⟩ : Shared)
  refine wpAny_bind (wpAny_field iz rfl (x := .bool false) rfl ?_)
  show wpAny _ _ (field (.ref z) 3 >>= _) _ _ (⟨hp, ge, dr, tk, os⟩ : Shared)
  refine wpAny_bind (wpAny_field iz rfl (x := .ref TI) rfl ?_)
  refine wpAny_bind (wpAny_seqItems iti rfl ?_)
  show wpAny _ _ (Builtin.SmallTypes.ownedTupleIsFree (.ref z) >>= _) _ _ (⟨hp, ge, dr, tk, os⟩ : Shared)
  unfold Builtin.SmallTypes.ownedTupleIsFree; refine wpAny_bind (wpAny_bind (wpAny_field iz rfl (x := .none) rfl (wpAny_pure ?_)))
  simp only [if_true]
  refine wpAny_bind (wpAny_rule ?_); refine wpAny_bind (wpAny_field iz rfl (x := .ref TO) rfl ?_)
  refine wpAny_bind (wpAny_setField_rec iz (by simp) fun g1 iz1 k1 => ?_)
  replace k1 : Heap.SameBut z hp g1 := k1
  have e1 := k1.extBut
  replace iz1 : IsZip g1 z TI TO .ellipsis := iz1
  refine wpAny_bind ?_
  simp only [List.zipIdx_cons, List.zipIdx_nil, List.forIn_cons, List.forIn_nil]; refine wpAny_bind (wpAny_bind (wpAny_onRaise ?_))
  show wpAny _ _ (Builtin.SmallTypes.nextOf (.ref i1) >>= _) _ _ (⟨g1, ge, dr, tk, os⟩ : Shared)
  have n11 : g1.IsListIter i1 l1 k := Heap.IsListIter.extBut n1 e1 D.i1z
  have li1 : g1.IsList l1 xs := Heap.IsList.extBut li e1 D.l1z
  cases hx : xs[k]? with
  | none =>
    refine wpAny_bind (wpAny_nextOf_list_end calm n11 li1 hx fun g2 e k2 ⟨oe, he, hc⟩ => ?_)
    have iz2 : IsZip g2 z TI TO .ellipsis := k2 _ _ D.i1z.symm iz1
    have ez : e ≠ z := fun v => by
      rw [v, iz2] at he
      cases he
      simp at hc
    exact wpAny_setField_rec iz2 (by simp) fun g3 _ k3 => q g3 e (fun c o c1 _ c3 _ v => k3.extBut _ _ c1 (k2 _ _ c3 (e1 _ _ c1 v))) ⟨oe, k3.extBut _ _ ez he, hc⟩
  | some x =>
    have hy : ys[k]? = none := over.elim (fun v => by rw [hx] at v; cases v) id
    refine wpAny_bind (wpAny_nextOf_list_item n11 li1 hx fun g2 m1 k2 => wpAny_pure ?_)
    replace k2 : Heap.SameBut i1 g1 g2 := k2
    have e2 := k2.extBut
    have ito2 : IsPair g2 TO a0 b0 := e2 _ _ D.TOi1 (e1 _ _ D.TOz ito)
    refine wpAny_bind (wpAny_seqItems ito2 rfl ?_)
    refine wpAny_bind (wpAny_updateSeq_pair ito2 fun g3 ito3 k3 => ?_)
    replace k3 : Heap.SameBut TO g2 g3 := k3
    have e3 := k3.extBut
    refine wpAny_bind (wpAny_letGo (wpAny_pure ?_)); refine wpAny_bind (wpAny_bind (wpAny_onRaise ?_))
    show wpAny _ _ (Builtin.SmallTypes.nextOf (.ref i2) >>= _) _ _ (⟨g3, ge, dr, tk, os⟩ : Shared)
    have n23 : g3.IsTupleIter i2 l2 k := ((n2.extBut e1 D.i2z).extBut e2 D.i12.symm).extBut e3 D.TOi2.symm
    have tu3 : g3.IsTuple l2 ys := ((Heap.IsTuple.extBut tu e1 D.l2z).extBut e2 D.l2i1).extBut e3 D.l2TO
    refine wpAny_bind (nextOf_tuple_end calm n23 tu3 hy fun g4 e k4 ⟨oe, he, hc⟩ => ?_)
    have iz4 : IsZip g4 z TI TO .ellipsis := k4 _ _ D.i2z.symm (e3 _ _ D.TOz.symm (e2 _ _ D.i1z.symm iz1))
    have ez : e ≠ z := fun v => by
      rw [v, iz4] at he
      cases he
      simp at hc
    exact wpAny_setField_rec iz4 (by simp) fun g5 _ k5 => q g5 e (fun c o c1 c2 c3 c4 v => k5.extBut _ _ c1 (k4 _ _ c4 (e3 _ _ c2 (e2 _ _ c3 (e1 _ _ c1 v))))) ⟨oe, k5.extBut _ _ ez he, hc⟩
theorem zipM_item {z TI TO i1 i2 l1 l2 : Addr} {k : Nat} {xs ys : Array Value} {x y : Value} {Q : Option Value → Shared → Prop} (Z : ZipM s.heap z TI TO i1 i2 l1 l2 k) (li : s.heap.IsList l1 xs) (tu : s.heap.IsTuple l2 ys) (hx : xs[k]? = some x) (hy : ys[k]? = some y)
    (q : ∀ h2, IsZip h2 z TI TO (rawInt s.heap.objs.size) → IsPair h2 TO x y → h2.IsListIter i1 l1 (k + 1) → h2.IsTupleIter i2 l2 (k + 1) → IsPair h2 s.heap.objs.size x y → h2.objs.size = s.heap.objs.size + 1 →
      (∀ c o, c ≠ z → c ≠ TO → c ≠ i1 → c ≠ i2 → s.heap.get? c = some o → h2.get? c = some o) → Q (some (.ref s.heap.objs.size)) { s with heap := h2 }) : wpAny (model P w) A (pyNext (.ref z)) Q E s := by
  have ty : s.TypeIs (.ref z) "zip" := ⟨_, Z.zip, rfl⟩
  unfold pyNext
  refine wpAny_bind (wpAny_attempt (wpAny_callSpecial?_slot (name := Str.ofString "__next__") ty PySem.F.slot_zip_next (wpAny_call_entry PySem.F.slot_zip_next ty PySem.F.entry_zip_next ?_ (PySem.F.args_zip_next_1 _))))
  exact zipM_step Z li tu hx hy fun h2 x1 x2 x3 x4 x5 x6 x7 => wpAny_pure (q h2 x1 x2 x3 x4 x5 x6 x7)
theorem zipM_end {z TI TO i1 i2 l1 l2 : Addr} {k : Nat} {xs ys : Array Value} {Q : Option Value → Shared → Prop} (calm : A.handled = none) (Z : ZipM s.heap z TI TO i1 i2 l1 l2 k) (li : s.heap.IsList l1 xs) (tu : s.heap.IsTuple l2 ys) (over : xs[k]? = none ∨ ys[k]? = none)
    (q : ∀ h2, (∀ c o, c ≠ z → c ≠ TO → c ≠ i1 → c ≠ i2 → s.heap.get? c = some o → h2.get? c = some o) → Q none { s with heap := h2 }) : wpAny (model P w) A (pyNext (.ref z)) Q E s := by
  have ty : s.TypeIs (.ref z) "zip" := ⟨_, Z.zip, rfl⟩
  unfold pyNext
  refine wpAny_bind (wpAny_attempt (wpAny_callSpecial?_slot (name := Str.ofString "__next__") ty PySem.F.slot_zip_next (wpAny_call_entry PySem.F.slot_zip_next ty PySem.F.entry_zip_next ?_ (PySem.F.args_zip_next_1 _))))
  refine zipM_over calm Z li tu over fun h2 e k2 ⟨o, ho, hc⟩ => ?_
  exact wpAny_bind (wpAny_isInstance (T := "StopIteration") (b := true) ⟨o, ho, hc⟩ isSubtype_stop (wpAny_pure (q _ k2)))
end
abbrev zm1 (h : Heap) (l1 : Addr) : Heap := h.push { cls := .type "list_iterator", data := .fields #[.ref l1, .int 0 0] }
abbrev zm2 (h : Heap) (l1 l2 : Addr) : Heap := (zm1 h l1).push { cls := .type "tuple_iterator", data := .fields #[.ref l2, .int 0 0] }
abbrev zm3 (h : Heap) (l1 l2 : Addr) : Heap := (zm2 h l1 l2).push { cls := .type "tuple", data := .seq #[.ref h.objs.size, .ref (zm1 h l1).objs.size] }
abbrev zm4 (h : Heap) (l1 l2 : Addr) : Heap := (zm3 h l1 l2).push { cls := .type "tuple", data := .seq #[.none, .none] }
abbrev zm5 (h : Heap) (l1 l2 : Addr) : Heap := (zm4 h l1 l2).push { cls := .type "zip", data := .fields #[.none, .bool false, .bool false, .ref (zm2 h l1 l2).objs.size, .ref (zm3 h l1 l2).objs.size] }
theorem newZipM (l1 l2 : Addr) (xs ys : Array Value) : Meets (Builtin.«zip.__new__» ⟨[.type "zip", .ref l1, .ref l2], []⟩) (fun _ R s => s.heap.IsList l1 xs ∧ s.heap.IsTuple l2 ys ∧
    R (.ok (.ret (.ref (zm4 s.heap l1 l2).objs.size))) { s with heap := zm5 s.heap l1 l2 }) :=
  .of_wp fun P w A R s ⟨li, tu, h⟩ => by
    obtain ⟨hp, ge, dr, tk, os⟩ := s
    have sb := sub_zip
    have L1 : Heap.IsList (Shared.heap ⟨hp, ge, dr, tk, os⟩) l1 xs := li
    have L2 : Heap.IsTuple (Shared.heap ⟨zm1 hp l1, ge, dr, tk, os⟩) l2 ys := Heap.IsTuple.push tu _
    wp_walk using wpAny_pyIter_list L1, wpAny_pyIter_tuple L2
    exact ⟨_, rfl, h⟩
section
variable {s : Shared} {P : Program} {w : World} {A : Around} {E : Value → Shared → Prop}
theorem call_zipM {l1 l2 : Addr} {xs ys : Array Value} {Q : Value → Shared → Prop} (li : s.heap.IsList l1 xs) (tu : s.heap.IsTuple l2 ys) (low1 : l1 < s.heap.objs.size) (low2 : l2 < s.heap.objs.size)
    (q : ∀ h2, ZipM h2 (s.heap.objs.size + 4) (s.heap.objs.size + 2) (s.heap.objs.size + 3) s.heap.objs.size (s.heap.objs.size + 1) l1 l2 0 → (∀ c o, s.heap.get? c = some o → h2.get? c = some o) → Q (.ref (s.heap.objs.size + 4)) { s with heap := h2 }) :
    wpAny (model P w) A (call (.type "zip") [.ref l1, .ref l2]) Q E s := by
  refine callType_new PySem.F.called_zip (by decide) (PySem.F.typeCall_zip_2 _ _) (PySem.F.newCall_zip_2 _ _) (fun ob => PySem.F.args_object_init_3 ob _ _) PySem.F.entry_zip_new (newZipM l1 l2 xs ys) ⟨li, tu, ?_⟩
  have n1 : (zm1 s.heap l1).objs.size = s.heap.objs.size + 1 := Heap.size_push ..
  have n2 : (zm2 s.heap l1 l2).objs.size = s.heap.objs.size + 2 := by rw [Heap.size_push, n1]
  have n3 : (zm3 s.heap l1 l2).objs.size = s.heap.objs.size + 3 := by rw [Heap.size_push, n2]
  have n4 : (zm4 s.heap l1 l2).objs.size = s.heap.objs.size + 4 := by rw [Heap.size_push, n3]
  have stay : ∀ (h : Heap) (o : Obj) c u, h.get? c = some u → (h.push o).get? c = some u := fun h o c u z => Heap.get?_push_of_some _ z
  have p5 : (zm5 s.heap l1 l2).get? (zm4 s.heap l1 l2).objs.size = some _ := Heap.get?_push_size _ rfl
  have p4 : (zm5 s.heap l1 l2).get? (zm3 s.heap l1 l2).objs.size = some _ := stay _ _ _ _ (Heap.get?_push_size _ rfl)
  have p3 : (zm5 s.heap l1 l2).get? (zm2 s.heap l1 l2).objs.size = some _ := stay _ _ _ _ (stay _ _ _ _ (Heap.get?_push_size _ rfl))
  have p2 : (zm5 s.heap l1 l2).get? (zm1 s.heap l1).objs.size = some _ := stay _ _ _ _ (stay _ _ _ _ (stay _ _ _ _ (Heap.get?_push_size _ rfl)))
  have p1 : (zm5 s.heap l1 l2).get? s.heap.objs.size = some _ := stay _ _ _ _ (stay _ _ _ _ (stay _ _ _ _ (stay _ _ _ _ (Heap.get?_push_size _ rfl))))
  rw [n2, n3, n4] at p5
  rw [n1, n2] at p3
  rw [n3] at p4
  rw [n1] at p2
  show _ ∧ _
  rw [n4]
  refine ⟨⟨_, p5, rfl⟩, q _ ⟨PySem.W.ktu_apart s.heap.objs.size l1 l2 low1 low2, p5, p3, ⟨_, _, p4⟩, ⟨_, p1, rfl, rfl⟩, ⟨_, p2, rfl, rfl⟩⟩ fun c o z => ?_⟩
  exact stay _ _ _ _ (stay _ _ _ _ (stay _ _ _ _ (stay _ _ _ _ (stay _ _ _ _ z))))
end
/-- the list at a beside the tuple at b -/
def ItzM (K : PySem.W.Frag) (a b : Addr) : It :=
  ⟨fun i H => ∃ (xs ys : List V) (x y : V), SqL K H a xs ∧ SqT K H b ys ∧ xs[i]? = some x ∧ ys[i]? = some y,
    fun i H v H' => ∃ T x y, v = .ref T ∧ H T = none ∧ H' = upd H T (.tup [x, y]) ∧ (∀ xs, SqL K H a xs → xs[i]? = some x) ∧ ∀ ys, SqT K H b ys → ys[i]? = some y,
    fun i H => ∃ xs ys : List V, SqL K H a xs ∧ SqT K H b ys ∧ (xs.length ≤ i ∨ ys.length ≤ i)⟩
theorem in5 {c a1 a2 a3 a4 a5 : Addr} (h : c ∈ [a1, a2, a3, a4, a5]) : c = a1 ∨ c = a2 ∨ c = a3 ∨ c = a4 ∨ c = a5 := by simpa using h
theorem turn_zipM {P : Program} {w : World} {K : PySem.W.Frag} {elts : List Expr} {kk : Nat} {tpos : Pos} {a b z TI TO i1 i2 : Addr} : Turn P w K (.Tuple elts kk tpos) (ItzM K a b) [z, TI, TO, i1, i2] z (fun i h => ZipM h z TI TO i1 i2 a b i) where
  mem := by simp
  obj := fun i h Z c hc => by
    obtain ⟨x, y, ito⟩ := Z.to_
    obtain ⟨o1, v1, _, d1⟩ := Z.it1
    obtain ⟨o2, v2, _, d2⟩ := Z.it2
    rcases in5 hc with rfl | rfl | rfl | rfl | rfl
    · exact ⟨_, Z.zip, fun v n => nomatch n⟩
    · exact ⟨_, Z.ti, fun v n => nomatch n⟩
    · exact ⟨_, ito, fun v n => nomatch n⟩
    · exact ⟨o1, v1, fun v n => by rw [d1] at n; cases n⟩
    · exact ⟨o2, v2, fun v n => by rw [d2] at n; cases n⟩
  keep := fun i h h2 Z k => ⟨Z.ap, k z (by simp) _ Z.zip, k TI (by simp) _ Z.ti, have ⟨x, y, v⟩ := Z.to_; ⟨x, y, k TO (by simp) _ v⟩, have ⟨o, ho, r⟩ := Z.it1; ⟨o, k i1 (by simp) _ ho, r⟩, have ⟨o, ho, r⟩ := Z.it2; ⟨o, k i2 (by simp) _ ho, r⟩⟩
  item := by
    rintro X rfl rfl rfl calm i pins s σ H E I free Z ⟨xs, ys, x, y, qx, qy, hx, hy⟩
    obtain ⟨its, rv, p, _⟩ := I.list qx
    obtain ⟨its2, rv2, p2, _⟩ := I.tuple qy
    obtain ⟨u, hu, ru⟩ := rv.get hx; obtain ⟨u2, hu2, ru2⟩ := rv2.get hy
    have D := Z.ap
    have lz : z < s.heap.objs.size := Heap.lt_size Z.zip
    refine zipM_item Z p.isList p2 (x := u) (y := u2) (by simpa using hu) (by simpa using hu2) fun h2 z2 TO2 n1 n2 T2 sz k2 => ⟨_, rfl, wpAny_letOwnedTupleGo_zip (s := { s with heap := h2 }) z2 fun h3 z3 sb => ?_⟩
    have T3 : h3.get? s.heap.objs.size = some { cls := .type "tuple", data := .seq #[u, u2] } := (sb.2 _ (Nat.ne_of_gt lz)).trans T2
    have ok : ObjOk X.prog X.w (upd H s.heap.objs.size (.tup [x, y])) h3 s.heap.objs.size (.tup [x, y]) := ⟨by show 2 ≤ sizeLine; decide, [u, u2], .cons ru (.cons ru2 .nil), ⟨_, T3, rfl, _, rfl⟩⟩
    have I3 : Inv X pins σ (upd H s.heap.objs.size (.tup [x, y])) { s with heap := h3 } :=
      I.turnedNew (t' := s.toks) (ch := [z, TI, TO, i1, i2]) (fun c o hb v => (sb.2 c (fun n => hb (by simp [n]))).trans (k2 c o (fun n => hb (by simp [n])) (fun n => hb (by simp [n])) (fun n => hb (by simp [n])) (fun n => hb (by simp [n])) v)) free (Nat.le_refl _) ok
    refine ⟨.ref s.heap.objs.size, _, I3, rfl, ⟨_, x, y, rfl, I.hok.fresh (Nat.le_refl _), rfl, fun l hl => by rw [I.list_inj hl qx]; exact hx, fun l hl => by rw [I.tuple_inj hl qy]; exact hy⟩, ⟨D, z3, ?_, ⟨u, u2, (sb.2 _ D.TOz).trans TO2⟩, ?_, ?_⟩, fun c hc => ?_⟩
    · exact (sb.2 _ D.TIz).trans (k2 _ _ D.TIz D.TITO D.TIi1 D.TIi2 Z.ti)
    · exact have ⟨o, ho, r⟩ := n1; ⟨o, (sb.2 _ D.i1z).trans ho, r⟩
    · exact have ⟨o, ho, r⟩ := n2; ⟨o, (sb.2 _ D.i2z).trans ho, r⟩
    · have lc : c < s.heap.objs.size := by
        obtain ⟨_, _, v⟩ := Z.to_
        obtain ⟨_, v1, _⟩ := Z.it1
        obtain ⟨_, v2, _⟩ := Z.it2
        rcases in5 hc with rfl | rfl | rfl | rfl | rfl
        · exact lz
        · exact Heap.lt_size Z.ti
        · exact Heap.lt_size v
        · exact Heap.lt_size v1
        · exact Heap.lt_size v2
      rw [upd_ne (Nat.ne_of_lt lc)]
      exact (free c hc).1
  done := by
    rintro X rfl rfl rfl calm i pins s σ H E I free Z ⟨xs, ys, qx, qy, over⟩
    obtain ⟨its, rv, p, _⟩ := I.list qx
    obtain ⟨its2, rv2, p2, _⟩ := I.tuple qy
    have n1 := rv.length
    have n2 := rv2.length
    refine zipM_end (I.ok.hd calm) Z p.isList p2 (over.imp (fun v => by simp; omega) (fun v => by simp; omega)) fun h2 k2 => ⟨rfl, I.turnedL (t' := s.toks) (ch := [z, TI, TO, i1, i2]) (fun c o hb v => ?_) free⟩
    exact k2 c o (fun n => hb (by simp [n])) (fun n => hb (by simp [n])) (fun n => hb (by simp [n])) (fun n => hb (by simp [n])) v
  self := fun A i s Q E Z h => wpAny_pyIter_zip Z.zip h
/-- zip(e, e2), a list and a tuple -/
def iZipM (K : PySem.W.Frag) (ta : TA) : TI := fun σ H R => ta σ H fun vs H1 => ∃ a b xs ys, vs = [.ref a, .ref b] ∧ SqL K H1 a xs ∧ SqT K H1 b ys ∧ R (ItzM K a b) H1
theorem pi_zipM {X : Cx} {e e2 : Expr} {ta : TA} {p pos tpos : Pos} {elts : List Expr} {kk : Nat} (hg : Gl X "zip") (hm : X.mg "zip" = none) (ha : PA X [e, e2] ta)
    (hs : starEach [e, e2] X.env = (false, eval e X.env) :: starEach [e2] X.env := by rfl) (hp : (backTo pos (starEach [e2] X.env)).any (·.1) = false := by rfl) : PI X (.Tuple elts kk tpos) (.Call (.Name "zip" p) [e, e2] [] pos) (iZipM X.K ta) := by
  refine ⟨fun pins s σ H R I h => Call_ (ld_blt I hg hm PyProof.Rows.boot_zip (PyProof.Rows.callWith_type1 (thn (ha.run pos pins s σ H _ I h) fun us s1 ⟨vs, H1, I1, r1, a, b, xs, ys, ex, qx, qy, q⟩ => ?_) hs hp))⟩
  subst ex
  obtain ⟨u1, u2, rfl, r1, r2⟩ := vals2 r1
  cases (show u1 = Value.ref a from r1); cases (show u2 = Value.ref b from r2)
  obtain ⟨its, rv, p1, _⟩ := I1.list qx
  obtain ⟨its2, rv2, p2, _⟩ := I1.tuple qy
  have low2 : b < s1.heap.objs.size := have ⟨_, v, _⟩ := id p2; Heap.lt_size v
  refine call_zipM p1.isList p2 p1.lt low2 fun h2 Z k2 => wpAny_pyIter_zip Z.zip ?_
  have I2 : Inv X pins σ H1 { s1 with heap := h2 } := I1.kept (t' := s1.toks) k2
  refine ⟨s1.heap.objs.size + 4, [s1.heap.objs.size + 4, s1.heap.objs.size + 2, s1.heap.objs.size + 3, s1.heap.objs.size, s1.heap.objs.size + 1], _, _, H1, rfl, I2, turn_zipM, Z, fun c hc => ?_, q⟩
  have le : s1.heap.objs.size ≤ c := by
    rcases in5 hc with rfl | rfl | rfl | rfl | rfl
    all_goals first | exact Nat.le_refl _ | exact Nat.le_add_right _ _
  exact I1.fpOk le (I1.hok.fresh le)
theorem walk_zipM {K : PySem.W.Frag} {a b : Addr} {xs ys : List V} {n : Nat} (hn : n = min xs.length ys.length) : Walk (ItzM K a b) n (fun H => SqL K H a xs ∧ SqT K H b ys) (YPair (fun i => xs[i]?) (fun i => ys[i]?)) where
  goes := fun i _ hi hq => ⟨xs, ys, _, _, hq.1, hq.2, List.getElem?_eq_getElem (show i < xs.length by omega), List.getElem?_eq_getElem (show i < ys.length by omega)⟩
  stops := fun _ hq => ⟨xs, ys, hq.1, hq.2, by omega⟩
  yields := fun _ _ _ _ _ hq ⟨T, c, d, e1, e2, e3, e4, e5⟩ => ⟨T, c, d, e1, e2, e3, e4 xs hq.1, e5 ys hq.2⟩

/-! len(set(texts)); list(text). -/
/-- each text once -/
def onceS : List Str → List Str → List Str
  | acc, [] => acc
  | acc, x :: xs => onceS (if x ∈ acc then acc else acc ++ [x]) xs
def dcount (xs : List Str) : Nat := (onceS [] xs).length
theorem onceS_snoc (x : Str) : ∀ (xs acc : List Str), onceS acc (xs ++ [x]) = (if x ∈ onceS acc xs then onceS acc xs else onceS acc xs ++ [x])
  | [], _ => rfl
  | y :: ys, acc => onceS_snoc x ys _
theorem mem_onceS (x : Str) : ∀ (xs acc : List Str), x ∈ onceS acc xs ↔ x ∈ acc ∨ x ∈ xs
  | [], acc => by simp [onceS]
  | y :: ys, acc => by
    show x ∈ onceS (if y ∈ acc then acc else acc ++ [y]) ys ↔ _
    rw [mem_onceS x ys]
    by_cases h : y ∈ acc
    · rw [if_pos h, List.mem_cons]
      exact ⟨fun z => z.imp_right .inr, fun z => z.elim .inl fun z => z.elim (fun e => .inl (e ▸ h)) .inr⟩
    · rw [if_neg h, List.mem_append, List.mem_singleton, List.mem_cons, or_assoc]
theorem dcount_snoc (xs : List Str) (x : Str) : dcount (xs ++ [x]) = if x ∈ xs then dcount xs else dcount xs + 1 := by
  unfold dcount
  rw [onceS_snoc]
  have m : x ∈ onceS [] xs ↔ x ∈ xs := (mem_onceS x xs []).trans ⟨fun z => z.elim (fun y => nomatch y) id, .inr⟩
  by_cases h : x ∈ xs
  · rw [if_pos h, if_pos (m.mpr h)]
  · rw [if_neg h, if_neg fun z => h (m.mp z), List.length_append]
    rfl
theorem onceS_le : ∀ xs acc : List Str, (onceS acc xs).length ≤ acc.length + xs.length
  | [], _ => Nat.le_refl _
  | y :: ys, acc => by
    refine Nat.le_trans (onceS_le ys _) ?_
    rw [List.length_cons]
    split
    · omega
    · rw [List.length_append]; rw [List.length_singleton]; omega
theorem dcount_le (xs : List Str) : dcount xs ≤ xs.length := Nat.le_trans (onceS_le xs []) (by simp)
theorem onceS_nodup : ∀ xs acc : List Str, (acc ++ xs).Nodup → onceS acc xs = acc ++ xs
  | [], acc, _ => (List.append_nil acc).symm
  | y :: ys, acc, h => by
    have h2 : y ∉ acc := fun z => (List.nodup_append.mp h).2.2 y z y (List.mem_cons_self ..) rfl
    show onceS (if y ∈ acc then acc else acc ++ [y]) ys = _
    rw [if_neg h2, onceS_nodup ys (acc ++ [y]) (by rw [List.append_assoc]; exact h), List.append_assoc]
    rfl
theorem dcount_nodup {xs : List Str} (h : xs.Nodup) : dcount xs = xs.length := by
  unfold dcount
  rw [onceS_nodup xs [] h]
  rfl
section
variable {P : Program} {w : World} {A : Around} {R : Result → Shared → Prop} {I : Addr} {fp wr : List Addr} {G : Array GenState → Array GenState → Prop} {n : Nat} {Pv : Nat → Value → Prop} {St : Nat → Shared → Prop}
/-- the set at S has the texts xs -/
abbrev HasS (P : Program) (w : World) (h : Heap) (S : Addr) (xs : List Str) : Prop := h.SetOf (PySem.strKind P w) S (fun y => decide (y ∈ xs)) (dcount xs)
theorem HasS.at {h h2 : Heap} {S : Addr} {xs : List Str} (x : HasS P w h S xs) (k : ∀ o, h.get? S = some o → h2.get? S = some o) : HasS P w h2 S xs := have ⟨o, es, ep, t, ho, r⟩ := x; ⟨o, es, ep, t, k o ho, r⟩
theorem fill_strs (W : WalksS P w A.in1 I fp wr G n Pv St) (S : Addr) (out : S ∉ fp) (xs : List Str) (hn : xs.length = n) (few : n + 1 < scanBound) (val : ∀ i v, i < n → Pv i v → ∃ t x, xs[i]? = some x ∧ v = .str x t) :
    ∀ (k i : Nat) (s : Shared), n - i = k → i ≤ n → St i s → HasS P w s.heap S (xs.take i) → (∀ s2, Moved (S :: wr) G s s2 → HasS P w s2.heap S xs → R (.ok (.ret .none)) s2) → codeAny (model P w) A (.builtin "set.update.loop" ⟨[.ref S, .ref I], []⟩) R s := by
  have out2 : S ∉ wr := fun h => out (W.sub _ h)
  have more : ∀ b ∈ wr, b ∈ S :: wr := fun b hb => List.mem_cons_of_mem _ hb
  intro k
  induction k with
  | zero =>
    intro i s hk hi st has q
    obtain rfl : i = n := by omega
    apply codeAny_builtin PyProof.Rows.F.entry_set_update_loop
    rw [Around.under_plainId PyProof.Rows.F.plain_set_update_loop _]; refine wpAny_bind (W.done s _ _ st fun s2 hm => wpAny_pure (q s2 (hm.mono more) ?_))
    rw [← hn, List.take_length] at has
    exact has.at fun o ho => hm.heap S o out2 ho
  | succ k ih =>
    intro i s hk hi st has q
    have lt : i < n := by omega
    apply codeAny_builtin PyProof.Rows.F.entry_set_update_loop
    rw [Around.under_plainId PyProof.Rows.F.plain_set_update_loop _]; refine wpAny_bind (W.item i s _ _ lt st fun v s2 hv st2 hm => ?_)
    obtain ⟨t, x, hx, rfl⟩ := val i v lt hv
    have has2 : HasS P w s2.heap S (xs.take i) := has.at fun o ho => hm.heap S o out2 ho
    show wpAny _ A.in1 (holding [Value.str x t] (setAdd S (.str x t)) >>= _) _ _ s2
    unfold setAdd
    refine wpAny_bind (wpAny_holding (wpAny_holding (wpAny_bind ((PySem.strKind P w).pyHash (k := x) (strKind_is _ _ _ _) ?_))))
    have room : dcount (xs.take i) + 1 < scanBound := by
      have := dcount_le (xs.take i)
      rw [List.length_take] at this
      omega
    refine wpAny_setAddHashed_of (knd := PySem.strKind P w) (s := { s2 with toks := s2.toks + 1 }) (strKind_is _ _ _ _) rfl has2 room fun h3 sb has3 => ?_
    have tk : xs.take (i + 1) = xs.take i ++ [x] := by rw [List.take_add_one, hx]; rfl
    have has4 : HasS P w h3 S (xs.take (i + 1)) := by
      refine SetOf_congr has3 (fun y => ?_) ?_
      · rw [tk, ← Bool.decide_or]
        exact decide_eq_decide.mpr (by rw [List.mem_append, List.mem_singleton])
      · rw [tk, dcount_snoc]
        by_cases h : x ∈ xs.take i
        · rw [if_pos h, if_pos (decide_eq_true h)]
        · rw [if_neg h, if_neg (by simp [h])]
    have ne : ∀ b, b ∈ fp → b ≠ S := fun b hb h => out (h ▸ hb)
    refine wpAny_pure ⟨plainId_quiet PyProof.Rows.F.plain_set_update_loop _, ih (i + 1) _ (by omega) lt (W.frame _ s2 _ _ st2 (Nat.le_succ _) fun b hb o e => ?_) has4 fun s5 hm5 has5 => q s5 ?_ has5⟩
    · rw [sb.2 b (ne b hb)]; exact e
    · refine Moved.trans W.gtrans ((hm.mono more).then_heap (Nat.le_succ _) fun b o hb e => ?_) hm5
      rw [sb.2 b fun h => hb (by rw [h]; exact List.mem_cons_self ..)]
      exact e
end
section
variable {s : Shared} {w : World} {P : Program} {A : Around} {E : Value → Shared → Prop}
abbrev bareL (led : Bool) : Obj := { cls := .type "set", dict := none, data := .set #[] 0 (.fresh 0 0 led) }
/-- the heap and the tokens alone changed, all that stood stays -/
def GrownS (s s2 : Shared) (R : Heap → Prop) : Prop := ∃ h2 t2, s2 = { s with heap := h2, toks := t2 } ∧ R h2 ∧ ∀ b o, s.heap.get? b = some o → h2.get? b = some o
theorem sub_tup_set : isSubtype (.type "tuple") (.type "set") = pure false := by rw [isSubtype_type]; kernel_rfl
theorem sub_tup_fset : isSubtype (.type "tuple") (.type "frozenset") = pure false := by rw [isSubtype_type]; kernel_rfl
theorem init_strs {l : Addr} {vs : Array Value} {led : Bool} (xs : List Str) (calm : A.handled = none) (seq : s.heap.IsList l vs ∨ s.heap.IsTuple l vs) (isS : StrsAre vs.toList xs) (few : xs.length + 1 < scanBound) :
    codeAny (model P w) A (.call (.builtin "set.__init__") ⟨[.ref s.heap.objs.size, .ref l], []⟩) (wants (fun r s2 => r = .none ∧ GrownS s s2 fun h2 => HasS P w h2 s.heap.objs.size xs) E) { s with heap := s.heap.push (bareL led) } := by
  have size : xs.length = vs.size := by rw [← StrsAre.len_eq isS, Array.length_toList]
  have stands : (s.heap.push (bareL led)).get? s.heap.objs.size = some (bareL led) := Heap.get?_push_size _ rfl
  have typed : Shared.TypeIs { s with heap := s.heap.push (bareL led) } (.ref s.heap.objs.size) "set" := ⟨_, stands, rfl⟩
  apply codeAny_call_builtin F.called_set.init.plain F.entry_set_init (check_set_init_1 typed ?_)
  have low : l < s.heap.objs.size := seq.elim (fun ⟨_, e, _⟩ => Heap.lt_size e) fun ⟨_, e, _⟩ => Heap.lt_size e
  have new : (s.heap.push (bareL led)).objs.size = s.heap.objs.size + 1 := Heap.size_push ..
  have ne : l ≠ (s.heap.push (bareL led)).objs.size := by rw [new]; exact Nat.ne_of_lt (Nat.lt_succ_of_lt low)
  have two : ∀ {b : Addr}, b < s.heap.objs.size → b ∉ [s.heap.objs.size, (s.heap.push (bareL led)).objs.size] := fun hb z => by
    rw [new] at z; rcases List.mem_cons.mp z with z | z
    · exact absurd z (Nat.ne_of_lt hb)
    · exact absurd (List.mem_singleton.mp z) (Nat.ne_of_lt (Nat.lt_succ_of_lt hb))
  have apart : s.heap.objs.size ∉ [(s.heap.push (bareL led)).objs.size, l] := fun z => by
    rw [new] at z; rcases List.mem_cons.mp z with z | z
    · exact absurd z (Nat.ne_of_lt (Nat.lt_succ_self _))
    · exact absurd (List.mem_singleton.mp z) (Nat.ne_of_gt low)
  have val : ∀ (i : Nat) (v : Value), i < vs.size → vs[i]? = some v → ∃ t x, xs[i]? = some x ∧ v = .str x t := fun i v hi hv => by
    obtain ⟨t, e⟩ := SS.strs_at isS i v (by rw [Array.getElem?_toList]; exact hv)
    have hl : i < xs.length := by omega
    refine ⟨t, xs[i], List.getElem?_eq_getElem hl, ?_⟩
    rw [e, List.getD_eq_getElem?_getD, List.getElem?_eq_getElem hl]
    rfl
  have hasZ : ∀ o : Obj, HasS P w ((s.heap.push (bareL led)).push o) s.heap.objs.size (xs.take 0) := fun o =>
    SetOf_congr ((setObjOf_fresh (knd := PySem.strKind P w) led).setOf (Heap.get?_push_of_some _ stands) (by unfold scanBound; omega)) (fun _ => rfl) rfl
  have done : ∀ {wr : List Addr} {G : Array GenState → Array GenState → Prop} (o : Obj) (s3 : Shared), (∀ b, b < s.heap.objs.size → b ∉ s.heap.objs.size :: wr) → (∀ a b, G a b → b = a) → Moved (s.heap.objs.size :: wr) (fun a b => b = a) { s with heap := (s.heap.push (bareL led)).push o } s3 → HasS P w s3.heap s.heap.objs.size xs →
      GrownS s s3 fun h2 => HasS P w h2 s.heap.objs.size xs := fun {wr G} o s3 hw _ hm has => by
    obtain ⟨h3, g3, d3, t3, o3⟩ := s3
    cases (hm.gens : g3 = s.gens)
    cases (hm.drawn : d3 = s.drawn)
    cases (hm.os : o3 = s.os)
    exact ⟨h3, t3, rfl, has, fun b u e => hm.heap b u (hw b (Heap.lt_size e)) (Heap.get?_push_of_some _ (Heap.get?_push_of_some _ e))⟩
  unfold Builtin.«set.__init__»
  unfold noKeywords
  unfold Builtin.Frozenset.updateFrom
  generalize gen : pyIter = PI
  rcases seq with hl | hl
  · have hl1 := hl.push (bareL led)
    have ⟨ob, e0, e1, n0, e2⟩ := hl1
    obtain ⟨k1, k2, k3, k4⟩ := ob
    simp only at e1 e2
    subst e1 e2
    have t1 := F.sub_list_set
    have t2 := F.sub_list_frozenset
    have t3 : (Value.type "list" == Value.type "dict") = false := rfl
    wp_walk
    subst gen
    apply wpAny_pyIter_list hl1
    apply wpAny_bind
    apply wpAny_runValue
    apply fill_strs (Walks.list (by simp [calm]) _ l ne vs).toS s.heap.objs.size apart xs size (by omega) val (vs.size - 0) 0 _ (by omega) (Nat.zero_le _) ⟨⟨_, Heap.get?_push_size _ rfl, rfl, rfl⟩, hl1.push _⟩ (hasZ _)
    intro s3 hm has
    apply wpAny_pure
    apply wpAny_pure
    exact ⟨rfl, done (G := fun a b => b = a) _ s3 (fun b hb => two hb) (fun _ _ z => z) hm has⟩
  · have hl1 := hl.push (bareL led)
    have ⟨ob, e0, e1, n0, e2⟩ := hl1
    obtain ⟨k1, k2, k3, k4⟩ := ob
    simp only at e1 e2
    subst e1 e2
    have t1 := sub_tup_set
    have t2 := sub_tup_fset
    have t3 : (Value.type "tuple" == Value.type "dict") = false := rfl
    wp_walk
    subst gen
    apply wpAny_pyIter_tuple hl1
    apply wpAny_bind
    apply wpAny_runValue
    apply fill_strs (Walks.tuple (by simp [calm]) _ l ne vs).toS s.heap.objs.size apart xs size (by omega) val (vs.size - 0) 0 _ (by omega) (Nat.zero_le _) ⟨⟨_, Heap.get?_push_size _ rfl, rfl, rfl⟩, hl1.push _⟩ (hasZ _)
    intro s3 hm has
    apply wpAny_pure
    apply wpAny_pure
    exact ⟨rfl, done (G := fun a b => b = a) _ s3 (fun b hb => two hb) (fun _ _ z => z) hm has⟩
/-- set(xs), xs texts -/
theorem set_of_strs {l : Addr} {vs : Array Value} (xs : List Str) {Q : Value → Shared → Prop} (calm : A.handled = none) (seq : s.heap.IsList l vs ∨ s.heap.IsTuple l vs) (isS : StrsAre vs.toList xs) (few : xs.length + 1 < scanBound)
    (q : ∀ (h2 : Heap) (t2 : Nat), HasS P w h2 s.heap.objs.size xs → (∀ b o, s.heap.get? b = some o → h2.get? b = some o) → Q (.ref s.heap.objs.size) { s with heap := h2, toks := t2 }) : wpAny (model P w) A (call (.type "set") [.ref l]) Q E s := by
  have ⟨_, _, line⟩ := F.called_set.mro
  have b1 := F.called_set.made
  have b2 := F.called_set.sub
  have b3 := F.called_set.notType
  have b4 := F.called_set.canCreate
  have b5 := F.typeCall_set_1 (.ref l)
  apply wpAny_call
  apply codeAny_of_tree
  change wpAny _ _ (callAny (.type "set") _) _ _ _
  apply wpAny_pure
  refine ⟨Code.quiet_builtin _ (by decide +kernel), ?_⟩
  apply codeAny_builtin F.entry_type_call
  rewrite [Around.under_plain (weight_type_call_type "set" [.ref l] []) rfl]
  repeat any_goals first | assumption | wp_step
  apply codeAny_mono (code_set_new_1 (.ref l) (E := E) (Q₁ := fun ob s2 => ∃ led, ob = .ref s.heap.objs.size ∧ s2 = { s with heap := s.heap.push (bareL led) }) fun led => ⟨led, rfl, rfl⟩)
  intro r s2 hr
  match r, hr with
  | .error _, hr => exact hr
  | .ok (.ret ob), hr =>
    obtain ⟨led, e1, e2⟩ := hr
    subst e1 e2
    have stands : (s.heap.push (bareL led)).get? s.heap.objs.size = some (bareL led) := Heap.get?_push_size _ rfl
    have typed : Shared.TypeIs { s with heap := s.heap.push (bareL led) } (.ref s.heap.objs.size) "set" := ⟨_, stands, rfl⟩
    have c1 := F.called_set.init.lookup
    have c2 := F.called_set.init.bind (.ref s.heap.objs.size)
    repeat any_goals first | assumption | wp_step
    apply codeAny_mono (init_strs xs (E := E) (by simp [calm]) seq isS few)
    intro r2 s3 hr2
    match r2, hr2 with
    | .error _, hr2 => exact hr2
    | .ok (.ret ob2), hr2 =>
      obtain ⟨e3, h2, t2, e4, has, hk⟩ := hr2
      subst e3 e4
      repeat any_goals first | assumption | wp_step
      exact q h2 t2 has hk
end
section
variable {X : Cx}
/-- len(set(e)), e texts -/
def tLenSetS (K : PySem.W.Frag) (ta : TE) : TE := fun σ H Q => ta σ H fun x H1 => ∃ l, ∃ xs : List Str, x = .ref l ∧ (SqL K H1 l (xs.map V.str) ∨ SqT K H1 l (xs.map V.str)) ∧ xs.length < 60 ∧ Q (.int (dcount xs)) H1
theorem few60 {n : Nat} (h : n < 60) : n + 1 < scanBound := by unfold scanBound; omega
theorem pe_lenSetS {a : Expr} {ta : TE} {p p2 q pos : Pos} (hc : X.calm = true) (hg : Gl X "len") (hm : X.mg "len" = none) (hg2 : Gl X "set") (hm2 : X.mg "set" = none) (ha : PE X a ta)
    (na : starEach [a] X.env = (false, eval a X.env) :: starEach [] X.env := by rfl) : PE X (.Call (.Name "len" p) [.Call (.Name "set" p2) [a] [] q] [] pos) (tLenSetS X.K ta) := by
  refine ⟨fun pins s σ H Q I h => Call_ (ld_blt I hg hm boot_len (PyProof.Rows.callWith_builtin1 (PyProof.Rows.args_cons ?_ rfl) rfl rfl))⟩
  refine Call_ (ld_blt I hg2 hm2 boot_set (PyProof.Rows.callWith_type1 (PyProof.Rows.args_cons (thn (ha.run pins s σ H _ I h) fun v s1 ⟨x, H1, I1, r1, l, xs, ex, hq, few, q1⟩ => PyProof.Rows.args_nil ?_) na) na rfl))
  subst ex; cases (show v = Value.ref l from r1)
  have fin : ∀ (h2 : Heap) (tk : Nat), HasS X.prog X.w h2 s1.heap.objs.size xs → (∀ b o, s1.heap.get? b = some o → h2.get? b = some o) →
      wpAny (model X.prog X.w) X.A (spliced (backTo pos (starEach [] X.env))) (fun vs s2 => wpAny (model X.prog X.w) X.A (call (.builtin "len") (Value.ref s1.heap.objs.size :: vs)) (EP X pins σ Q) X.xe s2) X.xe { s1 with heap := h2, toks := tk } := fun h2 tk has hk => by
    obtain ⟨o, es, ep, t, ho, hex, hd, _, _, _, hf, hn⟩ := has
    have I2 : Inv X pins σ H1 { s1 with heap := h2, toks := tk } := I1.kept hk
    have small := dcount_le xs
    refine PyProof.Rows.args_nil (call_len_set ho hex hd hf (by rw [hn]; have : sizeLine = 16777216 := sizeLine_eq; omega) ⟨.int (dcount xs), H1, I2.tok _, ⟨_, by rw [hn]⟩, q1⟩)
  rcases hq with hq | hq
  · obtain ⟨its, r, pl, _⟩ := I1.list hq
    exact set_of_strs xs (I1.ok.hd hc) (.inl pl.isList) (by simpa using strsAre_of r) (few60 few) fin
  · obtain ⟨its, r, pl, _⟩ := I1.tuple hq
    exact set_of_strs xs (I1.ok.hd hc) (.inr pl) (by simpa using strsAre_of r) (few60 few) fin
theorem vals_at : ∀ (xs : List V) (us : List Value), xs.length = us.length → (∀ (i : Nat) (x : V) (u : Value), xs[i]? = some x → us[i]? = some u → RelV x u) → Vals xs us
  | [], [], _, _ => .nil
  | x :: xs, u :: us, h, r => .cons (r 0 x u rfl rfl) (vals_at xs us (Nat.succ.inj h) fun i y v hy hv => r (i + 1) y v hy hv)
/-- list(z), z a text -/
def gListS : List V → Hp → VK → Prop := fun xs H Q => ∃ z : Str, xs = [.str z] ∧ z.length ≤ sizeLine ∧ ∀ p, H p = none → Q (.ref p) (upd H p (.lst (z.cps.toList.map fun c => .str ⟨#[c]⟩)))
theorem cg_listS (hc : X.calm = true) : CallR X (.type "list") gListS := by
  rintro pins s σ H xs us Q I r ⟨z, rfl, hz, q⟩
  obtain ⟨u, rfl, t, rfl⟩ := vals1 r; refine call_list_str (I.ok.hd hc) z t (fun h2 tk acc c kp stands items => ?_) hz
  have r2 : Vals (z.cps.toList.map fun c => V.str ⟨#[c]⟩) acc.toList := by
    refine vals_at _ _ (by rw [List.length_map, Array.length_toList, Array.length_toList, items.1]) fun i x v hx hv => ?_
    rw [Array.getElem?_toList] at hv
    obtain ⟨c, tk2, hc2, rfl⟩ := items.2 i v hv
    rw [List.getElem?_map, Array.getElem?_toList, hc2] at hx
    cases hx
    exact ⟨tk2, rfl⟩
  have len : (z.cps.toList.map fun c => V.str ⟨#[c]⟩).length ≤ sizeLine := by rw [List.length_map, Array.length_toList]; exact hz
  exact ⟨.ref s.heap.objs.size, _, I.laid (t' := tk) kp (Nat.le_refl _) (show ObjOk X.prog X.w _ h2 _ (.lst _) from ⟨len, acc.toList, c, r2, stands⟩), rfl, q _ (I.hok.fresh (Nat.le_refl _))⟩
end

/-! Readings with a stronger promise behind them; the empty text's join. -/
section
variable {X : Cx}
/-- with a stronger promise behind it -/
def tUp (te : TE) : TE := fun σ H Q => ∃ Q2 : VK, te σ H Q2 ∧ ∀ x H1, Q2 x H1 → Q x H1
theorem pe_up {e : Expr} {te : TE} (h : PE X e te) : PE X e (tUp te) := by
  constructor
  rintro pins s σ H Q hI ⟨Q2, hq, imp⟩
  exact thn (h.run pins s σ H Q2 hI hq) fun v s1 ⟨x, H1, hI1, hr, q⟩ => ⟨x, H1, hI1, hr, imp x H1 q⟩
theorem pe_weak {e : Expr} {t t2 : TE} (h : PE X e t) (imp : ∀ σ H Q, t2 σ H Q → t σ H Q) : PE X e t2 := ⟨fun pins s σ H Q hI hq => h.run pins s σ H Q hI (imp σ H Q hq)⟩
/-- "".join(xs) -/
def JoinG (K : PySem.W.Frag) (x : V) (H : Hp) (Q : VK) : Prop := ∃ (p : Addr) (ys : List Str), x = .ref p ∧ SqL K H p (ys.map V.str) ∧ (ys.map (·.length)).sum ≤ 1000000 ∧ Q (.str (Txt.join "" ys)) H
def tJoin0 (K : PySem.W.Frag) (te : TE) : TE := fun σ H Q => te σ H fun x H1 => JoinG K x H1 Q
theorem rd_join {K : PySem.W.Frag} {te : TE} {σ : L2.St} {H : Hp} {Q : VK} (q : te σ H fun x H1 => JoinG K x H1 Q) : tJoin0 K te σ H Q := q
theorem pe_join0 {e : Expr} {te : TE} {k : Nat} {p0 apos pos : Pos} (he : PE X e te)
    (hs : starEach [e] X.env = [(false, eval e X.env)] := by rfl)
    (hbase : attributeBase (.Constant (.str "") k p0) "join" X.env (eval (.Constant (.str "") k p0) X.env) = eval (.Constant (.str "") k p0) X.env := by rfl)
    (hline : (apos.endLine == pos.line) = true := by rfl) :
    PE X (.Call (.Attribute (.Constant (.str "") k p0) "join" apos) [e] [] pos) (tJoin0 X.K te) := by
  refine pe_weak (pe_join pe_str (pe_up he) hs hbase hline) fun σ H Q h => ⟨⟨_, rfl⟩, _, h, ?_⟩
  rintro x H1 ⟨p, ys, rfl, hs, hl, q⟩
  refine ⟨"", p, ys, rfl, rfl, .inl hs, ?_, q⟩
  rw [show ("" : Str).length = 0 from rfl, Nat.mul_zero]
  omega
end

/-! Classes of the program: their addresses, calls of methods, properties, staticmethods; what is never reached. -/
/-- a statement that is never reached -/
def tNo : TS := fun _ _ _ => False
theorem ps_no {X : Cx} {st : Stmt} : PS X st tNo := ⟨fun _ _ _ _ _ _ h => h.elim⟩
theorem pss_no {X : Cx} {st : List Stmt} : PSs X st tNo := ⟨fun _ _ _ _ _ _ h => h.elim⟩
/-- what a name of the module holds -/
def cls_at (K : PySem.W.Frag) (x : Str) : Addr := match PySem.W.nsIn K mainGlobals x with
  | some (some (.ref a)) => a
  | _ => 0
theorem cls_at_of {K : PySem.W.Frag} {x : Str} {a : Addr} (h : PySem.W.nsIn K mainGlobals x = some (some (.ref a))) : cls_at K x = a := by
  unfold cls_at
  rw [h]
/-- a method that is a property -/
structure Prp (P : Program) (w : World) (K : PySem.W.Frag) (mg : Str → Option Value) (base : Heap) (k : Nat) (C : Addr) (f : Str) (sp : Sp) : Prop where
  ex : ∃ (p g : Addr) (fd : FuncData) (ps : List Str), Cls K C ∧ PropOf K C f p g ∧ FnOk P w K mg base C8.CX0 k g fd ps sp ∧ Binds K fd ps []
/-- a class that may be made by its name, sp being what its __init__ keeps -/
structure MakR (P : Program) (w : World) (K : PySem.W.Frag) (mg : Str → Option Value) (base : Heap) (k : Nat) (x : Str) (C : Addr) (sp : Sp) : Prop where
  ex : ∃ f : Addr, Mk K C f ∧ FnR P w K mg base C8.CX0 k f sp ∧ mg x = some (.ref C)
/-- a staticmethod of the class at C -/
structure Sta (P : Program) (w : World) (K : PySem.W.Frag) (mg : Str → Option Value) (base : Heap) (k : Nat) (C : Addr) (m : Str) (sp : Sp) : Prop where
  ex : ∃ (mc : Value) (p g : Addr), ClX.CRead K C mc ∧ PySem.W.findCls K (.ref C) mc m = some (.get (.builtin "staticmethod.__get__") (.ref p) .none (.ref C)) ∧ (∃ rest, PySem.W.recIn K p "staticmethod" = some (.ref g :: rest)) ∧ PySem.W.keepIn K (.ref g) = true ∧ FnR P w K mg base C8.CX0 k g sp
section
variable {X : Cx} {k j : Nat} {C : Addr} {x m f : Str} {sp : Sp} {p pos apos : Pos} {e o : Expr} {es : List Expr} {ta : TE} {t : TA}
/-- o.f, a property -/
theorem pe_pr (c : Prp X.prog X.w X.K X.mg X.base k C f sp) (hr : Room j X.A) (hk : k + 1 ≤ j) (he : PE X e ta) (hb : attributeBase e f X.env (eval e X.env) = eval e X.env) : PE X (.Attribute e f pos) (tProp C sp [] C8.E0 ta) := by
  obtain ⟨p, g, fd, ps, hc, hp, F, b⟩ := c.ex
  exact pe_prop he hc hp F (hr.mono hk) b .nil C8.pass0 hb
/-- C(e, ..) -/
theorem pe_mkR (c : MakR X.prog X.w X.K X.mg X.base k x C sp) (hr : Room j X.A) (hk : k + 1 ≤ j) (hg : Gl X x) (ha : PA X (e :: es) t) (hdb : (x == ("__debug__" : Str)) = false := by decide)
    (he : starEach (e :: es) X.env = (false, eval e X.env) :: starEach es X.env := by rfl) (hpl : (backTo pos (starEach es X.env)).any (·.1) = false := by rfl) : PE X (.Call (.Name x p) (e :: es) [] pos) (StX.tMakeR C sp C8.E0 t) := by
  obtain ⟨f, M, F, hm⟩ := c.ex
  exact StX.pe_makeR M F (hr.mono hk) hg hm C8.pass0 ha hdb he hpl
/-- C(e, .., *es) -/
theorem pe_mkS (c : MakR X.prog X.w X.K X.mg X.base k x C sp) (hr : Room j X.A) (hk : k + 1 ≤ j) (hg : Gl X x) (ha : PA X (e :: es) t) (hdb : (x == ("__debug__" : Str)) = false := by decide)
    (he : starEach (e :: es) X.env = (false, eval e X.env) :: starEach es X.env := by rfl) (hst : (backTo pos (starEach es X.env)).any (·.1) = true := by rfl) : PE X (.Call (.Name x p) (e :: es) [] pos) (StX.tMakeR C sp C8.E0 t) := by
  obtain ⟨f, M, F, hm⟩ := c.ex
  refine ⟨fun pins s σ H Q I h => wpAny_Call_Name_kw (ld_glob I hg hm ?_ hdb)⟩
  exact PySem.W.callWith_S2 (h₀ := X.base) I.ok.mod.kin M.kp (thn (ha.run pos pins s σ H _ I h) fun us s1 ⟨vs, H1, I1, r, q⟩ => ⟨I1.kIn, StX.run_makeR M F (hr.mono hk) C8.pass0 I1 r q⟩) he hst
/-- C.m(e, ..), m a staticmethod -/
def tStc (C : Addr) (sp : Sp) (ta : TE) (t : TA) : TE := fun σ H Q => ta σ H fun x H1 => x = .ref C ∧ t σ H1 fun vs H2 => sp vs H2 Q C8.E0
theorem pe_st {pl : Sem Bool} (c : Sta X.prog X.w X.K X.mg X.base k C m sp) (hr : Room j X.A) (hk : k ≤ j) (he : PE X o ta) (ha : PA X (e :: es) t) (hst : starEach (e :: es) X.env = (false, eval e X.env) :: starEach es X.env := by rfl) (hpl : (backTo pos (starEach es X.env)).any (·.1) = false := by rfl)
    (ht : eval (.Call (.Attribute o m apos) (e :: es) [] pos) X.env = (do let ov ← eval o X.env; standAt apos.atName; let (f, first) ← holding [ov] (getMethod ov m pl); callWith pos f first (backTo pos (starEach (e :: es) X.env)) (backToKw pos (keywordEach [] X.env))) := by rfl) :
    PE X (.Call (.Attribute o m apos) (e :: es) [] pos) (tStc C sp ta t) := by
  obtain ⟨mc, p, g, r, at_, ⟨rest, hp⟩, kp, F⟩ := c.ex
  refine ⟨fun pins s σ H Q I h => PySem.W.methodCall_KW (pl := pl) (thn (he.run pins s σ H _ I h) fun u s1 ⟨x, H1, I1, rx, ex, q⟩ => ?_) ht⟩
  subst ex
  cases (show u = Value.ref C from rx)
  have I2 := I1.tok (s1.toks + 1)
  refine PySem.W.method_cls I1.kIn r.ga (PySem.W.cls_bind I1.kIn r.rd at_ (wpAny_call (PySem.W.sm_get (s := { s1 with toks := s1.toks + 1 }) I1.kIn hp (PySem.W.handed_on rfl ?_))))
  refine PySem.W.callWith_K (h₀ := X.base) I2.ok.mod.kin kp (thn (ha.run pos pins _ σ H1 _ I2 q) fun us s2 ⟨vs, H2, I3, rv, q2⟩ => ⟨I3.kIn, ?_⟩) hst hpl
  exact wpAny_call (run_fnR F (hr.mono hk) C8.pass0 I3 rv q2)
end
/-! ### short readings -/
def tFs (ts : List TE) : TE := fun σ H Q => tJs ts Str.empty σ H fun out H1 => Q (.str out) H1
def rPart : V → List V → Hp → VK → Prop := fun x xs H Q => ∃ a b, x = .str a ∧ xs = [.str b] ∧ (b.length == 0) = false ∧ a.length ≤ sizeLine ∧ ∀ p, H p = none → Q (.ref p) (upd H p (.tup [.str (Txt.partition a b).1, .str (Txt.partition a b).2.1, .str (Txt.partition a b).2.2]))
def rSplit : V → List V → Hp → VK → Prop := fun x xs H Q => ∃ a b, x = .str a ∧ xs = [.str b] ∧ (b.length == 0) = false ∧ a.length + 2 ≤ sizeLine ∧ rNewStrs (Txt.split a b) H Q
def rTupIx (K : PySem.W.Frag) : V → List V → Hp → VK → Prop := fun x xs H Q => ∃ p, ∃ ys : List Str, ∃ z j, x = .ref p ∧ xs = [.str z] ∧ SqT K H p (ys.map V.str) ∧ ys[j]? = some z ∧ (∀ m, m < j → ys[m]? ≠ some z) ∧ Q (.int (j : Nat)) H
/-- a class whose instances are read -/
structure InsK (K : PySem.W.Frag) (C : Addr) : Prop where
  cl : Cls K C
  (ha : PySem.W.findIn K (.ref C) "__class__" = some (some (.builtin "object.__class__"))) (hn : PySem.W.specialIn K (.builtin "object.__class__") "__get__" = some (some (.builtin "getset_descriptor.__get__")))
  (ht : PySem.W.takesIn K (.builtin "object.__class__") = some true) (hm : PySem.W.mroIn K C (.type "object") = some true)
class SchK (K : PySem.W.Frag) : Prop where
  ins : InsK K (cls_at K "Schema")
  nF : NoAttr K (cls_at K "Schema") "fields"
  nL : NoAttr K (cls_at K "Schema") "_lists"
/-- "..".join(xs) -/
def JoinS (K : PySem.W.Frag) (z : Str) (x : V) (H : Hp) (Q : VK) : Prop := ∃ (p : Addr) (ys : List Str), x = .ref p ∧ SqL K H p (ys.map V.str) ∧ (ys.map (·.length)).sum + ys.length * z.length ≤ 1000000 ∧ Q (.str (Txt.join z ys)) H
def tJoinS (K : PySem.W.Frag) (z : Str) (te : TE) : TE := fun σ H Q => te σ H fun x H1 => JoinS K z x H1 Q
theorem rd_joinS {K : PySem.W.Frag} {z : Str} {te : TE} {σ : L2.St} {H : Hp} {Q : VK} (q : te σ H fun x H1 => JoinS K z x H1 Q) : tJoinS K z te σ H Q := q
theorem pe_joinS {X : Cx} {z : Str} {e : Expr} {te : TE} {k : Nat} {p0 apos pos : Pos} (he : PE X e te)
    (hs : starEach [e] X.env = [(false, eval e X.env)] := by rfl)
    (hbase : attributeBase (.Constant (.str z) k p0) "join" X.env (eval (.Constant (.str z) k p0) X.env) = eval (.Constant (.str z) k p0) X.env := by rfl)
    (hline : (apos.endLine == pos.line) = true := by rfl) : PE X (.Call (.Attribute (.Constant (.str z) k p0) "join" apos) [e] [] pos) (tJoinS X.K z te) := by
  refine pe_weak (pe_join pe_str (pe_up he) hs hbase hline) fun σ H Q h => ⟨⟨_, rfl⟩, _, h, ?_⟩
  rintro x H1 ⟨p, ys, rfl, hs, hl, q⟩
  exact ⟨z, p, ys, rfl, rfl, .inl hs, Nat.le_trans hl (by decide), q⟩
/-- what is walked is a list or a tuple -/
def iSeq (K : PySem.W.Frag) (te : TE) : TI := fun σ H R => te σ H fun x H1 => ∃ a, x = .ref a ∧ (((∃ xs, SqL K H1 a xs) ∧ R (Itl K a) H1) ∨ ((∃ xs, SqT K H1 a xs) ∧ R (Itt K a) H1))
theorem pi_seq {X : Cx} {tg l : Expr} {te : TE} (hl : PE X l te) : PI X tg l (iSeq X.K te) := by
  refine ⟨fun pins s σ H R I h => thn (hl.run pins s σ H _ I h) fun v s1 ⟨x, H1, I1, rx, a, ex, q⟩ => ?_⟩
  subst ex; cases (show v = Value.ref a from rx)
  have fr : ∀ b, b ∈ [s1.heap.objs.size] → FpOk X pins H1 b := fun b hb => by
    rw [List.mem_singleton.mp hb]; exact I1.fpOk (Nat.le_refl _) (I1.hok.fresh (Nat.le_refl _))
  rcases q with ⟨⟨xs, hq⟩, q⟩ | ⟨⟨xs, hq⟩, q⟩
  · obtain ⟨its, rv, pl, _⟩ := I1.list hq
    exact wpAny_pyIter_list pl.isList ⟨s1.heap.objs.size, _, _, _, H1, rfl, I1.kept (t' := s1.toks) fun b o e => Heap.get?_push_of_some _ e, turn_list a _, ⟨_, Heap.get?_push_size _ rfl, rfl, rfl⟩, fr, q⟩
  · obtain ⟨its, rv, pl, _⟩ := I1.tuple hq
    exact wpAny_pyIter_tuple (show s1.heap.IsTuple a its.toArray from pl) ⟨s1.heap.objs.size, _, _, _, H1, rfl, I1.kept (t' := s1.toks) fun b o e => Heap.get?_push_of_some _ e, turn_tuple a _, ⟨_, Heap.get?_push_size _ rfl, rfl, rfl⟩, fr, q⟩
/-! ### readings by the head -/
section
variable {K : PySem.W.Frag} {σ : L2.St} {H : Hp} {Q : VK} {D : Ends} {x y v : V} {te tv : TE} {ta tk : TA} {i j l : Nat} {C : Addr} {f m : Str} {sp : Sp} {E : XK} {R : It → Hp → Prop}
theorem rd_fld (q : te σ H fun x H1 => ∃ a C dx fs v, x = .ref a ∧ H1 a = some (.ins C dx fs) ∧ Cls K C ∧ NoAttr K C f ∧ fs.lookup f = some v ∧ Q v H1) : tFld K te f σ H Q := q
theorem rd_sfld (q : tv σ H fun y H1 => te σ H1 fun x H2 => ∃ a C dx fs, x = .ref a ∧ H2 a = some (.ins C dx fs) ∧ Cls K C ∧ NoAttr K C f ∧ fs.length < 1000 ∧ D.nx σ (upd H2 a (.ins C dx (putF f y fs)))) : sFld K te tv f D σ H := q
theorem rd_meth (q : te σ H fun x H1 => ∃ a dx fs, x = .ref a ∧ H1 a = some (.ins C dx fs) ∧ fs.lookup m = none ∧ ta σ H1 fun vs H2 => sp (x :: (vs ++ [])) H2 Q E) : tMeth C m sp [] E te ta σ H Q := q
theorem rd_prop (q : te σ H fun x H1 => ∃ a dx fs, x = .ref a ∧ H1 a = some (.ins C dx fs) ∧ sp (.ref a :: []) H1 Q E) : tProp C sp [] E te σ H Q := q
theorem rd_mkR (q : ta σ H fun vs H1 => ∀ x dx, H1 x = none → H1 dx = none → dx ≠ x → sp (.ref x :: vs) (upd (upd H1 dx (.own x)) x (.ins C dx [])) (fun v H2 => v = .non ∧ Q (.ref x) H2) E) : StX.tMakeR C sp E ta σ H Q := q
theorem rd_stc (q : te σ H fun x H1 => x = .ref C ∧ ta σ H1 fun vs H2 => sp vs H2 Q C8.E0) : tStc C sp te ta σ H Q := q
theorem rd_star {QA : List V → Hp → Prop} (q : te σ H fun x H1 => ∃ p xs, x = V.ref p ∧ (SqT K H1 p xs ∨ SqL K H1 p xs) ∧ ta σ H1 fun ys H2 => QA (xs ++ ys) H2) : StX.tStar K te ta σ H QA := q
theorem rd_lenSetS (q : te σ H fun x H1 => ∃ l, ∃ xs : List Str, x = .ref l ∧ (SqL K H1 l (xs.map V.str) ∨ SqT K H1 l (xs.map V.str)) ∧ xs.length < 60 ∧ Q (.int (dcount xs)) H1) : tLenSetS K te σ H Q := q
theorem rd_sq (q : te σ H fun x H1 => ∃ a, x = .ref a ∧ (((∃ xs, SqL K H1 a xs) ∧ R (Itl K a) H1) ∨ ((∃ xs, SqT K H1 a xs) ∧ R (Itt K a) H1))) : iSeq K te σ H R := q
theorem rd_enumT (q : ta σ H fun vs H1 => ∃ a xs, vs = [.ref a] ∧ SqT K H1 a xs ∧ R (IteT K a) H1) : iEnumT K ta σ H R := q
theorem rd_zipMx (q : ta σ H fun vs H1 => ∃ a b xs ys, vs = [.ref a, .ref b] ∧ SqL K H1 a xs ∧ SqT K H1 b ys ∧ R (ItzM K a b) H1) : iZipM K ta σ H R := q
theorem rd_fs {ts : List TE} (q : tJs ts Str.empty σ H fun out H1 => Q (.str out) H1) : tFs ts σ H Q := q
theorem rd_js {t : TE} {ts : List TE} {acc : Str} {QS : Str → Hp → Prop} (q : t σ H fun x H1 => ∃ y : Str, x = .str y ∧ (acc ++ y).length ≤ sizeLine ∧ tJs ts (acc ++ y) σ H1 QS) : tJs (t :: ts) acc σ H QS := q
theorem rd_js0 {acc : Str} {QS : Str → Hp → Prop} (q : QS acc H) : tJs [] acc σ H QS := q
theorem rd_fmt (q : te σ H fun x H1 => (∃ y : Str, x = .str y ∧ y.length ≤ sizeLine ∧ Q (.str y) H1) ∨ ∃ i : Int, x = .int i ∧ i.natAbs.log2 < 1920 ∧ Q (.str (toString i)) H1) : tFmt te σ H Q := q
end

/-! == and != by an own __eq__, tuples that hold such objects; repr and bool of an own object; C(k=e) of a class with *rest. -/
section
variable {X : Cx} {n m k j : Nat}
/-- a tuple's items are told by its place alone -/
def Uniq (K : PySem.W.Frag) (H : Hp) : Prop := ∀ a xs ys, SqT K H a xs → SqT K H a ys → xs = ys
/-- what == of two values comes to, told by the heap -/
abbrev EqvB := V → V → Hp → Bool → Prop
def EqB (X : Cx) (n : Nat) (D : EqvB) : Prop := ∀ (A : Around) (pins : List (Addr × Obj)) (s : Shared) (σ : L2.St) (H : Hp) (x y : V) (u v : Value) (b : Bool), Sub X n A → Inv X pins σ H s → RelV x u → RelV y v → D x y H b →
    wpAny (model X.prog X.w) A (eqBool u v) (fun r s' => r = b ∧ Inv X pins σ H s') X.xe s
def RcB (X : Cx) (n : Nat) (D : EqvB) : Prop := ∀ (A : Around) (pins : List (Addr × Obj)) (s : Shared) (σ : L2.St) (H : Hp) (x y : V) (u v : Value) (b : Bool), Sub X n A → Inv X pins σ H s → RelV x u → RelV y v → D x y H b →
    wpAny (model X.prog X.w) A (richCompare .Eq u v) (fun r s' => r = .bool b ∧ Inv X pins σ H s') X.xe s
theorem EqB.mono {D : EqvB} (h : EqB X n D) (hn : n ≤ m) : EqB X m D := fun A pins s σ H x y u v b sb => h A pins s σ H x y u v b (sb.mono hn)
theorem EqB.or {D D' : EqvB} (h : EqB X n D) (h' : EqB X n D') : EqB X n (fun x y H b => D x y H b ∨ D' x y H b) := fun A pins s σ H x y u v b sb I rx ry d =>
  d.elim (h A pins s σ H x y u v b sb I rx ry) (h' A pins s σ H x y u v b sb I rx ry)
/-- flat values -/
def DFl : EqvB := fun x y _ b => flatV x = true ∧ flatV y = true ∧ eqV x y = b
theorem eqB_flat : EqB X 0 DFl := by
  intro A pins s σ H x y u v b sb I rx ry d
  obtain ⟨fx, fy, e⟩ := d; have q := eqAt_V (A := A) (s := s) rx ry fx fy
  rw [e] at q
  exact q X.prog X.w X.xe _ ⟨rfl, I⟩
/-- item by item -/
def PrsB (D : EqvB) : List V → List V → Hp → Bool → Prop
  | [], [], _, b => b = true
  | [], _ :: _, _, b => b = false
  | _ :: _, [], _, b => b = false
  | x :: xs, y :: ys, H, b => (D x y H true ∧ PrsB D xs ys H b) ∨ (D x y H false ∧ b = false)
theorem zipR_of {D : EqvB} (h : EqB X n D) {A : Around} (sb : Sub X (n + 1) A) {pins : List (Addr × Obj)} {σ : L2.St} {H : Hp} {b : Bool} :
    ∀ {xs ys : List V} {its its2 : List Value}, PrsB D xs ys H b → Vals xs its → Vals ys its2 → ∀ fin : Bool, fin = (its.length == its2.length) → GE.ZipR X.prog X.w A X.xe (fun s' => Inv X pins σ H s') b fin (its.zip its2)
  | _, _, _, _, p, .nil, .nil, fin, e => by rw [e]; exact p
  | _, _, _, _, p, .nil, .cons _ _, fin, e => by rw [e]; exact p
  | _, _, _, _, p, .cons _ _, .nil, fin, e => by rw [e]; exact p
  | _, _, u :: us, v :: vs, p, .cons rx r, .cons ry r2, fin, e => by
    have e2 : fin = (us.length == vs.length) := e.trans (Bool.eq_iff_iff.mpr (by simp))
    rcases p with ⟨d, p⟩ | ⟨d, p⟩
    · exact ⟨true, fun s I => h A.in1 pins s σ H _ _ _ _ _ sb.in1 I rx ry d, .inl ⟨rfl, zipR_of h sb p r r2 fin e2⟩⟩
    · exact ⟨false, fun s I => h A.in1 pins s σ H _ _ _ _ _ sb.in1 I rx ry d, .inr ⟨rfl, p⟩⟩
/-- tuples, item by item; one and the same tuple is equal to itself -/
def DTp (K : PySem.W.Frag) (D : EqvB) : EqvB := fun x y H b => ∃ p q xs ys, x = .ref p ∧ y = .ref q ∧ SqT K H p xs ∧ SqT K H q ys ∧ PrsB D xs ys H b ∧ (p = q → Uniq K H → b = true)
theorem rcB_tup {D : EqvB} (h : EqB X n D) : RcB X (n + 1) (DTp X.K D) := by
  intro A pins s σ H x y u v b sb I rx ry d
  obtain ⟨p, q, xs, ys, rfl, rfl, hp, hq, pr, _⟩ := d
  cases rx
  cases ry
  obtain ⟨its, r, e, z⟩ := I.tuple hp
  obtain ⟨its2, r2, e2, z2⟩ := I.tuple hq
  exact GE.rc_tupB sb.room.units0 (fun s' => Inv X pins σ H s') b e e2 (zipR_of h sb pr r r2 _ (by rw [List.size_toArray, List.size_toArray])) (fun s' q => ⟨rfl, q⟩) I
/-- from a rich comparison to == inside a tuple: one object is equal to itself -/
theorem RcB.eqB {D : EqvB} (h : RcB X n D) (hr : ∀ x y H b, D x y H b → ∃ p q, x = .ref p ∧ y = .ref q ∧ (p = q → Uniq X.K H → b = true)) : EqB X n D := by
  intro A pins s σ H x y u v b sb I rx ry d
  obtain ⟨p, q, rfl, rfl, hs⟩ := hr _ _ _ _ d
  cases rx
  cases ry
  by_cases hab : p = q
  · subst hab
    rw [hs rfl fun a xs ys h1 h2 => I.tuple_inj h1 h2]
    exact SeqAt.EqAt.same (A := A) (s := s) (.ref p) X.prog X.w X.xe _ ⟨rfl, I⟩
  · refine GQ.eqBool_refG hab (wpAny_mono (h A pins s σ H (.ref p) (.ref q) _ _ b sb I rfl rfl d) (fun r s' q => ?_) fun _ _ x => x)
    obtain ⟨hr', q⟩ := q
    exact ⟨b, hr', rfl, q⟩
theorem eqB_tup {D : EqvB} (h : EqB X n D) : EqB X (n + 1) (DTp X.K D) := (rcB_tup h).eqB fun _ _ _ _ d => let ⟨p, q, _, _, hx, hy, _, _, _, hs⟩ := d; ⟨p, q, hx, hy, hs⟩
/-- a def called from somewhere below -/
theorem run_sub {A : Around} {f : Addr} {fd : FuncData} {ps : List Str} {ds : List Value} {dvs : List V} {sp : Sp} {pins : List (Addr × Obj)} {σ : L2.St} {H : Hp} {s : Shared} {Q : VK} {us : List Value} {vs : List V} (F : FnOk X.prog X.w X.K X.mg X.base C8.CX0 k f fd ps sp)
    (sb : Sub X k A) (hb : Binds X.K fd ps ds) (hd : Vals dvs ds) (I : Inv X pins σ H s) (r : Vals vs us) (h : sp (vs ++ dvs) H Q C8.E0) : wpAny (model X.prog X.w) A (call (.ref f) us) (EP X pins σ Q) X.xe s := by
  have rr := r.append hd
  have hl : (us ++ ds).length = ps.length := rr.length.symm.trans (F.len _ _ _ _ h)
  have e := I.env0
  have e0 : Env0 X.prog X.w X.K X.mg X.base A X.stack s H := ⟨sb.fr ▸ e.frames, e.mod, e.bs, e.bsz, e.funs, e.frf, e.hok, e.bare⟩
  refine wpAny_call (codeAny_mono (F.run A X.stack s H ⟨us, []⟩ (us ++ ds) (vs ++ dvs) Q C8.E0 sb.room e0 (hb s us I.kIn hl) rr h) fun r s' hq => ?_)
  cases r with
  | error e => exact (C8.pass0 : Passes C8.CX0 X C8.E0) pins σ H s e s' I hq
  | ok fl =>
    cases fl with
    | ret w =>
      obtain ⟨z, H', I', rz, q⟩ := I.after hq
      exact ⟨z, H', I', rz, q⟩
    | next => exact False.elim hq
    | brk => exact False.elim hq
    | cont => exact False.elim hq
section
variable {C : Addr} {sp : Sp}
/-- instances of C: what the own == says -/
def DOw (K : PySem.W.Frag) (C : Addr) (sp : Sp) : EqvB := fun x y H b => ∃ p q dx dy fs gs, x = .ref p ∧ y = .ref q ∧ H p = some (.ins C dx fs) ∧ H q = some (.ins C dy gs) ∧ sp [.ref p, .ref q] H (fun v H' => v = .bl b ∧ H' = H) C8.E0 ∧ (p = q → Uniq K H → b = true)
theorem rcB_own (c : C8.Met X.prog X.w X.K X.mg X.base k C "__eq__" sp []) : RcB X k (DOw X.K C sp) := by
  intro A pins s σ H x y u v b sb I rx ry d
  obtain ⟨p, q, dx, dy, fs, gs, rfl, rfl, ha, hb, hs, _⟩ := d
  cases rx
  cases ry
  obtain ⟨f, fd, ps, ds, hc, hm, F, bd, dd⟩ := c.ex
  obtain ⟨mA, O, _⟩ := ins_get I.hok ha; obtain ⟨mB, O', _⟩ := ins_get I.hok hb
  obtain ⟨od, J, _⟩ := O.look
  obtain ⟨od', J', _⟩ := O'.look
  obtain ⟨m, hF⟩ := I.fr
  refine PySem.W.cmp_K (op := .Eq) (tb := .ref C) sb.room.units0 hF I.ok.mod.kin J J'.type (by simp [PySem.W.notFirst]) hm.at_ hm.fn ?_
  refine wpAny_mono (run_sub F sb bd dd I (vs := [.ref p, .ref q]) (.cons rfl (.cons rfl .nil)) (by rw [List.append_nil]; exact hs)) (fun r s' hq => ?_) fun _ _ z => z
  obtain ⟨z, H', I', rz, ez, eh⟩ := hq
  subst ez eh
  cases rz
  exact ⟨rfl, I'⟩
theorem eqB_own (c : C8.Met X.prog X.w X.K X.mg X.base k C "__eq__" sp []) : EqB X k (DOw X.K C sp) := (rcB_own c).eqB fun _ _ _ _ d => let ⟨p, q, _, _, _, _, hx, hy, _, _, _, hs⟩ := d; ⟨p, q, hx, hy, hs⟩
/-- tuples of tuples of flat values and instances of C -/
abbrev DIt (K : PySem.W.Frag) (C : Addr) (sp : Sp) : EqvB := fun x y H b => DFl x y H b ∨ DOw K C sp x y H b
abbrev DPs (K : PySem.W.Frag) (C : Addr) (sp : Sp) : EqvB := DTp K (DTp K (DIt K C sp))
def rEqP (K : PySem.W.Frag) (C : Addr) (sp : Sp) : R2 := fun x y H Q => ∃ b, DPs K C sp x y H b ∧ Q (.bl b) H
theorem op_eqP (c : C8.Met X.prog X.w X.K X.mg X.base k C "__eq__" sp []) (hr : Room j X.A) (hk : k + 2 ≤ j) : OpR X (compareOp .Eq) (rEqP X.K C sp) := by
  intro pins s σ H x y v u Q I rx ry hq; obtain ⟨b, d, q⟩ := hq
  show wpAny (model X.prog X.w) X.A (richCompare .Eq v u) (EP X pins σ Q) X.xe s; have h : RcB X (k + 2) (DPs X.K C sp) := rcB_tup (eqB_tup ((EqB.mono eqB_flat (Nat.zero_le k)).or (eqB_own c)))
  refine wpAny_mono (h X.A pins s σ H x y v u b ⟨hr.mono hk, rfl⟩ I rx ry d) (fun r s' z => ?_) fun _ _ x => x
  obtain ⟨hr', I'⟩ := z
  subst hr'
  exact ⟨.bl b, H, I', rfl, q⟩
/-- o == y: another instance, a text, None, a list -/
def EqWith (C : Addr) (y : V) (H : Hp) : Prop := y = .non ∨ (∃ t, y = .str t) ∨ (∃ q dy gs, y = .ref q ∧ H q = some (.ins C dy gs)) ∨ ∃ q xs, y = .ref q ∧ H q = some (.lst xs)
theorem sub_listC {K : PySem.W.Frag} (C : Addr) : PySem.W.subIn K (.type "list") (.ref C) = some false := by
  have e : fastBuiltinMro "list" = some [.type "list", .type "object"] := by decide +kernel
  show (fastBuiltinMro "list").map (·.contains (.ref C)) = some false
  rw [e]; first | rfl | simp
theorem eqWith_type {C : Addr} {y : V} {v : Value} {H : Hp} {pins : List (Addr × Obj)} {σ : L2.St} {s : Shared} (I : Inv X pins σ H s) (ry : RelV y v) (h : EqWith C y H) :
    ∃ tb, PySem.W.Looks (model X.prog X.w) s.heap (typeOf v) tb ∧ PySem.W.notFirst X.K C tb = true := by
  rcases h with rfl | ⟨t, rfl⟩ | ⟨q, dy, gs, rfl, hb⟩ | ⟨q, xs, rfl, hb⟩
  · cases ry
    exact ⟨.type "NoneType", .of_pure rfl, by simp [PySem.W.notFirst, HN.sub_none]⟩
  · obtain ⟨t', rfl⟩ := ry
    exact ⟨.type "str", .of_pure rfl, by simp [PySem.W.notFirst, GE.sub_str]⟩
  · cases ry
    obtain ⟨mB, O', _⟩ := ins_get I.hok hb
    obtain ⟨od', J', _⟩ := O'.look
    exact ⟨_, J'.type, by simp [PySem.W.notFirst]⟩
  · cases ry
    obtain ⟨its, _, ⟨o, n, e, hc, _⟩, _⟩ := I.list (sq_of hb)
    exact ⟨.type "list", fun A Q E s' k q => wpAny_typeOf_ref (k _ _ e) (by rw [hc]; exact q), by simp [PySem.W.notFirst, sub_listC]⟩
def rEqO (C : Addr) (sp : Sp) : R2 := fun x y H Q => ∃ p dx fs, x = .ref p ∧ H p = some (.ins C dx fs) ∧ EqWith C y H ∧ sp [x, y] H (fun v H' => ∃ b, v = .bl b ∧ Q (.bl b) H') C8.E0
theorem op_eqO (c : C8.Met X.prog X.w X.K X.mg X.base k C "__eq__" sp []) (hr : Room j X.A) (hk : k ≤ j) : OpR X (compareOp .Eq) (rEqO C sp) := by
  intro pins s σ H x y u v Q I rx ry hq
  obtain ⟨p, dx, fs, rfl, ha, hy, hs⟩ := hq
  cases rx
  obtain ⟨f, fd, ps, ds, hc, hm, F, bd, dd⟩ := c.ex
  obtain ⟨mA, O, _⟩ := ins_get I.hok ha; obtain ⟨od, J, _⟩ := O.look
  obtain ⟨tb, ht, hn⟩ := eqWith_type I ry hy
  obtain ⟨m, hF⟩ := I.fr
  show wpAny (model X.prog X.w) X.A (richCompare .Eq (.ref p) v) (EP X pins σ Q) X.xe s
  refine PySem.W.cmp_K (op := .Eq) hr.units0 hF I.ok.mod.kin J ht hn hm.at_ hm.fn ?_
  refine wpAny_mono (run_sub F ⟨hr.mono hk, rfl⟩ bd dd I (vs := [.ref p, y]) (.cons rfl (.cons ry .nil)) (by rw [List.append_nil]; exact hs)) (fun r s' hq => ?_) fun _ _ z => z
  obtain ⟨z, H', I', rz, b, ez, q⟩ := hq
  subst ez
  cases rz
  exact ⟨.bl b, H', I', rfl, q⟩
/-- o != y, y another instance of the class, which has no __ne__ of its own -/
def rNeO (C : Addr) (sp : Sp) : R2 := fun x y H Q => ∃ p dx fs, x = .ref p ∧ H p = some (.ins C dx fs) ∧ EqWith C y H ∧ sp [x, y] H (fun v H' => ∃ b, v = .bl b ∧ Q (.bl (!b)) H') C8.E0
theorem op_neO (c : C8.Met X.prog X.w X.K X.mg X.base k C "__eq__" sp []) (hne : PySem.W.findIn X.K (.ref C) "__ne__" = some (some (.builtin "object.__ne__"))) (hmo : PySem.W.mroIn X.K C (.type "object") = some true) (hr : Room j X.A) (hk : k + 1 ≤ j) : OpR X (compareOp .NotEq) (rNeO C sp) := by
  intro pins s σ H x y u v Q I rx ry hq
  obtain ⟨p, dx, fs, rfl, ha, hy, hs⟩ := hq
  cases rx
  obtain ⟨f, fd, ps, ds, hc, hm, F, bd, dd⟩ := c.ex
  obtain ⟨mA, O, _⟩ := ins_get I.hok ha; obtain ⟨od, J, _⟩ := O.look
  obtain ⟨tb, ht, hn⟩ := eqWith_type I ry hy
  have sb : Sub X (k + 1) X.A := ⟨hr.mono hk, rfl⟩
  show wpAny (model X.prog X.w) X.A (richCompare .NotEq (.ref p) v) (EP X pins σ Q) X.xe s
  have run := run_sub F sb.in1 bd dd I (vs := [.ref p, y]) (us := [.ref p, v]) (.cons rfl (.cons ry .nil)) (by rw [List.append_nil]; exact hs)
  have body : wpAny (model X.prog X.w) X.A.in1 (Builtin.«object.__ne__» ⟨[.ref p, v], []⟩) (fun fin s' => ∃ r, fin = .done (.ret (.bool r)) ∧ ∃ H', Inv X pins σ H' s' ∧ Q (.bl r) H') X.xe s := by
    unfold Builtin.«object.__ne__»; repeat (first
      | with_reducible refine wpAny_cRoomFor sb.in1.room.units0 ?_
      | (refine wpAny_bind (m := callSpecialIfBound? (.ref p) (Str.ofString "__eq__") [v])
          (PySem.W.ifBound_K I.kIn J hm.at_ hm.fn (wpAny_mono run (fun r s' hr => by
            obtain ⟨z, H', I', rz, b, ez, q⟩ := hr
            subst ez
            cases rz
            repeat (first | exact ⟨_, rfl, H', I', q⟩ | exact wpAny_pure ⟨_, rfl, H', I', q⟩ | exact wpAny_truthy_bool ⟨_, rfl, H', I', q⟩ | (refine wpAny_bind (m := truthy (.bool _)) (wpAny_truthy_bool ?_)) | wp_step)) fun _ _ e => e)))
      | wp_step)
  have one : wpAny (model X.prog X.w) X.A (tryCompare (.ref p) "__ne__" v) (fun r s' => ∃ b, r = some (.bool b) ∧ ∃ H', Inv X pins σ H' s' ∧ Q (.bl b) H') X.xe s := by
    unfold tryCompare
    refine wpAny_bind (GE.ifBound_objNe I.kIn J hne (wpAny_call (codeAny_call_builtin PySem.F.cmp_object.ne.plain PySem.F.cmpEntry_ne (PySem.W.check_slot PySem.F.cmpKind_ne PySem.F.cmpSplit_ne (J.type.andThen (PySem.W.looks_mroIn I.kIn hmo)) (PySem.F.cmpArgs_ne _ _)
      (wpAny_mono body (fun fin s' hf => ?_) fun _ _ e => e)))))
    obtain ⟨r, rfl, H', I', q⟩ := hf
    exact wpAny_pure ⟨_, rfl, H', I', q⟩
  have X1 := I.kIn
  unfold richCompare
  simp only [oneThing_ref]
  refine wpAny_holding (wpAny_bind (wpAny_cRoomFor hr.units0 ?_))
  refine wpAny_bind (J.type.here (wpAny_bind (ht.here ?_)))
  split
  · rename_i q
    have e : PySem.W.subIn X.K tb (.ref C) = some false := by
      rcases Bool.or_eq_true_iff.mp hn with e1 | e1
      · exfalso; rw [beq_iff_eq.mp e1] at q; simp at q
      · exact beq_iff_eq.mp e1
    refine wpAny_bind ((PySem.W.looks_subIn X1 e).here ?_)
    simp only [Bool.false_eq_true, if_false]; refine wpAny_bind (wpAny_mono one (fun r s' z => ?_) fun _ _ e => e)
    obtain ⟨b, rfl, H', I', hq⟩ := z
    exact wpAny_pure ⟨.bl b, H', I', rfl, hq⟩
  · refine wpAny_bind (wpAny_pure ?_); simp only [Bool.false_eq_true, if_false]
    refine wpAny_bind (wpAny_mono one (fun r s' z => ?_) fun _ _ e => e); obtain ⟨b, rfl, H', I', hq⟩ := z
    exact wpAny_pure ⟨.bl b, H', I', rfl, hq⟩
/-- repr(o) -/
def gReprO (C : Addr) (sp : Sp) : List V → Hp → VK → Prop := fun xs H Q => ∃ p dx fs, xs = [.ref p] ∧ H p = some (.ins C dx fs) ∧ sp [.ref p] H (fun v H' => ∃ t, v = .str t ∧ Q (.str t) H') C8.E0
theorem cr_reprO (c : C8.Met X.prog X.w X.K X.mg X.base k C "__repr__" sp []) (hr : Room j X.A) (hk : k + 1 ≤ j) : CallR X (.builtin "repr") (gReprO C sp) := by
  intro pins s σ H xs us Q I r h; obtain ⟨p, dx, fs, rfl, ha, hs⟩ := h
  obtain rfl := Vals.ref1 r
  obtain ⟨f, fd, ps, ds, hc, hm, F, bd, dd⟩ := c.ex
  obtain ⟨mA, O, _⟩ := ins_get I.hok ha; obtain ⟨od, J, _⟩ := O.look
  have sb : Sub X (k + 1) X.A := ⟨hr.mono hk, rfl⟩
  refine Calls.call_function_entry PySem.F.kind_repr PySem.F.plain_repr PySem.F.entry_repr (PySem.F.args_repr1 _) ?_; unfold Builtin.«repr»
  refine wpAny_bind (m := oneArg "repr" _) (wpAny_pure ?_); refine wpAny_bind (wpAny_cRoomFor sb.in1.room.units0 ?_)
  refine wpAny_bind ((J.type.andThen (PySem.W.looks_findIn I.kIn hm.at_)).here ?_)
  show wpAny _ _ (if (some (Value.ref f)).isNone = true then _ else _) _ _ _; rw [if_neg (by simp)]
  refine wpAny_bind (m := callSpecialIfBound? (.ref p) (Str.ofString "__repr__") _) (PySem.W.ifBound_K I.kIn J hm.at_ hm.fn (wpAny_mono (run_sub F sb.in1 bd dd I (vs := [.ref p]) (.cons rfl .nil) (by rw [List.append_nil]; exact hs)) (fun r s' hr => ?_) fun _ _ y => y))
  obtain ⟨z, H', I', rz, t, ez, q⟩ := hr
  subst ez
  obtain ⟨tk, rfl⟩ := rz
  refine wpAny_bind (wpAny_isInstance (typeIs_str _ _ _) isSubtype_str_str ?_); have fin : ∃ v, Fin.done (Flow.ret (Value.str t tk)) = Fin.done (Flow.ret v) ∧ EP X pins σ Q v s' := ⟨_, rfl, V.str t, H', I', ⟨tk, rfl⟩, q⟩
  first
    | exact wpAny_pure fin
    | (rw [if_pos rfl]; exact wpAny_pure fin)
    | (simp only [if_true]; exact wpAny_pure fin)
/-- bool(o), o of a class with neither __bool__ nor __len__ -/
def gBoolO (C : Addr) : List V → Hp → VK → Prop := fun xs H Q => ∃ p dx fs, xs = [.ref p] ∧ H p = some (.ins C dx fs) ∧ Q (.bl true) H
theorem cg_boolO (hb : PySem.W.findIn X.K (.ref C) "__bool__" = some none) (hl : PySem.W.findIn X.K (.ref C) "__len__" = some none) : CallR X (.type "bool") (gBoolO C) := by
  intro pins s σ H xs us Q I r h; obtain ⟨p, dx, fs, rfl, ha, q⟩ := h
  obtain rfl := Vals.ref1 r
  obtain ⟨mA, O, _⟩ := ins_get I.hok ha; obtain ⟨od, J, _⟩ := O.look
  have KI := I.kIn
  refine call_bool_1 (GE.meets_bool_any (.ref p) true) ⟨fun M A E Q' hq => ?_, rfl, .bl true, H, I, rfl, q⟩
  unfold truthy callSpecial?
  refine wpAny_bind (wpAny_bind ((J.type.andThen (PySem.W.looks_findIn KI hb)).here (wpAny_pure ?_)))
  show wpAny M A (specialOf (.ref p) "__len__" >>= _) Q' E s
  refine wpAny_bind ((J.type.andThen (PySem.W.looks_findIn KI hl)).here ?_)
  exact wpAny_pure hq
/-! ### C(k=e), where C's __init__ takes *rest -/
def FnK1 (P : Program) (w : World) (K : PySem.W.Frag) (mg : Str → Option Value) (base : Heap) (CX : CXT) (k : Nat) (f : Addr) (kn : Str) (sp : Sp) : Prop :=
  ∀ (A : Around) (outer : List Env) (s : Shared) (H : Hp) (u0 u1 : Value) (v0 v1 : V) (Q : VK) (E : XK), Room k A → Env0 P w K mg base A outer s H → RelV v0 u0 → RelV v1 u1 → sp [v0, v1] H Q E →
    codeAny (model P w) A (.call (.ref f) ⟨[u0], [(kn, u1)]⟩) (CR CX outer P w H s Q E) s
end
section
variable {CX : CXT} {P : Program} {w : World} {K : PySem.W.Frag} {mg : Str → Option Value} {base : Heap} {f : Addr} {name qual : Str} {params : Arguments} {body : List Stmt} {scope : Scope} {dV kV doc pm cdv ct oc : Value} {an od : Option Addr}
  {osl : Array (Option Value)} {N : List Str} {sp sp' : Sp} {self kn pv : Str}
theorem FnK1.imp (F : FnK1 P w K mg base CX k f kn sp) (h : ∀ vs H Q E, sp' vs H Q E → sp vs H Q E) : FnK1 P w K mg base CX k f kn sp' := fun A outer s H u0 u1 v0 v1 Q E hr e0 r0 r1 hs => F A outer s H u0 u1 v0 v1 Q E hr e0 r0 r1 (h _ _ _ _ hs)
theorem fn_starK1 (lk : K.lookup f = some ⟨oc, od, .func (PySem.W.fnOf name qual params body scope dV kV doc pm an cdv ct), osl⟩) (hcd : PySem.W.codeIn K cdv qual = true) (S : FnScope N ([self, kn] ++ [pv]) scope) (hCX : StX.CXUp CX)
    (hb : ∀ a b : Value, bindArgs (PySem.W.fnOf name qual params body scope dV kV doc pm an cdv ct) ⟨[a], [(kn, b)]⟩ = (newTuple [] >>= fun t => pure [(self, a), (kn, b), (pv, t)]))
    (hbd : ∀ (A : Around) (outer : List Env) (s : Shared) (H : Hp) (vs : List V) (Q : VK) (E : XK), Room k (A.deeper (envOfC qual scope s.heap.objs.size f cdv)) → sp vs H Q E → ∃ t, PSs (cxOf CX P w K mg base N qual scope f cdv A outer s H E) body t ∧
      t { nx := fun _ H' => Q .non H', rt := Q } (start N vs) H) :
    FnK1 P w K mg base CX (k + 1) f kn (fun vs H Q E => ∃ ws rest, vs = ws ++ rest ∧ ws.length = 2 ∧ rest.length ≤ sizeLine ∧ ∀ p, H p = Option.none → sp (ws ++ [V.ref p]) (upd H p (.tup rest)) Q E) := by
  intro A outer s H u0 u1 v0 v1 Q E hr e0 r0 r1 hsp
  obtain ⟨ws, rest, ev, hl, hz, hq⟩ := hsp; have hn : H s.heap.objs.size = Option.none := e0.hok.fresh (Nat.le_refl _)
  have hw : ws = [v0, v1] ∧ rest = [] := by
    match ws, hl, ev with
    | [a, b], _, ev => have e2 := List.cons.inj ev; have e3 := List.cons.inj e2.2; exact ⟨by rw [e2.1, e3.1], e3.2.symm⟩
  obtain ⟨rfl, rfl⟩ := hw
  refine StX.run_bnd lk hcd S hr e0 (G := fun xs H2 => ∃ p, H p = Option.none ∧ xs = [v0, v1] ++ [V.ref p] ∧ H2 = upd H p (.tup [])) (fun A' Ex Q' h => ?_) fun s2 H2 xs ⟨p, hp, ex, eH⟩ hr' => ?_
  · rw [hb u0 u1]
    refine wpAny_bind (wpAny_newTuple (wpAny_pure ?_) hz)
    have new : ObjOk P w (upd H s.heap.objs.size (.tup [])) (s.heap.push ({ cls := .type "tuple", data := .seq ([] : List Value).toArray } : Obj)) s.heap.objs.size (.tup []) := ⟨hz, [], .nil, ⟨_, Heap.get?_push_size _ rfl, rfl, _, rfl⟩⟩
    have un := StX.un_laid (fs := frs outer) (s := s) (o := ({ cls := .type "tuple", data := .seq ([] : List Value).toArray } : Obj)) (u := .tup []) hn
    exact h _ _ [v0, v1, V.ref s.heap.objs.size] [u0, u1, Value.ref s.heap.objs.size] (StX.env0_laid e0 new) un rfl (fun e s' => hCX outer s H _ _ E e s' un (fun b o q => Heap.get?_push_of_some _ q) rfl) (.cons r0 (.cons r1 (.cons rfl .nil))) rfl ⟨_, hn, rfl, rfl⟩
  · subst ex eH
    exact hbd A outer s2 _ _ Q E hr' (hq _ hp)
end
structure MakK1 (P : Program) (w : World) (K : PySem.W.Frag) (mg : Str → Option Value) (base : Heap) (k : Nat) (x : Str) (C : Addr) (kn : Str) (sp : Sp) : Prop where
  ex : ∃ f : Addr, Mk K C f ∧ FnK1 P w K mg base C8.CX0 k f kn sp ∧ mg x = some (.ref C)
def tMakeK1 (C : Addr) (sp : Sp) (E : XK) (tk : TA) : TE := fun σ H Q => tk σ H fun zs H2 => ∃ z, zs = [z] ∧ ∀ x dx, H2 x = none → H2 dx = none → dx ≠ x → sp [.ref x, z] (upd (upd H2 dx (.own x)) x (.ins C dx [])) (fun v H3 => v = .non ∧ Q (.ref x) H3) E
theorem pe_mkK1 {C : Addr} {sp : Sp} {x kn : Str} {p pos : Pos} {kws : List Keyword} {tk : TA} (c : MakK1 X.prog X.w X.K X.mg X.base k x C kn sp) (hr : Room j X.A) (hk : k + 1 ≤ j) (hg : Gl X x) (hkw : PK X kws tk)
    (hall : (backToKw pos (keywordEach kws X.env)).all (·.1.isSome) = true := by rfl) (hks : (backToKw pos (keywordEach kws X.env)).filterMap (·.1) = [kn] := by rfl) (hdb : (x == ("__debug__" : Str)) = false := by decide) (hpl : ((backTo pos (starEach [] X.env)).any (·.1) || (backToKw pos (keywordEach kws X.env)).any (·.1.isNone)) = false := by rfl) :
    PE X (.Call (.Name x p) [] kws pos) (tMakeK1 C sp C8.E0 tk) := by
  obtain ⟨f, M, F, hm⟩ := c.ex
  refine ⟨fun pins s σ H Q I h => ?_⟩; refine wpAny_Call_Name_kw (ld_glob I hg hm ?_ hdb)
  refine PySem.W.callWith_KW0 (h₀ := X.base) I.ok.mod.kin M.kp hall ?_ hpl; refine thn (hkw.run pos pins s σ H _ I h) fun ws s2 ⟨zs, H2, I2, rz, z, ez, h2⟩ => ⟨I2.kIn, ?_⟩
  rw [hks]
  subst ez
  obtain ⟨u, rfl, ru⟩ := vals1 rz
  have hq := h2 (s2.heap.objs.size + 1) s2.heap.objs.size (I2.hok.fresh (Nat.le_succ _)) (I2.hok.fresh (Nat.le_refl _)) (Nat.ne_of_lt (Nat.lt_succ_self _))
  have I3 := Inv.made (C := C) I2
  refine wpAny_call (make_map (f := f) I2.kIn M.makes M.init (beq_iff_eq.mp M.fn) (codeAny_mono (F _ X.stack _ _ (Value.ref (s2.heap.objs.size + 1)) u (.ref (s2.heap.objs.size + 1)) z _ C8.E0 ((hr.mono hk).make C [] [(kn, u)])
    (I3.env0.make C [] [(kn, u)]) rfl ru hq) fun r s' hq' => ?_))
  cases r with
  | error e => exact (C8.pass0 : Passes C8.CX0 X C8.E0) pins σ _ _ e s' I3 hq'
  | ok fl =>
    cases fl with
    | ret w =>
      obtain ⟨v, H', I4, rv, ev, q3⟩ := I3.after hq'
      subst ev
      exact ⟨rv, ⟨V.ref (s2.heap.objs.size + 1), H', I4, rfl, q3⟩⟩
    | next => exact hq'.elim
    | brk => exact hq'.elim
    | cont => exact hq'.elim
end

/-! Operators that a class gives its own meaning: ~o, x in o. -/
section
variable {X : Cx} {k j : Nat} {C : Addr} {sp : Sp}
theorem dget_units {A : Around} (hr : Room j A) : A.units + 1 < cLine := by have := hr.units; omega
/-- ~o -/
def rInvO (C : Addr) (sp : Sp) : V → Hp → VK → Prop := fun x H Q => ∃ a dx fs, x = .ref a ∧ H a = some (.ins C dx fs) ∧ sp [.ref a] H Q C8.E0
theorem un_own (c : C8.Met X.prog X.w X.K X.mg X.base k C "__invert__" sp []) (hr : Room j X.A) (hk : k ≤ j) : UnR X (unaryOp .Invert) (rInvO C sp) := by
  intro pins s σ H x v Q I rx h
  obtain ⟨a, dx, fs, rfl, ob, q⟩ := h
  cases rx
  obtain ⟨f, fd, ps, ds, hc, hm, F, b, d⟩ := c.ex; obtain ⟨mA, O, _⟩ := ins_get I.hok ob
  obtain ⟨od, J, _⟩ := O.look
  unfold unaryOp
  refine wpAny_holding ?_
  refine wpAny_bind (PySem.W.special_fn I.kIn J hm.at_ (beq_iff_eq.mp hm.fn) ?_)
  refine wpAny_mono (run_fn F (hr.mono hk) b d C8.pass0 I (vs := [.ref a]) (.cons (show RelV (V.ref a) (Value.ref a) from rfl) .nil) (by rw [List.append_nil]; exact q)) (fun r s' hr => ?_) fun _ _ z => z
  exact wpAny_pure hr
/-- x in o, where the answer is a truth value -/
def rInO (C : Addr) (sp : Sp) : R2 := fun x y H Q => ∃ a dx fs, y = .ref a ∧ H a = some (.ins C dx fs) ∧ sp [.ref a, x] H (fun v H' => ∃ b, v = .bl b ∧ Q (.bl b) H') C8.E0
theorem op_inO (c : C8.Met X.prog X.w X.K X.mg X.base k C "__contains__" sp []) (hr : Room j X.A) (hk : k ≤ j) : OpR X (compareOp .In) (rInO C sp) := by
  intro pins s σ H x y v u Q I rx ry h; obtain ⟨a, dx, fs, rfl, ob, q⟩ := h
  cases ry
  obtain ⟨f, fd, ps, ds, hc, hm, F, b, d⟩ := c.ex; obtain ⟨mA, O, _⟩ := ins_get I.hok ob
  obtain ⟨od, J, _⟩ := O.look
  have look : PySem.W.Looks (model X.prog X.w) s.heap (specialOf (.ref a) "__contains__") (some (.ref f)) := J.type.andThen (PySem.W.looks_findIn I.kIn hm.at_)
  show wpAny _ _ (contains (.ref a) v >>= fun b => pure (Value.bool b)) _ _ s
  unfold contains
  refine wpAny_bind (wpAny_holding ?_); refine wpAny_bind (look.here ?_)
  have hne : ((some (Value.ref f)) == (some Value.none)) = false := rfl
  rw [hne]
  unfold callSpecialUnlessNone?
  refine wpAny_bind (wpAny_bind (look.here ?_))
  refine wpAny_holding (wpAny_bind ((PySem.W.bind_fn I.kIn _ (beq_iff_eq.mp hm.fn)).here ?_))
  refine wpAny_bind (wpAny_mono (run_fn F (hr.mono hk) b d C8.pass0 I (vs := [.ref a, x]) (.cons (show RelV (V.ref a) (Value.ref a) from rfl) (.cons rx .nil)) (by rw [List.append_nil]; exact q)) (fun r s' hr => ?_) fun _ _ z => z)
  refine wpAny_pure ?_
  obtain ⟨w, H', I', rw', t, rfl, hq⟩ := hr
  cases rw'
  exact wpAny_pure (wpAny_pure ⟨.bl t, H', I', rfl, hq⟩)
/-! ### tuples whose one object is known (it has no dict): their methods -/
/-- (e, ..) -/
def tTupF (t : TA) : TE := fun σ H Q => t σ H fun xs H1 => xs.length ≤ sizeLine ∧ ∀ (p : Addr) (o : Obj), H1 p = none → o.dict = none → Q (.ref p) (upd H1 p (.frz o (.tup xs)))
theorem pe_tupF {es : List Expr} {t : TA} {c : Nat} {pos : Pos} (h : PA X es t) : PE X (.Tuple es c pos) (tTupF t) := by
  refine ⟨fun pins s σ H Q I w => wpAny_Tuple_spliced (thn (h.run pos pins s σ H _ I w) fun us s1 hx => ?_)⟩
  obtain ⟨xs, H1, I1, r, z, q⟩ := hx
  refine ⟨by rw [← r.length]; exact z, ⟨.ref s1.heap.objs.size, _, I1.laid (o := .frz _ (.tup xs)) (t' := s1.toks) (fun b u e => Heap.get?_push_of_some _ e) (Nat.le_refl _) ⟨Heap.get?_push_size _ rfl, z, us, r, ⟨_, Heap.get?_push_size _ rfl, rfl, _, rfl⟩⟩, rfl, q _ _ (I1.hok.fresh (Nat.le_refl _)) rfl⟩⟩
/-- tuple(x): of a list, a new tuple; a tuple itself -/
def gTupleF (K : PySem.W.Frag) : List V → Hp → VK → Prop := fun xs H Q => ∃ p ys, xs = [.ref p] ∧ ((SqL K H p ys ∧ ∀ (l : Addr) (o : Obj), H l = none → o.dict = none → Q (.ref l) (upd H l (.frz o (.tup ys)))) ∨ (SqT K H p ys ∧ Q (.ref p) H))
theorem cg_tupleF : CallR X (.type "tuple") (gTupleF X.K) := fun pins s σ H xs us Q I r h => by
  obtain ⟨p, ys, rfl, h⟩ := h
  obtain ⟨u, rfl, rx⟩ := vals1 r; cases rx
  cases h with
  | inr h => obtain ⟨its, _, pl, _⟩ := I.tuple h.1; exact call_tuple_same pl ⟨.ref p, H, I, rfl, h.2⟩
  | inl h =>
    obtain ⟨its, rv, pl, hz⟩ := I.list h.1
    have hl := rv.length
    refine call_tuple_list pl.isList (fun h' kp => ?_) (by rw [List.size_toArray]; omega)
    have J : Inv X pins σ H { s with heap := h' } := I.kept (t' := s.toks) kp
    exact ⟨.ref h'.objs.size, _, J.laid (o := .frz _ (.tup ys)) (t' := s.toks) (fun b o e => Heap.get?_push_of_some _ e) (Nat.le_refl _) ⟨Heap.get?_push_size _ rfl, hz, its, rv, IsTup.new _ _⟩, rfl, h.2 _ _ (J.hok.fresh (Nat.le_refl _)) rfl⟩
/-- t.m(e, ..), t such a tuple -/
def tBMT (r : V → List V → Hp → VK → Prop) (te : TE) (tr : TA) : TE := fun σ H Q => te σ H fun x H1 => (∃ p o ys, x = .ref p ∧ H1 p = some (.frz o (.tup ys)) ∧ o.dict = none) ∧ tr σ H1 fun xs H2 => r x xs H2 Q
theorem pe_bmT {name : Str} {id : String} {r : V → List V → Hp → VK → Prop} {o e : Expr} {es : List Expr} {to : TE} {t : TA} {apos cpos : Pos} (pa : PlainAttrs "tuple") (slot : Slot "tuple" name id) (hty : typeOf (.builtin id) = pure (.type "method_descriptor")) (hm : MtR X id r) (ho : PE X o to) (ha : PA X (e :: es) t) (hbase : attributeBase o name X.env (eval o X.env) = eval o X.env := by rfl)
    (hfew : ((backTo cpos (starEach (e :: es) X.env)).all (fun x => !x.1) && (backToKw cpos (keywordEach [] X.env)).all (fun x => x.1.isSome) && decide ((e :: es).length + ([] : List Keyword).length + (if ([] : List Keyword).isEmpty then 0 else 1) < 30)) = true := by rfl)
    (hline : (apos.endLine == cpos.line) = true := by rfl) (hs : starEach (e :: es) X.env = (false, eval e X.env) :: starEach es X.env := by rfl) (hplain : (backTo cpos (starEach es X.env)).any (·.1) = false := by rfl) : PE X (.Call (.Attribute o name apos) (e :: es) [] cpos) (tBMT r to t) := by
  refine ⟨fun pins s σ H Q I h => wpAny_Call_method_late hbase hfew hline rfl (thn (ho.run pins s σ H _ I h) fun v s1 hx => ?_)⟩
  obtain ⟨x, H1, I1, r1, ⟨p, ob, ys, rfl, hp, hd⟩, q1⟩ := hx
  cases r1
  obtain ⟨ge, _, its, _, o2, ge2, hc, _⟩ := I1.hok p _ hp
  rw [ge] at ge2
  cases ge2
  refine ⟨"tuple", id, pa, slot, hty, ⟨ob, ge, hc⟩, fun a z => by cases z; exact ⟨ob, ge, hd⟩, ?_⟩
  have A := ha.run cpos pins s1 σ H1 _ I1 q1
  rw [hs] at A ⊢
  exact Calls.callWith_builtin (show (false || (backTo cpos (starEach es X.env)).any (·.1)) = false by rw [hplain]; rfl) (Calls.evalArgs_plain (thn A fun us s2 ⟨vs, H2, I2, r2, q2⟩ => hm pins s2 σ H2 (.ref p) vs (.ref p) us Q I2 (show RelV (V.ref p) (Value.ref p) from rfl) r2 q2))
end

/-! len(o), bool(o) by own methods; comprehensions with two fors. -/
section
variable {X : Cx} {n m k j : Nat} {C : Addr} {sp : Sp}
/-- len(o) -/
def gLenO (C : Addr) (sp : Sp) : List V → Hp → VK → Prop := fun xs H Q => ∃ p dx fs, xs = [.ref p] ∧ H p = some (.ins C dx fs) ∧ sp [.ref p] H (fun v H' => ∃ t : Nat, v = .int t ∧ t < 1000000 ∧ Q (.int t) H') C8.E0
theorem cr_lenO (c : C8.Met X.prog X.w X.K X.mg X.base k C "__len__" sp []) (hr : Room j X.A) (hk : k + 1 ≤ j) : CallR X (.builtin "len") (gLenO C sp) := by
  intro pins s σ H xs us Q I r h; obtain ⟨p, dx, fs, rfl, ha, hs⟩ := h
  obtain rfl := Vals.ref1 r
  obtain ⟨f, fd, ps, ds, hc, hm, F, bd, dd⟩ := c.ex
  obtain ⟨mA, O, _⟩ := ins_get I.hok ha; obtain ⟨od, J, _⟩ := O.look
  have sb : Sub X (k + 1) X.A := ⟨hr.mono hk, rfl⟩
  refine Calls.call_function_entry kind_len plain_len entry_len (args_len1 _) ?_; unfold Builtin.«len»
  refine wpAny_bind (m := oneArg "len" _) (wpAny_pure ?_); refine wpAny_bind (m := callSpecial? (.ref p) (Str.ofString "__len__")) (PySem.W.special_fn I.kIn J hm.at_ (beq_iff_eq.mp hm.fn) (wpAny_mono (run_sub F sb.in1 bd dd I (vs := [.ref p]) (.cons rfl .nil) (by rw [List.append_nil]; exact hs)) (fun r s' hr => ?_) fun _ _ y => y))
  obtain ⟨z, H', I', rz, t, ez, ht, q⟩ := hr
  subst ez
  obtain ⟨tk, rfl⟩ := rz
  refine wpAny_bind (wpAny_holding (wpAny_pure ?_)); refine wpAny_bind (wpAny_letGo ?_)
  show wpAny _ _ (if (t : Int) < 0 then _ else _) _ _ _
  rw [if_neg (by omega)]
  show wpAny _ _ (if (t : Int) ≥ 2 ^ 63 then _ else _) _ _ _
  rw [if_neg (by omega)]
  exact wpAny_bind (wpAny_mkInt (wpAny_pure ⟨_, rfl, V.int t, H', I'.tok _, ⟨_, rfl⟩, q⟩))
/-- bool(o) -/
def gBoolM (C : Addr) (sp : Sp) : List V → Hp → VK → Prop := fun xs H Q => ∃ p dx fs, xs = [.ref p] ∧ H p = some (.ins C dx fs) ∧ ∃ b, sp [.ref p] H (fun v H' => v = .bl b ∧ H' = H) C8.E0 ∧ Q (.bl b) H
theorem cg_boolM (c : C8.Met X.prog X.w X.K X.mg X.base k C "__bool__" sp []) (hr : Room j X.A) (hk : k + 2 ≤ j) : CallR X (.type "bool") (gBoolM C sp) := by
  intro pins s σ H xs us Q I r h; obtain ⟨p, dx, fs, rfl, ha, b, hs, q⟩ := h
  obtain rfl := Vals.ref1 r
  obtain ⟨f, fd, ps, ds, hc, hm, F, bd, dd⟩ := c.ex
  obtain ⟨mA, O, _⟩ := ins_get I.hok ha; obtain ⟨od, J, _⟩ := O.look
  have sb : Sub X (k + 2) X.A := ⟨hr.mono hk, rfl⟩
  refine callType_newIn PySem.F.called_bool PySem.F.newNe_bool (PySem.F.typeCall_bool_1 _) (PySem.F.newCall_bool_1 _) (fun obj => PySem.F.args_object_init_2 obj _) PySem.F.entry_bool_new (GE.meetsIn_bool (.ref p)) ?_
  unfold truthy
  refine wpAny_bind (m := callSpecial? (.ref p) (Str.ofString "__bool__")) (PySem.W.special_fn I.kIn J hm.at_ (beq_iff_eq.mp hm.fn) (wpAny_mono (run_sub F sb.in1.in1 bd dd I (vs := [.ref p]) (.cons rfl .nil) (by rw [List.append_nil]; exact hs)) (fun r s' hr => ?_) fun _ _ y => y))
  obtain ⟨z, H', I', rz, ez, eh⟩ := hr
  subst ez eh
  cases rz
  exact wpAny_pure ⟨rfl, V.bl b, _, I', rfl, q⟩
end

/-! try: .. except (A, B, C) as n: ..; what an except suite reads of the error; a def called there. -/
/-- e.n, e the error that is handled: at a, of the class cls, its dict at d -/
def tXfA (K : PySem.W.Frag) (a : Addr) (cls : Value) (d : Option Addr) (n : Str) (te : TE) : TE := fun σ H Q => te σ H fun x H1 => x = .ref a ∧
  ∃ (C dd : Addr) (fs : List (Str × V)) (v : V), cls = .ref C ∧ XfC K C ∧ PySem.W.findIn K (.ref C) n = some none ∧ d = some dd ∧ H1 dd = some (.xd fs) ∧ fs.lookup n = some v ∧ Q v H1
section
variable {X : Cx} {a : Addr} {oe : Obj} {cls : Value} {d : Option Addr} {e : Expr} {te : TE} {pos : Pos} {n : Str}
theorem pe_xfA (hp : (a, oe) ∈ X.pn) (hz : Zc cls d oe) (hf : ∃ vs, oe.data = .fields vs) (he : PE X e te) (hb : attributeBase e n X.env (eval e X.env) = eval e X.env := by rfl) : PE X (.Attribute e n pos) (tXfA X.K a cls d n te) := by
  refine ⟨fun pins s σ H Q I h => attr_of hb (thn (he.run pins s σ H _ I h) fun u s1 ⟨x, H1, I1, rx, ex, C, dd, fs, v, ec, T, hno, ed, ea, l, q⟩ => ?_)⟩
  subst ex ec ed; obtain rfl : u = Value.ref a := rx
  have ha := (I1.pin (a, oe) (List.mem_append_left _ hp)).1
  obtain ⟨vs, hd⟩ := hf; obtain ⟨mA, hns, hr⟩ := (show ObjOk X.prog X.w H1 s1.heap dd (.xd fs) from I1.hok dd _ ea)
  obtain ⟨od, ho, hl⟩ := lookIn_ns hns; obtain ⟨u, hu, ru⟩ := RelO.some_of (v := v) (o := mA n) (by rw [← l]; exact hr n); have J : PySem.W.InstAt s1.heap a oe C (some od) := ⟨ha, hz.1, by unfold PySem.W.notCls; rw [hd] <;> rfl, by rw [hz.2]; exact ho⟩; exact HandSPX.exc_get I1.kIn J T.ga T.gg T.exC (PySem.W.findObj_own T.hdC hno rfl (by rw [hl, hu])) (handed_of ru) ⟨v, H1, I1.tok _, ru, q⟩
end
/-! ### a def called while an error is handled -/
structure FnE (P : Program) (w : World) (K : PySem.W.Frag) (mg : Str → Option Value) (base : Heap) (k : Nat) (f : Addr) (fd : FuncData) (ps : List Str) (sp : Addr → Value → Option Addr → Sp) : Prop where
  len : ∀ a cls d vs H Q E, sp a cls d vs H Q E → vs.length = ps.length
  run : ∀ (A : Around) (outer : List Env) (s : Shared) (H : Hp) (args : Args) (us : List Value) (vs : List V) (Q : VK) (p : Addr × Obj) (cls : Value) (d : Option Addr), L2H.RoomH k A → L2H.PinOk outer H s p → Zc cls d p.2 → (∃ vs, p.2.data = .fields vs) → Env0 P w K mg base A outer s H → BindsTo s fd args (ps.zip us) → Vals vs us →
    sp p.1 cls d vs H Q C8.E0 → codeAny (model P w) A (.call (.ref f) args) (CR C8.CX0 outer P w H s Q C8.E0) s
theorem fnE_of {P : Program} {w : World} {K : PySem.W.Frag} {mg : Str → Option Value} {base : Heap} {k : Nat} {f : Addr} {name qual : Str} {params : Arguments} {body : List Stmt} {scope : Scope} {dV kV doc pm cdv ct oc : Value} {an od : Option Addr} {osl : Array (Option Value)} {N ps : List Str} {sp : Addr → Value → Option Addr → Sp}
    (lk : K.lookup f = some ⟨oc, od, .func (PySem.W.fnOf name qual params body scope dV kV doc pm an cdv ct), osl⟩) (hcd : PySem.W.codeIn K cdv qual = true) (S : FnScope N ps scope) (len : ∀ a cls d vs H Q E, sp a cls d vs H Q E → vs.length = ps.length)
    (hbody : ∀ (A : Around) (outer : List Env) (s : Shared) (H : Hp) (vs : List V) (Q : VK) (p : Addr × Obj) (cls : Value) (d : Option Addr), (A.deeper (envOfC qual scope s.heap.objs.size f cdv)).units + 64 < cLine → Zc cls d p.2 → (∃ vs, p.2.data = .fields vs) → sp p.1 cls d vs H Q C8.E0 →
      ∃ t, PSs (L2H.cxH C8.CX0 P w K mg base N qual scope f cdv A outer s H C8.E0 p).nox body t ∧ t { nx := fun _ H' => Q .non H', rt := Q } (L2.start N vs) H) :
    FnE P w K mg base (k + 1) f (PySem.W.fnOf name qual params body scope dV kV doc pm an cdv ct) ps sp := by
  refine ⟨len, fun A outer s H args us vs Q p cls d hr hpin hz hf e0 hb r hsp => ?_⟩
  have hl := len _ _ _ _ _ _ _ hsp; have kin : K.In s.heap := e0.mod.kin.keeps fun b o e => (e0.bs b o e).1
  have nol : s.heap.NoLimit := e0.mod.nolimit.keeps fun b o e => (e0.bs b o e).1
  have kinds : ∀ y ∈ ps.zip us, scope.names.lookup y.1 = some .local ∨ (scope.names.lookup y.1 = some .cell ∧ ((cellsFrom (s.heap.objs.size + 1) scope.names []).lookup y.1).isSome = true) := fun ⟨n, v⟩ hy =>
    (S.par n (List.of_mem_zip hy).1).imp id fun q => ⟨q, PySem.W.cellsFrom_some _ _ _ (.inl q)⟩
  refine codeAny_call_function hr.depth (kin _ _ lk) rfl S.co S.gen rfl (PySem.W.codeRec_of kin hcd) (hb _ _ _ _ (wpAny_newFunctionEnv_cells S.kind kinds fun env he s1 x => ?_))
  subst he
  refine ⟨nol.keeps x.toInCall.keep, codeAny_func ?_⟩
  obtain ⟨t, ht, hq⟩ := hbody A outer s H vs Q p cls d (by have := (hr.deeper (envOfC qual scope s.heap.objs.size f cdv)).un; omega) hz hf hsp
  have I : Inv (L2H.cxH C8.CX0 P w K mg base N qual scope f cdv A outer s H C8.E0 p) [] (L2.start N vs) H s1 := L2H.inv_startH S hpin e0 hl r x
  refine wpAny_mono (ht.nox.run [] s1 (L2.start N vs) H _ I hq) (fun fl s' hs => ?_) fun e s' hs => hs
  cases fl with
  | ret u => obtain ⟨v, σ', H', J, rv, q⟩ := hs; exact ⟨v, H', J.os, J.bare, J.base, J.hok, rv, q⟩
  | next => obtain ⟨σ', H', J, q⟩ := hs; exact ⟨V.non, H', J.os, J.bare, J.base, J.hok, rfl, q⟩
  | brk => exact hs.choose_spec.choose_spec.2.elim
  | cont => exact hs.choose_spec.choose_spec.2.elim
/-- x(e), in an except suite: the def reads the error -/
def tCallE (sp : Sp) (ta : TA) : TE := fun σ H Q => ta σ H fun vs H1 => sp vs H1 Q C8.E0
theorem pe_callE {X : Cx} {a : Addr} {oe : Obj} {cls : Value} {d : Option Addr} {k : Nat} {f : Addr} {fd : FuncData} {ps : List Str} {sp : Addr → Value → Option Addr → Sp} {x : Str} {q pos : Pos} {e : Expr} {es : List Expr} {t : TA} (F : FnE X.prog X.w X.K X.mg X.base k f fd ps sp) (hr : L2H.RoomH k X.A)
    (hp : (a, oe) ∈ X.pn) (hz : Zc cls d oe) (hf : ∃ vs, oe.data = .fields vs) (hg : Gl X x) (hm : X.mg x = some (.ref f)) (hk : PySem.W.keepIn X.K (.ref f) = true) (hb : Binds X.K fd ps []) (ha : PA X (e :: es) t) (hdb : (x == ("__debug__" : Str)) = false := by decide)
    (he : starEach (e :: es) X.env = (false, eval e X.env) :: starEach es X.env := by rfl) (hpl : (backTo pos (starEach es X.env)).any (·.1) = false := by rfl) : PE X (.Call (.Name x q) (e :: es) [] pos) (tCallE (sp a cls d) t) := by
  refine ⟨fun pins s σ H Q I h => wpAny_Call_Name_kw (ld_glob I hg hm ?_ hdb)⟩
  refine PySem.W.callWith_K (h₀ := X.base) I.ok.mod.kin hk (thn (ha.run pos pins s σ H _ I h) fun us s1 ⟨vs, H1, I1, r, q⟩ => ⟨I1.kIn, ?_⟩) he hpl; have hl : us.length = ps.length := by rw [← r.length]; exact F.len _ _ _ _ _ _ _ q
  have b := hb s1 us I1.kIn (by rw [List.append_nil]; exact hl); rw [List.append_nil] at b
  have P1 := I1.pin (a, oe) (List.mem_append_left _ hp)
  have hpin : L2H.PinOk X.stack H1 s1 (a, oe) := ⟨P1.1, P1.2.1, fun hm => (List.mem_cons.mp (I1.stkSub a hm)).elim P1.2.2.1 P1.2.2.2.1, P1.2.2.2.2⟩
  refine wpAny_call (codeAny_mono (F.run X.A X.stack s1 H1 ⟨us, []⟩ us vs Q (a, oe) cls d hr hpin hz hf I1.env0 b r q) fun r s' hq => ?_)
  cases r with
  | error _ => exact False.elim hq
  | ok fl => cases fl <;> first | exact I1.after hq | exact False.elim hq
/-! ### except (x1, x2, x3) as n -/
theorem flyZ_keeps {B h h' : Heap} {l : List Env} {e : Addr} {Z : Obj → Prop} (R : HandSPX.FlyingZ B l e Z h) (k : ∀ b o, h.get? b = some o → h'.get? b = some o) : HandSPX.FlyingZ B l e Z h' := by
  obtain ⟨f1, f2, f3, oe, vs, T, oT, ts, he, hz, hd, h1, hn, hne, hT, hdT, h3⟩ := R
  exact ⟨fun b o q => k b o (f1 b o q), f2, f3.of_keeps fun b o q _ => ⟨o, k b o q, rfl⟩, oe, vs, T, oT, ts, k _ _ he, hz, hd, h1, hn, hne, k _ _ hT, hdT, h3⟩
/-- what the clause wishes: slot i is n's -/
def wAsT (K : PySem.W.Frag) (cs : List Value) (i : Nat) (ts : Addr → Value → Option Addr → TS) (D : Ends) : WX := fun cls d σ H =>
  PySem.W.exmAny K cls cs = some true ∧ ∀ a, H a = none → ts a cls d { nx := fun σ' H' => D.nx (σ'.set i none) H', rt := D.rt, bk := fun σ' H' => D.bk (σ'.set i none) H', ct := fun σ' H' => D.ct (σ'.set i none) H' } (σ.set i (some (.ref a))) H
section
variable {X : Cx} {x1 x2 x3 n : Str} {c1 c2 c3 : Value} {i kk : Nat} {body suite : List Stmt} {b₀ : Stmt} {p1 p2 p3 tpos pos pos' : Pos} {tb : WX → TS} {ts : Addr → Value → Option Addr → TS}
theorem ps_try_asT (hs : X.stack = X.env :: X.outer) (hf : X.env.frame = some X.env.locals) (hN : X.N.Nodup) (hi : X.N[i]? = some n) (hln : X.env.kindOf n = some .local) (hc1 : Names X x1 c1) (hc2 : Names X x2 c2) (hc3 : Names X x3 c3)
    (hb : ∀ (W : WX) (pn : List (Addr × Obj)) (xe : Value → Shared → Prop), Takes (X.tr pn xe) W → PSs (X.tr pn xe) body (tb W))
    (hsu : ∀ (a : Addr) (oe : Obj) (cls : Value) (d : Option Addr) (more : List (Addr × Obj)), Zc cls d oe → (∃ vs, oe.data = .fields vs) → PSs (X.suite a ((a, oe) :: more)) (b₀ :: suite) (ts a cls d)) :
    PS X (.Try body [.ExceptHandler (some (.Tuple [.Name x1 p1, .Name x2 p2, .Name x3 p3] kk tpos)) (some n) (b₀ :: suite) pos'] [] [] pos) (fun D σ H => tb (wAsT X.K [c1, c2, c3] i ts D) D σ H) := by
  refine ⟨fun pins s σ H D I h => wpAny_Try_except ?_⟩
  have ok := I.ok; have hfr : X.A.frames = some (X.env :: X.outer) := by rw [ok.frames, hs]
  refine wpAny_mono ((hb (wAsT X.K [c1, c2, c3] i ts D) (X.pn ++ pins) (fun e s₁ => wpAny (model X.prog X.w) X.A (noteFrame e X.env) (fun _ s₂ => wpAny (model X.prog X.w) X.A (setFlight e none) (fun _ s₃ =>
    wpAny (model X.prog X.w) X.A (handleBy e X.env [.ExceptHandler (some (.Tuple [.Name x1 p1, .Name x2 p2, .Name x3 p3] kk tpos)) (some n) (b₀ :: suite) pos']) (SP X pins D) X.xe s₃) X.xe s₂) X.xe s₁) (fun u s' xx => ?_)).run [] s σ H D (I.toTry _) h) (fun f s1 hsp => ?_) (fun e s1 he => he)
  · obtain ⟨a, B, sI, pins', σ', H', cls, d, rfl, J', nb, up, sky, na, os, ag, hit, yes⟩ := xx
    have J : Inv X pins σ' H' sI := J'.ofTry ok; have sky' : Sky B (X.env :: X.outer) a (Zc cls d) X.env.locals s'.heap := by rw [← hs]; exact sky
    refine Sky.land Zc.steady hfr hf sky' fun h3 fl3 up3 => ?_; have J3 : Inv X pins σ' H' { s' with heap := h3 } := J.landed nb fl3.1 (up.trans up3) os ag; obtain ⟨oe3, vs3, he3, hz3, hd3⟩ := fl3.there
    have nfr : a ∉ frs (X.env :: X.outer) := fun hm => by obtain ⟨_, o', e', hnf⟩ := fl3.2.2.1.mem hm; rw [he3] at e'; cases e'; exact hnf _ hd3
    obtain ⟨nL, nF⟩ : a ≠ X.env.locals ∧ a ∉ X.fs := ⟨fun z => nfr (List.mem_filterMap.mpr ⟨X.env, List.mem_cons_self, by rw [hf, z]⟩), fun hm => by obtain ⟨e, he, q⟩ := List.mem_filterMap.mp hm; exact nfr (List.mem_filterMap.mpr ⟨e, List.mem_cons_of_mem _ he, q⟩)⟩
    have S3 := J3.suite he3 hd3 na nL nF; refine wpAny_handleBy_cons (codeAny_handlers_test ?_) (fun q => nomatch q)
    have name : ∀ {x : Str} {c : Value} {p : Pos} {Q : Value → Shared → Prop} {E : Value → Shared → Prop}, Names X x c → Q c { s' with heap := h3 } → wpAny (model X.prog X.w) (X.A.mark (some (.ref a))) (eval (.Name x p) X.env) Q E { s' with heap := h3 } := fun hc q => by
      rcases hc.2.2 with own | ⟨none', boot, other⟩
      · exact ld_glob S3 hc.1 own q hc.2.1
      · exact ld_blt S3 hc.1 none' boot q other hc.2.1
    refine wpAny_Tuple (wpAny_items_cons (name hc1 (wpAny_items_cons (name hc2 (wpAny_items_cons (name hc3 (wpAny_items_nil ⟨by size_fits, ?_⟩)))))))
    have kp : ∀ q o, h3.get? q = some o → (h3.push { cls := .type "tuple", data := .seq [c1, c2, c3].toArray }).get? q = some o := fun _ _ z => Heap.get?_push_of_some _ z
    have LT : PySem.W.Looks (model X.prog X.w) (h3.push { cls := .type "tuple", data := .seq [c1, c2, c3].toArray }) (typeOf (.ref a)) cls := fun A Q E s k q => wpAny_typeOf_ref (k _ _ (kp _ _ he3)) (by rw [hz3.1]; exact q)
    refine (PySem.W.exm_tup3 (J3.kIn.keeps kp) LT (Heap.get?_push_size h3 rfl) hit).here ?_
    refine codeAny_handlers_suite_as (HandSPX.lands_againZ (flyZ_keeps fl3 kp) fun h4 fl4 up4 => ?_)
    have J4 : Inv X pins σ' H' { s' with heap := h4 } := J.landed nb fl4.1 (((up.trans up3).trans (Heap.UpToSlots.of_keeps kp)).trans up4) os ag
    obtain ⟨oe4, vs4, he4, hz4, hd4⟩ := fl4.there; refine store_ok (X := X.suite a ((a, oe4) :: (X.pn ++ pins))) (v := .ref a) (J4.suite he4 hd4 na nL nF) hN hi (.inl hln) rfl (fun s5 S5 => ?_) (.inr hln)
    refine wpAny_mono ((hsu a oe4 cls d (X.pn ++ pins) hz4 ⟨_, hd4⟩).run [] s5 _ H' _ S5 (yes a na)) (fun f s6 hsp => ?_) (fun _ _ z => False.elim z)
    have gone : ∀ {σ6 : L2.St} {H6 : Hp} {Q : Shared → Prop}, Inv (X.suite a ((a, oe4) :: (X.pn ++ pins))) [] σ6 H6 s6 → (∀ s7, Inv X pins (σ6.set i none) H6 s7 → Q s7) → wpAny (model X.prog X.w) X.A (do bindName X.env n .none; unbindBehindTheSuite X.env n pos') (fun _ s7 => Q s7) X.xe s6 :=
      fun {σ6 H6 Q} S6 hq => gone_ok (S6.unsuite ok) hN hi hln hq
    cases f with
    | ret u => obtain ⟨v6, σ6, H6, S6, r6, q6⟩ := hsp; exact gone S6 fun s7 J7 => ⟨_, _, _, J7, r6, q6⟩
    | next => obtain ⟨σ6, H6, S6, q6⟩ := hsp; exact gone S6 fun s7 J7 => ⟨_, _, J7, q6⟩
    | brk => obtain ⟨σ6, H6, S6, q6⟩ := hsp; exact gone S6 fun s7 J7 => ⟨_, _, J7, q6⟩
    | cont => obtain ⟨σ6, H6, S6, q6⟩ := hsp; exact gone S6 fun s7 J7 => ⟨_, _, J7, q6⟩
  · cases f with
    | ret u => obtain ⟨v, σ', H', J', r, q⟩ := hsp; exact ⟨v, σ', H', J'.ofTry ok, r, q⟩
    | next => obtain ⟨σ', H', J', q⟩ := hsp; exact wpAny_execs_nil ⟨σ', H', J'.ofTry ok, q⟩
    | brk => obtain ⟨σ', H', J', q⟩ := hsp; exact ⟨σ', H', J'.ofTry ok, q⟩
    | cont => obtain ⟨σ', H', J', q⟩ := hsp; exact ⟨σ', H', J'.ofTry ok, q⟩
end

/-! lambda: e and lambda a=0: e as values; what calling one asks; a def that calls what it got in a try. -/
/-- a lambda's text: no parameter (dflt = false), or one with the default 0 -/
structure LamTx where
  params : Arguments
  body : Expr
  scope : Scope
  dflt : Bool
/-- its names, within a def of the names N and the scope sc -/
structure LamN (N : List Str) (sc : Scope) (T : LamTx) (mk : List Nat) : Prop where
  kind : T.scope.kind = .function
  co : T.scope.isCoroutine = false
  gen : T.scope.isGenerator = false
  nocell : ∀ y ∈ T.scope.names, y.2 ≠ .cell
  own : ∀ y ∈ T.scope.names, y.2 = .local → ∀ i : Nat, N[i]? = some y.1 → i ∈ mk
  free : ∀ y ∈ T.scope.names, y.2 = .free → sc.names.lookup y.1 = some .cell ∨ sc.names.lookup y.1 = some .free
  kwo : T.params.kwonlyargs = []
  d0 : T.dflt = false → (∀ env, defaultsOf T.params env = ([], [])) ∧ ∀ (q : Str) (cl : List (Str × Addr)) (doc pm cv ctv : Value), bindArgs (PySem.W.kdv_fn "<lambda>" q T.params (.expr T.body) T.scope cl .none doc pm cv ctv) ⟨[], []⟩ = pure []
  d1 : T.dflt = true → (∃ (k : Nat) (p : Pos), ∀ env, defaultsOf T.params env = ([eval (.Constant (.int 0) k p) env], [])) ∧ ∃ nm, T.scope.names.lookup nm = some .local ∧ ∀ (D : Addr) (q : Str) (cl : List (Str × Addr)) (doc pm cv ctv : Value) (tk : Tok),
    ∃ k, bindArgs (PySem.W.kdv_fn "<lambda>" q T.params (.expr T.body) T.scope cl (.ref D) doc pm cv ctv) ⟨[], []⟩ = seqItems? (.ref D) >>= k ∧ k (some #[.int 0 tk]) = pure [(nm, .int 0 tk)]
def lamNB (N : List Str) (sc : Scope) (T : LamTx) (mk : List Nat) : Bool :=
  decide (T.scope.kind = .function) && !T.scope.isCoroutine && !T.scope.isGenerator && T.scope.names.all fun y => !decide (y.2 = .cell) && (!decide (y.2 = .local) || (List.range N.length).all fun i => !decide (N[i]? = some y.1) || decide (i ∈ mk)) && (!decide (y.2 = .free) || decide (sc.names.lookup y.1 = some .cell) || decide (sc.names.lookup y.1 = some .free))
/-- the function object, its code at c, the tuple of its defaults at D -/
def lamO (X : Cx) (T : LamTx) (f c D : Addr) : HO := .ext fun h => ∃ doc pm ctv, h.get? f = some (PySem.W.kdv_obj "<lambda>" (X.env.qual ++ "<lambda>") T.params (.expr T.body) T.scope (cloFrom X.env.cells T.scope.names []) (if T.dflt then .ref D else .none) doc pm c ctv)
/-- what readings know of a def's lambdas: the table of its code objects at P, their name q, the objects, which have a default -/
structure LamW where
  P : Addr
  q : Str
  o : Nat → Addr → Addr → Addr → HO
  d : Nat → Bool
def LamW.codes (lw : LamW) (H : Hp) (ps : Array Value) : Prop := TriplesOk ps.toList ∧ ∀ (pos : Pos) (cv : Value), codeAmong pos ps.toList = some cv → ∃ c, cv = .ref c ∧ H c = some (LamX.CodeO c lw.q)
/-- the i-th lambda stands at f -/
def LamAt (lw : LamW) (i : Nat) (H : Hp) (f : Addr) : Prop := ∃ c D, H f = some (lw.o i f c D) ∧ H c = some (LamX.CodeO c lw.q) ∧ (lw.d i = true → H D = some (.tup [.int 0]))
theorem LamAt.ex {lw : LamW} {i : Nat} {H H' : Hp} {f : Addr} (e : Ex H H') (h : LamAt lw i H f) : LamAt lw i H' f := have ⟨c, D, h1, h2, h3⟩ := h; ⟨c, D, e _ _ h1, e _ _ h2, fun z => e _ _ (h3 z)⟩
/-- behind the making of the i-th lambda, at f -/
structure LamNew (lw : LamW) (i : Nat) (H : Hp) (ps : Array Value) (f : Addr) (H1 : Hp) : Prop where
  ex : ∃ (H0 H2 : Hp) (ps' : Array Value) (c D : Addr), ((lw.d i = false ∧ H0 = H) ∨ (lw.d i = true ∧ H D = none ∧ H0 = upd H D (.tup [.int 0]))) ∧
    ((H2 = H0 ∧ ps' = ps ∧ ∃ pos, codeAmong pos ps.toList = some (.ref c)) ∨ (H0 c = none ∧ H2 = upd (upd H0 lw.P (.tbl ps')) c (LamX.CodeO c lw.q) ∧ TriplesOk ps'.toList ∧ ∀ (pos : Pos) (cv : Value), codeAmong pos ps'.toList = some cv → codeAmong pos ps.toList = some cv ∨ cv = .ref c)) ∧
    H2 f = none ∧ H1 = upd H2 f (lw.o i f c D)
def tLamE (lw : LamW) (i : Nat) : TE := fun _ H Q => ∃ ps, H lw.P = some (.tbl ps) ∧ lw.codes H ps ∧ ∀ f H1, LamNew lw i H ps f H1 → Q (.ref f) H1
/-- such a making, over what stays -/
theorem LamNew.stt {lw : LamW} {i j : Nat} {G H H1 : Hp} {L : List (Addr × HO)} {ps : Array Value} {f : Addr} (S : Stt G H L) (hj : L[j]? = some (lw.P, .tbl ps)) (hc : lw.codes G ps) (n : LamNew lw i H ps f H1) :
    ∃ (G1 : Hp) (ps' : Array Value), Ex G G1 ∧ Stt G1 H1 (L.set j (lw.P, .tbl ps')) ∧ lw.codes G1 ps' ∧ LamAt lw i G1 f := by
  obtain ⟨H0, H2, ps', c, D, a1, a2, hf, rfl⟩ := n.ex
  obtain ⟨G0, e0, S0, hD⟩ : ∃ G0, Ex G G0 ∧ Stt G0 H0 L ∧ (lw.d i = true → G0 D = some (.tup [.int 0])) := by
    rcases a1 with ⟨d, rfl⟩ | ⟨d, hn, rfl⟩
    · exact ⟨G, Ex.refl G, S, fun z => by rw [d] at z; cases z⟩
    · exact ⟨_, S.newE hn, S.new hn, fun _ => upd_same⟩
  have hPin : H0 lw.P = some (.tbl ps) := S0.at j hj
  have hPg : G0 lw.P = none := S0.out _ (List.mem_of_getElem? hj)
  obtain ⟨G2, e2, S2, hcc, hcs⟩ : ∃ G2, Ex G0 G2 ∧ Stt G2 H2 (L.set j (lw.P, .tbl ps')) ∧ G2 c = some (LamX.CodeO c lw.q) ∧ lw.codes G2 ps' := by
    have hc0 : lw.codes G0 ps := ⟨hc.1, fun pos cv z => have ⟨c, h1, h2⟩ := hc.2 pos cv z; ⟨c, h1, e0 _ _ h2⟩⟩
    rcases a2 with ⟨rfl, rfl, pos, hcc⟩ | ⟨hn, rfl, ht, hca⟩
    · have es : L.set j (lw.P, .tbl ps') = L := by
        apply List.ext_getElem?
        intro m
        rw [List.getElem?_set]
        by_cases hm : j = m
        · subst hm; rw [if_pos rfl, hj, if_pos (List.getElem?_eq_some_iff.mp hj).1]
        · rw [if_neg hm]
      rw [es]
      obtain ⟨c2, h1, h2⟩ := hc0.2 pos _ hcc
      cases h1
      exact ⟨G0, Ex.refl G0, S0, h2, hc0⟩
    · have S1 : Stt G0 (upd H0 lw.P (.tbl ps')) (L.set j (lw.P, .tbl ps')) := S0.wr j hj
      have hcP : c ≠ lw.P := fun z => by rw [z, hPin] at hn; cases hn
      have hn1 : upd H0 lw.P (.tbl ps') c = none := by rw [upd_ne hcP]; exact hn
      have e2 := S1.newE (o := LamX.CodeO c lw.q) hn1
      refine ⟨_, e2, S1.new (o := LamX.CodeO c lw.q) hn1, upd_same, ht, fun pos cv z => ?_⟩
      rcases hca pos cv z with z | rfl
      · obtain ⟨c2, h1, h2⟩ := hc0.2 pos cv z
        exact ⟨c2, h1, e2 _ _ h2⟩
      · exact ⟨c, rfl, upd_same⟩
  have e3 := S2.newE (o := lw.o i f c D) hf
  refine ⟨_, ps', e0.trans (e2.trans e3), S2.new (o := lw.o i f c D) hf, ⟨hcs.1, fun pos cv z => have ⟨c2, h1, h2⟩ := hcs.2 pos cv z; ⟨c2, h1, e3 _ _ h2⟩⟩, c, D, upd_same, e3 _ _ hcc, fun z => e3 _ _ (e2 _ _ (hD z))⟩
/-! ### the making -/
section
variable {X : Cx} {lw : LamW} {i : Nat} {T : LamTx} {cl : Addr} {pos : Pos}
/-- what is known of a def's code object, at cl, and of the readings' words -/
structure LamX1 (X : Cx) (lw : LamW) (cl : Addr) : Prop where
  tb : LamX.TabB X.base X.mg cl lw.P
  code : X.env.code = .ref cl
  q : lw.q = X.env.qual ++ "<lambda>"
theorem LamN.has {mk : List Nat} (L : LamN X.N X.env.scope T mk) (ok : X.Ok) : ∀ y ∈ T.scope.names, y.2 = .free → ∃ c, X.env.cells.lookup y.1 = some c := fun y hy e => ok.has _ (L.free y hy e)
theorem lamO_ok {P : Program} {w : World} {H : Hp} {h : Heap} {f c D : Addr} {doc pm ctv : Value} (e : h.get? f = some (PySem.W.kdv_obj "<lambda>" (X.env.qual ++ "<lambda>") T.params (.expr T.body) T.scope (cloFrom X.env.cells T.scope.names []) (if T.dflt then .ref D else .none) doc pm c ctv)) : ObjOk P w H h f (lamO X T f c D) :=
  ⟨⟨doc, pm, ctv, e⟩, ⟨_, e⟩, fun h1 h2 ⟨doc, pm, ctv, e⟩ k => ⟨doc, pm, ctv, k _ e⟩⟩
theorem pe_lam {mk : List Nat} (LX : LamX1 X lw cl) (L : LamN X.N X.env.scope T mk) (ho : lw.o i = lamO X T) (hd : lw.d i = T.dflt) : PE X (.Lambda T.params T.body T.scope pos) (tLamE lw i) := by
  refine ⟨fun pins s σ H Q I ⟨ps, hP, hc, q⟩ => ?_⟩
  rw [arm_eval_Lambda]
  -- behind the defaults
  have tail : ∀ (dV : Value) (D : Addr) (H0 : Hp) (s0 : Shared), Inv X pins σ H0 s0 → dV = (if T.dflt then .ref D else .none) → ((lw.d i = false ∧ H0 = H) ∨ (lw.d i = true ∧ H D = none ∧ H0 = upd H D (.tup [.int 0]))) →
      wpAny (model X.prog X.w) X.A (makeTail "<lambda>" (X.env.qual ++ "<lambda>") T.params (.expr T.body) T.scope X.env dV .none none pos pos.line) (EP X pins σ Q) X.xe s0 := by
    intro dV D H0 s0 I0 edV hH0
    have hP0 : H0 lw.P = some (.tbl ps) := by
      rcases hH0 with ⟨_, rfl⟩ | ⟨_, hn, rfl⟩
      · exact hP
      · rw [upd_ne (ne_of_none hP hn)]; exact hP
    have hc0 : lw.codes H0 ps := by
      rcases hH0 with ⟨_, rfl⟩ | ⟨_, hn, rfl⟩
      · exact hc
      · exact ⟨hc.1, fun pos cv z => have ⟨c, h1, h2⟩ := hc.2 pos cv z; ⟨c, h1, by rw [upd_ne (ne_of_none h2 hn)]; exact h2⟩⟩
    have bP : s0.heap.BuiltinsAt X.mg lw.P := LX.tb.bm.keeps I0.bk
    have gP : s0.heap.get? lw.P = some { cls := .none, data := .fields ps } := I0.hok lw.P _ hP0
    have fin : ∀ (h' : Heap) (c : Addr) (doc pm ctv : Value) (tk : Nat) (H2 : Hp) (ps' : Array Value), Inv X pins σ H2 { s0 with heap := h', toks := tk } → s0.heap.objs.size ≤ h'.objs.size →
        ((H2 = H0 ∧ ps' = ps ∧ ∃ pos, codeAmong pos ps.toList = some (.ref c)) ∨ (H0 c = none ∧ H2 = upd (upd H0 lw.P (.tbl ps')) c (LamX.CodeO c lw.q) ∧ TriplesOk ps'.toList ∧ ∀ (pos : Pos) (cv : Value), codeAmong pos ps'.toList = some cv → codeAmong pos ps.toList = some cv ∨ cv = .ref c)) →
        EP X pins σ Q (.ref h'.objs.size) { s0 with heap := h'.push (PySem.W.kdv_obj "<lambda>" (X.env.qual ++ "<lambda>") T.params (.expr T.body) T.scope (cloFrom X.env.cells T.scope.names []) dV doc pm c ctv), toks := tk } := by
      intro h' c doc pm ctv tk H2 ps' I2 hsz a2
      have hf : H2 h'.objs.size = none := I2.hok.fresh (Nat.le_refl _)
      have I3 : Inv X pins σ (upd H2 h'.objs.size (lw.o i h'.objs.size c D)) { s0 with heap := h'.push (PySem.W.kdv_obj "<lambda>" (X.env.qual ++ "<lambda>") T.params (.expr T.body) T.scope (cloFrom X.env.cells T.scope.names []) dV doc pm c ctv), toks := tk } :=
        I2.laid (t' := tk) (fun b o e => Heap.get?_push_of_some _ e) (Nat.le_refl _) (by rw [ho]; exact lamO_ok (by rw [← edV]; exact Heap.get?_push_size _ rfl))
      exact ⟨.ref h'.objs.size, _, I3, rfl, q _ _ ⟨H0, H2, ps', c, D, hH0, a2, hf, rfl⟩⟩
    cases hca : codeAmong pos ps.toList with
    | none =>
      refine PySem.W.kdv_makeTail (mg := X.mg) (c := cl) (P := lw.P) (ps := ps) (closure_ok (L.has I0.ok)) I0.ok.glob (I0.mod.glob.keeps I0.bk) LX.code (LX.tb.code.keeps I0.bk) gP hc0.1 hca LX.tb.gP bP fun c ctv doc h' tk hx hge hlt hrec htb => ?_
      obtain ⟨c2, oc, vs, t, e2, hoc, hdc, hv⟩ := hrec
      cases e2
      have hsz : s0.heap.objs.size ≤ h'.objs.size := Nat.le_trans hge (Nat.le_of_lt hlt)
      have nC : H0 c = none := I0.hok.fresh hge
      have I1 := LamX.inv_table (t' := tk) (more := #[rawInt pos.line, rawInt pos.col, .ref c]) (h' := h') I0 hP0 (fun b o hb e => hx b o hb e) htb hge ⟨oc, vs, t, hoc, hdc, hv⟩
      rw [← LX.q] at I1
      refine fin h' c doc _ ctv tk _ (ps ++ #[rawInt pos.line, rawInt pos.col, .ref c]) I1 hsz (.inr ⟨nC, rfl, ?_, fun p' cv hcv => ?_⟩)
      · rw [Array.toList_append]
        exact PySem.TriplesOk_snoc _ _ _ _ hc0.1
      · rw [Array.toList_append] at hcv
        exact LamX.among_app _ hc0.1 hcv
    | some cv =>
      obtain ⟨c, rfl, hco⟩ := hc0.2 pos cv hca
      refine PySem.W.kdv_makeTailHit (mg := X.mg) (c := cl) (P := lw.P) (ps := ps) (closure_ok (L.has I0.ok)) I0.ok.glob (I0.mod.glob.keeps I0.bk) LX.code (LX.tb.code.keeps I0.bk) gP hc0.1 hca bP fun ctv doc h' tk hx hsz => ?_
      exact fin h' c doc _ ctv tk H0 ps (I0.kept (t' := tk) hx) hsz (.inl ⟨rfl, rfl, pos, hca⟩)
  cases hdf : T.dflt with
  | false =>
    rw [(L.d0 hdf).1]
    refine wpAny_bind (wpAny_pure (wpAny_bind (wpAny_holding (wpAny_pure ?_))))
    rw [makeFunction_eq]
    simp only [L.kwo, List.zip_nil_left, List.zip_nil_right, List.filterMap_nil, List.isEmpty_nil, if_true, pure_bind]
    exact tail .none 0 H s I (by rw [hdf]; rfl) (.inl ⟨by rw [hd, hdf], rfl⟩)
  | true =>
    obtain ⟨⟨k, p, e1⟩, _⟩ := L.d1 hdf
    rw [e1]
    show wpAny _ _ (evalAll [eval (.Constant (.int 0) k p) X.env] >>= _) _ _ _
    unfold evalAll
    refine wpAny_bind (wpAny_bind (wpAny_Constant_int (wpAny_bind (wpAny_holding (wpAny_pure (wpAny_pure (wpAny_bind (wpAny_holding (wpAny_pure ?_)))))))))
    rw [makeFunction_eq]
    simp only [L.kwo, List.zip_nil_left, List.filterMap_nil, List.isEmpty_nil, List.isEmpty_cons, Bool.false_eq_true, if_false, if_true, pure_bind]
    refine wpAny_bind (wpAny_newTextTuple ?_); have hn : H s.heap.objs.size = none := I.hok.fresh (Nat.le_refl _)
    refine tail (.ref s.heap.objs.size) s.heap.objs.size (upd H s.heap.objs.size (.tup [.int 0])) _ ?_ (by rw [hdf]; rfl) (.inr ⟨by rw [hd, hdf], hn, rfl⟩)
    exact I.laid (t' := s.toks + 1) (fun b o e => Heap.get?_push_of_some _ e) (Nat.le_refl _) ⟨by decide, [.int 0 s.toks], .cons ⟨_, rfl⟩ .nil, IsTup.new _ _⟩
end

/-! Calling a lambda: in the def that got it, or deeper. -/
/-- from the state s of the frames outer on, f may be called (no arguments): tl says what comes of it -/
def CanCall (P : Program) (w : World) (K : PySem.W.Frag) (mg : Str → Option Value) (base : Heap) (k : Nat) (outer : List Env) (s : Shared) (H : Hp) (f : Addr) (tl : XK → Hp → VK → Prop) : Prop :=
  ∀ (A : Around) (outer' : List Env) (s' : Shared) (H' : Hp) (Q : VK) (E : XK), Room k A → Env0 P w K mg base A outer' s' H' → Un (frs outer) [] H H' s.heap s'.heap → tl E H' Q →
    PySem.W.FnAt f s'.heap ∧ codeAny (model P w) A (.call (.ref f) ⟨[], []⟩) (CR (L2.CX P w) outer' P w H' s' Q E) s'
section
variable {X : Cx} {pins : List (Addr × Obj)} {σ : L2.St} {H HZ : Hp} {s s1 : Shared} {T : LamTx} {i k : Nat}
/-- X's cells are at s1 what they were at s, and no objects of HZ -/
def CellsKept (X : Cx) (s : Shared) (HZ : Hp) (s1 : Shared) : Prop := ∀ (y : Str) (c : Addr), X.env.cells.lookup y = some c → (∀ o, s.heap.get? c = some o → ∃ sl, s1.heap.get? c = some { o with slots := sl }) ∧ HZ c = none
theorem kept_un (I : Inv X pins σ H s) (un : Un (frs X.stack) [] H HZ s.heap s1.heap) : CellsKept X s HZ s1 := fun y c e =>
  ⟨fun o ho => un.any ho (I.freeC y c e) (by simp), have ⟨_, o, ho, _⟩ := I.cell y c e; un.free c o ho (I.freeC y c e) (by simp)⟩
/-- the state at the entry of the lambda's body -/
theorem lam_entry {A : Around} {outer : List Env} {E : XK} {f c : Addr} {h₁ : Heap} {tk : Nat} {bs : List (Str × Value)} {mk : List Nat} (I : Inv X pins σ H s) (L : LamN X.N X.env.scope T mk) (hmk : ∀ i ∈ mk, ∀ v, σ[i]? ≠ some (some v)) (e0 : Env0 X.prog X.w X.K X.mg X.base A outer s1 HZ) (hd : A.handled = none)
    (ck : CellsKept X s HZ s1) (hns : h₁.Ns s1.heap.objs.size fun y => bs.reverse.lookup y) (kp : ∀ b o, s1.heap.get? b = some o → h₁.get? b = some o) :
    Inv (LamX.lamCx X A outer s1 HZ E T.scope f c) [] σ HZ { s1 with heap := h₁, toks := tk } := by
  have hfree := L.has I.ok
  have cm : ∀ {y c}, (cloFrom X.env.cells T.scope.names []).lookup y = some c → X.env.cells.lookup y = some c := fun {y c} e => by
    obtain hm | ⟨h1, h2⟩ := cloFrom_mem (PySem.mem_of_lookup e)
    · cases hm
    · obtain ⟨c1, hc⟩ := hfree _ h1 rfl; have hc : X.env.cells.lookup y = some c1 := hc
      rw [show c = c1 by rw [h2, hc] <;> rfl]; exact hc
  have look : ∀ {y}, T.scope.names.lookup y = some .free → ∃ c, (cloFrom X.env.cells T.scope.names []).lookup y = some c := fun {y} hl =>
    mem_lookup (cloFrom_has (cells := X.env.cells) (acc := []) (show (y, NameKind.free) ∈ T.scope.names from PySem.mem_of_lookup hl))
  have stays : ∀ {y : Str} {x : Addr} {u : Option Value}, X.env.cells.lookup y = some x → s.heap.IsCell x u → h₁.IsCell x u := fun {y x u} e ⟨o, ho, hd⟩ => by
    obtain ⟨sl, q⟩ := (ck y x e).1 o ho; exact ⟨_, kp _ _ q, hd⟩
  have noA : ∀ b : Addr, b ∉ (LamX.lamCx X A outer s1 HZ E T.scope f c).ex := fun b z => by cases (show b ∈ ([] : List Addr) from z)
  refine ⟨⟨e0.mod, L.kind, rfl, rfl, Nat.le_refl _, fun y z c e1 e2 => I.ok.inj y z c (cm e1) (cm e2), fun y hy => ?_, fun y c z _ => Bool.noConfusion (show false = true from z), fun _ => hd, Around.frames_deeper e0.frames, .inr ⟨rfl, rfl⟩, fun b z => absurd z (noA b), e0.bs, e0.bsz, fun b _ _ => noA b, fun b z => absurd z (noA b), e0.funs, e0.frf⟩,
    rfl, e0.bare, Un.kept kp, ⟨_, hns, fun i y v e1 e2 e3 => ?_⟩, fun y c e => ?_, e0.hok.fresh (Nat.le_refl _), fun y c e => ?_, fun q hq => by simp [LamX.lamCx] at hq, e0.hok.kept kp, I.len⟩
  · rcases (show T.scope.names.lookup y = some .cell ∨ T.scope.names.lookup y = some .free from hy) with hy | hy
    · exact absurd rfl (L.nocell _ (PySem.mem_of_lookup hy))
    · exact look hy
  · rcases (show Vis T.scope y from e3) with k | k | k
    · exact absurd e2 (hmk i (L.own _ (PySem.mem_of_lookup k) rfl i e1) v)
    · exact absurd rfl (L.nocell _ (PySem.mem_of_lookup k))
    · obtain ⟨m, hn, hl⟩ := I.loc
      have fr := L.free _ (PySem.mem_of_lookup k) rfl
      obtain ⟨w', r, q⟩ := hl i y v e1 e2 (.inr fr)
      obtain ⟨c2, h2⟩ := look k
      refine ⟨w', r, .inr ⟨.inr k, c2, h2, ?_⟩⟩; rcases q with ⟨k', _⟩ | ⟨_, c3, e', z⟩
      · rcases fr with k2 | k2 <;> (have z := (show X.env.scope.names.lookup y = _ from k2).symm.trans (show X.env.scope.names.lookup y = some .local from k'); cases z)
      · have e4 := cm h2
        rw [show X.env.cells.lookup y = _ from e'] at e4
        cases e4
        exact stays e' z
  · have ⟨w', z⟩ := I.cell y c (cm e); exact ⟨w', stays (cm e) z⟩
  · exact (ck y c (cm e)).2
/-- a lambda of the def that runs at s, called at s' -/
theorem run_lam {mk : List Nat} {lw : LamW} {tb : XK → TE} (I : Inv X pins σ H s) (L : LamN X.N X.env.scope T mk) (ho : lw.o i = lamO X T) (hd : lw.d i = T.dflt) (hq : lw.q = X.env.qual ++ "<lambda>") {f : Addr}
    (hbody : ∀ (A : Around) (outer : List Env) (s : Shared) (H : Hp) (E : XK) (f c : Addr), Room k (A.deeper (LamX.lamEnv X T.scope s.heap.objs.size f c)) → PE (LamX.lamCx X A outer s H E T.scope f c) T.body (tb E))
    {A : Around} {outer' : List Env} {s' : Shared} {H' : Hp} {Q : VK} {E : XK} (hr : Room (k + 1) A) (e0 : Env0 X.prog X.w X.K X.mg X.base A outer' s' H') (ck : CellsKept X s H' s') (la : LamAt lw i H' f) (ht : tb E (wipe σ mk) H' Q) :
    PySem.W.FnAt f s'.heap ∧ codeAny (model X.prog X.w) A (.call (.ref f) ⟨[], []⟩) (CR (L2.CX X.prog X.w) outer' X.prog X.w H' s' Q E) s' := by
  obtain ⟨c, D, hf, hc, hD⟩ := la
  rw [ho] at hf
  obtain ⟨⟨doc, pm, ctv, of⟩, _, _⟩ := (show ObjOk X.prog X.w H' s'.heap f (lamO X T f c D) from e0.hok f _ hf)
  obtain ⟨⟨oc, vs, t, hoc, hdc, hvc⟩, _, _⟩ := (show ObjOk X.prog X.w H' s'.heap c (LamX.CodeO c lw.q) from e0.hok c _ hc)
  rw [hq] at hvc
  have lim : s'.heap.NoLimit := e0.mod.nolimit.keeps fun b o e => (e0.bs b o e).1
  refine ⟨⟨_, _, _, _, of⟩, ?_⟩
  have go : ∀ (bs : List (Str × Value)), (∀ y ∈ bs, T.scope.names.lookup y.1 = some .local) → (∀ (Q' : List (Str × Value) → Shared → Prop) (E' : Value → Shared → Prop), Q' bs s' → wpAny (model X.prog X.w) A.in1 (bindArgs (PySem.W.kdv_fn "<lambda>" (X.env.qual ++ "<lambda>") T.params (.expr T.body) T.scope (cloFrom X.env.cells T.scope.names []) (if T.dflt then .ref D else .none) doc pm (.ref c) ctv) ⟨[], []⟩) Q' E' s') →
      codeAny (model X.prog X.w) A (.call (.ref f) ⟨[], []⟩) (CR (L2.CX X.prog X.w) outer' X.prog X.w H' s' Q E) s' := by
    intro bs hl hbi
    refine PySem.W.kla_callFunE hr.depth of rfl L.co L.gen rfl ⟨c, oc, vs, t, rfl, hoc, hdc, hvc⟩ (hbi _ _ ?_)
    refine wpAny_newFunctionEnv L.nocell hl (fun h₁ hns hsb => ⟨lim.fresh _ hsb, ?_⟩) L.kind
    have kp : ∀ b o, s'.heap.get? b = some o → h₁.get? b = some o := fun b o e => hsb.extBut b o (Nat.ne_of_lt (Heap.lt_size e)) (Heap.get?_push_of_some _ e)
    have J := lam_entry (E := E) (f := f) (c := c) (tk := s'.toks + bs.length) (I.weak (wipe_length σ mk) fun j v e => (wipe_some e).1) L (fun i hi v e => (wipe_some e).2 hi) e0 hr.hd ck hns kp
    refine PySem.W.kla_codeExpr (wpAny_mono ((hbody A outer' s' H' E f c (hr.deeper _)).run [] _ _ H' Q J ht) (fun v s2 ⟨w', H2, J', rv, q⟩ => ?_) fun e s2 hq => hq)
    exact ⟨w', H2, J'.os, J'.bare, J'.base, J'.hok, rv, q⟩
  cases hdf : T.dflt with
  | false =>
    refine go [] (fun y hy => by cases hy) fun Q' E' q => ?_
    rw [hdf, show (if false = true then Value.ref D else Value.none) = Value.none from rfl, (L.d0 hdf).2]
    exact wpAny_pure q
  | true =>
    obtain ⟨_, nm, hnm, hb⟩ := L.d1 hdf
    obtain ⟨_, its, rv, oD, hoD, _, n, hdD⟩ := (show ObjOk X.prog X.w H' s'.heap D (.tup [.int 0]) from e0.hok D _ (hD (by rw [hd, hdf])))
    cases rv with
    | cons r rn =>
      cases rn
      obtain ⟨tk, rfl⟩ := r
      obtain ⟨kk, e1, e2⟩ := hb D (X.env.qual ++ "<lambda>") (cloFrom X.env.cells T.scope.names []) doc pm (.ref c) ctv tk
      refine go [(nm, .int 0 tk)] (fun y hy => by rw [List.mem_singleton.mp hy]; exact hnm) fun Q' E' q => ?_
      rw [hdf, show (if true = true then Value.ref D else Value.none) = Value.ref D from rfl, e1]
      exact wpAny_bind (wpAny_seqItems hoD hdD (by rw [e2]; exact wpAny_pure q))
theorem can_lam {mk : List Nat} {lw : LamW} {tb : XK → TE} (I : Inv X pins σ H s) (L : LamN X.N X.env.scope T mk) (ho : lw.o i = lamO X T) (hd : lw.d i = T.dflt) (hq : lw.q = X.env.qual ++ "<lambda>") {f : Addr}
    (hbody : ∀ (A : Around) (outer : List Env) (s : Shared) (H : Hp) (E : XK) (f c : Addr), Room k (A.deeper (LamX.lamEnv X T.scope s.heap.objs.size f c)) → PE (LamX.lamCx X A outer s H E T.scope f c) T.body (tb E)) :
    CanCall X.prog X.w X.K X.mg X.base (k + 1) X.stack s H f (fun E H' Q => LamAt lw i H' f ∧ tb E (wipe σ mk) H' Q) :=
  fun A outer' s' H' Q E hr e0 un ⟨la, ht⟩ => run_lam I L ho hd hq hbody hr e0 (kept_un I un) la ht
end
/-- one frame deeper -/
theorem CanCall.deeper {P : Program} {w : World} {K : PySem.W.Frag} {mg : Str → Option Value} {base : Heap} {k : Nat} {outer : List Env} {env : Env} {s s2 : Shared} {H H2 : Hp} {f : Addr} {tl : XK → Hp → VK → Prop} (c : CanCall P w K mg base k outer s H f tl)
    (un : Un (frs outer) [] H H2 s.heap s2.heap) (hl : ∀ L, env.frame = some L → s.heap.objs.size ≤ L) : CanCall P w K mg base k (env :: outer) s2 H2 f tl := by
  intro A outer' s' H' Q E hr e0 un2 ht
  have nin : ∀ {b : Addr} {o : Obj}, s.heap.get? b = some o → b ∉ frs outer → b ∉ frs (env :: outer) := fun {b o} e hb hm => by
    obtain ⟨v, hv, q⟩ := List.mem_filterMap.mp hm; rcases List.mem_cons.mp hv with rfl | hv
    · exact Nat.lt_irrefl _ (Nat.lt_of_lt_of_le (Heap.lt_size e) (hl _ q))
    · exact hb (List.mem_filterMap.mpr ⟨v, hv, q⟩)
  have inn : ∀ {b : Addr}, b ∈ frs outer → b ∈ frs (env :: outer) := fun {b} hm => by
    obtain ⟨v, hv, q⟩ := List.mem_filterMap.mp hm
    exact List.mem_filterMap.mpr ⟨v, List.mem_cons_of_mem _ hv, q⟩
  have ni : ∀ b : Addr, b ∉ ([] : List Addr) := fun b z => by cases z
  refine c A outer' s' H' Q E hr e0 ⟨fun b o e n hb _ => un2.keep b o (un.keep b o e n hb (ni b)) (un.free b o e n (ni b)) (nin e hb) (ni b), fun b o e n hb _ => ?_, fun b o e n _ => ?_, fun b o e _ => ?_, fun b xs e => un2.tups b xs (un.tups b xs e), fun b o u e => un2.frzs b o u (un.frzs b o u e), fun b ps e => ?_⟩ ht
  · obtain ⟨sl, e1⟩ := un.slot b o e n hb (ni b)
    obtain ⟨sl2, e2⟩ := un2.slot b _ e1 (un.free b o e n (ni b)) (inn hb) (ni b)
    exact ⟨sl2, e2⟩
  · obtain ⟨sl, e1⟩ := un.any e n (ni b)
    exact un2.free b _ e1 (un.free b o e n (ni b)) (ni b)
  · obtain ⟨o1, e1⟩ := un.there b o e (ni b)
    exact un2.there b o1 e1 (ni b)
  · obtain ⟨m1, e1⟩ := un.tbls b ps e
    obtain ⟨m2, e2⟩ := un2.tbls b _ e1; exact ⟨m1 ++ m2, by rw [e2, Array.append_assoc]⟩
/-! ### a def that calls what it got -/
section
variable {X : Cx} {pn : List (Addr × Obj)} {xe : Value → Shared → Prop} {W : WX} {E : XK} {k i : Nat} {f : Addr} {a : Str} {p1 p2 : Pos} {tl : XK → Hp → VK → Prop}
/-- the slot i holds f; what f raises is wished for at these slots -/
def tAsk (i : Nat) (f : Addr) (tl : XK → Hp → VK → Prop) (W : WX) : TE := fun σ H Q => σ[i]? = some (some (.ref f)) ∧ tl (fun cls d H' => W cls d σ H') H Q
theorem pe_ask (c : CanCall X.prog X.w X.K X.mg X.base k X.outer X.s_0 X.H_0 f tl) (hex : X.ex = []) (tk : Takes (X.tr pn xe) W) (hr : Room k X.A) (hN : X.N[i]? = some a) (hv : Vis X.env.scope a)
    (hd : (a == ("__debug__" : Str)) = false := by decide) (hcd : (a == ("__classdict__" : Str)) = false := by decide) :
    PE (X.tr pn xe) (.Call (.Name a p1) [] [] p2) (tAsk i f tl W) := by
  refine ⟨fun pins s σ H Q I ⟨hs, ht⟩ => ?_⟩
  refine wpAny_Call_Name_kw (thn ((pe_var (X := X.tr pn xe) (pos := p1) (i := i) hN hv hd hcd).run pins s σ H (fun v H1 => v = .ref f ∧ H1 = H) I ⟨.ref f, hs, rfl, rfl⟩) fun u s1 ⟨v, H1, I1, r1, ev, eH⟩ => ?_)
  subst ev eH
  obtain rfl : u = Value.ref f := r1; have un : Un (frs X.outer) [] X.H_0 H1 X.s_0.heap s1.heap := by have z := I1.base; rw [show (X.tr pn xe).ex = [] from hex] at z; exact z
  obtain ⟨fa, rc⟩ := c X.A X.stack s1 H1 Q _ hr I1.env0 un ht
  refine PySem.W.callWith_F0 fa (wpAny_call (codeAny_mono rc fun r s' hq => ?_))
  cases r with
  | error e => exact passAt tk σ pins H1 s1 e s' I1 hq
  | ok fl => cases fl <;> first | exact I1.after hq | exact False.elim hq
end

/-! The law's field and try; defs that may raise, called. -/


local macro_rules | `(tactic| walk_at "gs1") => `(tactic| first
  | walk_at "go1"
  | with_reducible refine rd_fld ?_
  | with_reducible refine rd_sfld ?_
  | with_reducible refine rd_meth ?_
  | with_reducible refine rd_prop ?_
  | with_reducible refine rd_mkR ?_
  | with_reducible refine rd_stc ?_
  | with_reducible refine rd_star ?_
  | with_reducible refine rd_bk ?_
  | with_reducible refine rd_ipI ?_
  | with_reducible refine rd_joinS ?_
  | with_reducible refine rd_join ?_
  | with_reducible refine rd_lenSetS ?_
  | with_reducible refine rd_lc ?_
  | with_reducible refine rd_for ?_
  | with_reducible refine rd_il ?_
  | with_reducible refine rd_it ?_
  | with_reducible refine rd_sq ?_
  | with_reducible refine rd_is ?_
  | with_reducible refine rd_rng1 ?_
  | with_reducible refine rd_enumT ?_
  | with_reducible refine rd_zipA ?_
  | with_reducible refine rd_zipMx ?_
  | with_reducible refine rd_parB ?_
  | ((with_reducible refine' rd_aug ?hv ?_); (case hv => exact rfl))
  | walk_at "isi"
  | walk_at "dc")
local macro_rules | `(tactic| walk_at "gs") => `(tactic| (repeat walk_at "gs1"); (try dsimp only))

/-! ### defs that may raise -/
structure CalX (P : Program) (w : World) (K : PySem.W.Frag) (mg : Str → Option Value) (base : Heap) (k : Nat) (x : Str) (sp : Sp) : Prop where
  ex : ∃ (f : Addr) (fd : FuncData) (ps : List Str), FnOk P w K mg base (L2.CX P w) k f fd ps sp ∧ mg x = some (.ref f) ∧ PySem.W.keepIn K (.ref f) = true ∧ Binds K fd ps []
structure CalKX (P : Program) (w : World) (K : PySem.W.Frag) (mg : Str → Option Value) (base : Heap) (k : Nat) (x : Str) (sp : Sp) (ks : List Str) (perm : List Nat) : Prop where
  ex : ∃ (f : Addr) (fd : FuncData) (ps : List Str), FnOk P w K mg base (L2.CX P w) k f fd ps sp ∧ mg x = some (.ref f) ∧ PySem.W.keepIn K (.ref f) = true ∧ KBinds K fd ps ks (gPV ks.length perm) (gPV ks.length perm)
section
variable {P : Program} {w : World} {K : PySem.W.Frag} {mg : Str → Option Value} {base : Heap} {k : Nat} {x qual : Str} {st : Stmt} {f : Addr} {fd : FuncData} {ps ks : List Str} {perm : List Nat} {sp : Sp}
theorem calX_mk (F : Fun K x qual st f fd) (G : FnOk P w K mg base (L2.CX P w) k f fd ps sp) (g : mg x = some (.ref f))
    (h : ∀ (kV doc pm : Value) (an : Option Addr) (cdv ct : Value) (us : List Value), us.length = ps.length → bindArgs (PySem.W.fnOf x qual (defArgs st) (defBody st) (defScope st) .none kV doc pm an cdv ct) ⟨us, []⟩ = pure (ps.zip us)) : CalX P w K mg base k x sp := ⟨f, fd, ps, G, g, F.kp, F.binds h⟩
theorem calKX_mk (F : Fun K x qual st f fd) (G : FnOk P w K mg base (L2.CX P w) k f fd ps sp) (g : mg x = some (.ref f)) (h0 : 0 < ps.length)
    (h : ∀ (kV doc pm : Value) (an : Option Addr) (cdv ct : Value) (ws : List Value), ws.length = ks.length → bindArgs (PySem.W.fnOf x qual (defArgs st) (defBody st) (defScope st) .none kV doc pm an cdv ct) ⟨[], ks.zip ws⟩ = pure (ps.zip (gPV ks.length perm [] ws))) : CalKX P w K mg base k x sp ks perm := by
  have ⟨_, _, kV, doc, pm, an, cdv, ct, _, hfd, _, _⟩ := F.ex
  subst hfd
  refine ⟨f, _, ps, G, g, F.kp, ⟨fun s us ws _ hl => ?_, gPV_rel⟩⟩
  by_cases c : us.length = 0 ∧ ws.length = ks.length
  · obtain rfl : us = [] := List.length_eq_zero_iff.mp c.1
    exact .of_eq (h kV doc pm an cdv ct ws c.2)
  · unfold gPV at hl
    rw [if_neg c] at hl
    exact absurd hl (by simp; omega)
end
section
variable {X : Cx} {k j : Nat} {x : Str} {sp : Sp} {ks : List Str} {perm : List Nat} {p pos : Pos} {e : Expr} {es : List Expr} {kws : List Keyword} {t tk : TA} {E : XK}
theorem pe_cX (c : CalX X.prog X.w X.K X.mg X.base k x sp) (hr : Room j X.A) (hk : k ≤ j) (hg : Gl X x) (hx : Passes (L2.CX X.prog X.w) X E) (ha : PA X (e :: es) t)
    (hdb : (x == ("__debug__" : Str)) = false := by decide) (he : starEach (e :: es) X.env = (false, eval e X.env) :: starEach es X.env := by rfl) (hpl : (backTo pos (starEach es X.env)).any (·.1) = false := by rfl) : PE X (.Call (.Name x p) (e :: es) [] pos) (tCall sp [] E t) := by
  have ⟨f, fd, ps, F, hm, kp, b⟩ := c.ex
  exact pe_call F (hr.mono hk) hg hm kp b .nil hx ha hdb he hpl
theorem pe_cKX (c : CalKX X.prog X.w X.K X.mg X.base k x sp ks perm) (hr : Room j X.A) (hk : k ≤ j) (hg : Gl X x) (hx : Passes (L2.CX X.prog X.w) X E) (hkw : PK X kws tk)
    (named : (backToKw pos (keywordEach kws X.env)).all (·.1.isSome) = true := by rfl) (names : (backToKw pos (keywordEach kws X.env)).filterMap (·.1) = ks := by rfl) (nodb : (x == ("__debug__" : Str)) = false := by decide)
    (noStar : ((backTo pos (starEach [] X.env)).any (·.1) || (backToKw pos (keywordEach kws X.env)).any (·.1.isNone)) = false := by rfl) : PE X (.Call (.Name x p) [] kws pos) (tCallK sp (gPV ks.length perm) E tNil tk) := by
  have ⟨f, fd, ps, ok, hmg, hkeep, hbinds⟩ := c.ex
  refine ⟨fun pins s σ H Q hI hQ => wpAny_Call_Name_kw (ld_glob hI hg hmg ?_ nodb)⟩
  refine PySem.W.callWith_KW0 (h₀ := X.base) hI.ok.mod.kin hkeep named (thn (hkw.run pos pins s σ H _ hI hQ) ?_) noStar
  rintro ws s2 ⟨zs, H2, hI2, hz, hQ2⟩
  refine ⟨hI2.kIn, ?_⟩
  rw [names]
  exact run_fnk ok (hr.mono hk) hbinds hx hI2 .nil hz hQ2
end
theorem inD_units {k : Nat} {A : Around} (hr : Room k A) : A.units + 65 < cLine := by have := hr.un; omega
/-- str(n) -/
def gStr : List V → Hp → VK → Prop := fun xs H Q => ∃ i, xs = [.int i] ∧ i.natAbs.log2 < 1920 ∧ Q (.str (toString i)) H
/-! ### the law's field -/
/-- which attribute of an error with a code is told -/
def fieldKey (code : Str) : Option Str :=
  if code ∈ (["InvalidList", "InvalidColumn", "InvalidBox", "InvalidSet", "InvalidCall"] : List Str) then some "at"
  else if code ∈ (["TooMany", "Full"] : List Str) then some "most"
  else if code ∈ (["TakenName", "UnknownName"] : List Str) then some "name"
  else if code = "InvalidPage" then some "line"
  else if code = "UnknownRow" then some "number"
  else if code ∈ (["OtherSchema", "OtherWidth", "NothingLeft"] : List Str) then none
  else some "given"
/-- what the error of the class C with the fields fs tells -/
def FieldIs (K : PySem.W.Frag) (C : Addr) (fs : List (Str × V)) (code : Str) (v : V) : Prop := match fieldKey code with
  | some key => PySem.W.findIn K (.ref C) key = some none ∧ fs.lookup key = some v
  | none => v = .non
theorem FieldIs.key {K : PySem.W.Frag} {C : Addr} {fs : List (Str × V)} {code key : Str} {v : V} (h : FieldIs K C fs code v) (e : fieldKey code = some key) : PySem.W.findIn K (.ref C) key = some none ∧ fs.lookup key = some v := by
  unfold FieldIs at h
  rw [e] at h
  exact h
theorem FieldIs.no {K : PySem.W.Frag} {C : Addr} {fs : List (Str × V)} {code : Str} {v : V} (h : FieldIs K C fs code v) (e : fieldKey code = none) : v = .non := by
  unfold FieldIs at h
  rw [e] at h
  exact h
def sp_field (K : PySem.W.Frag) (a : Addr) (cls : Value) (d : Option Addr) : Sp := fun vs H Q _ => ∃ (C dd : Addr) (fs : List (Str × V)) (code : Str) (v : V), vs = [.ref a] ∧ cls = .ref C ∧ XfC K C ∧ PySem.W.findIn K (.ref C) "code" = some none ∧ d = some dd ∧ H dd = some (.xd fs) ∧ fs.lookup ("code" : Str) = some (.str code) ∧ FieldIs K C fs code v ∧
  ∀ H', Ex H H' → Q v H'
def t_field_5 (K : PySem.W.Frag) (a : Addr) (cls : Value) (d : Option Addr) : TS :=
  (tRet (tIf (tTest (tOp (gIn K) (tXfA K a cls d "code" (tVar 0)) (tLst (tCons (tC (.str "OtherSchema")) (tCons (tC (.str "OtherWidth")) (tCons (tC (.str "NothingLeft")) tNil)))))) (tC .non) (tXfA K a cls d "given" (tVar 0))))
def t_field_4 (K : PySem.W.Frag) (a : Addr) (cls : Value) (d : Option Addr) : TS :=
  (tSeq (tIfS (tTest (tOp (gEq K) (tXfA K a cls d "code" (tVar 0)) (tC (.str "UnknownRow")))) (tRet (tXfA K a cls d "number" (tVar 0))) tNext)
  (t_field_5 K a cls d))
def t_field_3 (K : PySem.W.Frag) (a : Addr) (cls : Value) (d : Option Addr) : TS :=
  (tSeq (tIfS (tTest (tOp (gEq K) (tXfA K a cls d "code" (tVar 0)) (tC (.str "InvalidPage")))) (tRet (tXfA K a cls d "line" (tVar 0))) tNext)
  (t_field_4 K a cls d))
def t_field_2 (K : PySem.W.Frag) (a : Addr) (cls : Value) (d : Option Addr) : TS :=
  (tSeq (tIfS (tTest (tOp (gIn K) (tXfA K a cls d "code" (tVar 0)) (tLst (tCons (tC (.str "TakenName")) (tCons (tC (.str "UnknownName")) tNil))))) (tRet (tXfA K a cls d "name" (tVar 0))) tNext)
  (t_field_3 K a cls d))
def t_field_1 (K : PySem.W.Frag) (a : Addr) (cls : Value) (d : Option Addr) : TS :=
  (tSeq (tIfS (tTest (tOp (gIn K) (tXfA K a cls d "code" (tVar 0)) (tLst (tCons (tC (.str "TooMany")) (tCons (tC (.str "Full")) tNil))))) (tRet (tXfA K a cls d "most" (tVar 0))) tNext)
  (t_field_2 K a cls d))
def t_field (K : PySem.W.Frag) (a : Addr) (cls : Value) (d : Option Addr) : TS :=
  (tSeq (tIfS (tTest (tOp (gIn K) (tXfA K a cls d "code" (tVar 0)) (tLst (tCons (tC (.str "InvalidList")) (tCons (tC (.str "InvalidColumn")) (tCons (tC (.str "InvalidBox")) (tCons (tC (.str "InvalidSet")) (tCons (tC (.str "InvalidCall")) tNil)))))))) (tRet (tXfA K a cls d "at" (tVar 0))) tNext)
  (t_field_1 K a cls d))
section
variable {K : PySem.W.Frag} {σ : L2.St} {H : Hp} {Q : VK} {D : Ends} {a C dd : Addr} {n : Str} {te : TE}
theorem rd_xfA {cls : Value} {d : Option Addr} (q : te σ H fun x H1 => x = .ref a ∧ ∃ (C dd : Addr) (fs : List (Str × V)) (v : V), cls = .ref C ∧ XfC K C ∧ PySem.W.findIn K (.ref C) n = some none ∧ d = some dd ∧ H1 dd = some (.xd fs) ∧ fs.lookup n = some v ∧ Q v H1) : tXfA K a cls d n te σ H Q := q
theorem inV_strL (z : Str) : ∀ us : List Str, inV (.str z) (us.map V.str) = decide (z ∈ us)
  | [] => rfl
  | u :: us => by
    have ih := inV_strL z us
    unfold inV at ih ⊢
    rw [List.map_cons, List.any_cons, ih, show eqV (.str u) (.str z) = decide (u = z) from by
      show (u == z) = _
      by_cases h : u = z
      · subst h; rw [decide_eq_true rfl]; exact beq_self_eq_true u
      · rw [decide_eq_false h]; exact beq_eq_false_iff_ne.mpr h, ← Bool.decide_or]
    exact decide_eq_decide.mpr (by rw [List.mem_cons]; exact or_congr eq_comm Iff.rfl)
theorem flat_strsL (us : List Str) : (us.map V.str).all flatV = true := by
  rw [List.all_map]; exact List.all_eq_true.mpr fun _ _ => rfl
theorem rd_inLf {u : Addr} {us : List Str} {z : Str} (h : H u = some (.lst (us.map V.str))) (q : Q (.bl (decide (z ∈ us))) H) : gIn K (.str z) (.ref u) H Q := .inr ⟨u, _, rfl, .inl (sq_of h), rfl, flat_strsL us, by rw [if_neg Bool.false_ne_true, inV_strL]; exact q⟩
/-- code in [..], a new list -/
theorem rd_codeIn {us : List Str} {xs : List V} {z : Str} {P : Bool → Hp → Prop} (e : xs = us.map V.str) (hl : xs.length ≤ 1000) (q : ∀ H', Ex H H' → P (decide (z ∈ us)) H') : xs.length ≤ sizeLine ∧ ∀ p, H p = none → gIn K (.str z) (.ref p) (upd H p (.lst xs)) fun x H1 => ∃ k, x = .bl k ∧ P k H1 := by
  subst e
  exact ⟨sz_of (by omega), fun p hp => rd_inLf upd_same ⟨_, rfl, q _ (Ex.new hp)⟩⟩
theorem read_at {fs : List (Str × V)} {key : Str} {v : V} (xf : XfC K C) (h : PySem.W.findIn K (.ref C) key = some none) (hd : H dd = some (.xd fs)) (l : fs.lookup key = some v) (q : Q v H) : tXfA K a (.ref C) (some dd) key (tVar 0) [some (.ref a)] H Q := ⟨.ref a, rfl, rfl, C, dd, fs, v, rfl, xf, h, rfl, hd, l, q⟩
theorem sat_field {vs : List V} {cls : Value} {d : Option Addr} {E : XK} (h : sp_field K a cls d vs H Q E) : vs.length = 1 ∧ t_field K a cls d { nx := fun _ H' => Q .non H', rt := Q } (vs.map some ++ List.replicate (1 - vs.length) none) H := by
  obtain ⟨C, dd, fs, code, v, rfl, rfl, xf, nC, rfl, hd, hc, hf, q⟩ := h
  refine ⟨rfl, ?_⟩
  unfold t_field
  walk_at "go"
  refine read_at xf nC hd hc ?_
  walk_at "go"
  refine rd_codeIn (us := ["InvalidList", "InvalidColumn", "InvalidBox", "InvalidSet", "InvalidCall"]) rfl (by decide) fun H1 e1 => ?_
  refine rd_dec (fun c1 => ?_) (fun c1 => ?_)
  · walk_at "go"
    have ⟨f1, f2⟩ := hf.key (key := "at") (by unfold fieldKey; rw [if_pos c1])
    exact read_at xf f1 (e1 _ _ hd) f2 (q _ e1)
  walk_at "go"
  unfold t_field_1
  walk_at "go"
  refine read_at xf nC (e1 _ _ hd) hc ?_
  walk_at "go"
  refine rd_codeIn (us := ["TooMany", "Full"]) rfl (by decide) fun H2 e2 => ?_
  have e12 := e1.trans e2
  refine rd_dec (fun c2 => ?_) (fun c2 => ?_)
  · walk_at "go"
    have ⟨f1, f2⟩ := hf.key (key := "most") (by unfold fieldKey; rw [if_neg c1, if_pos c2])
    exact read_at xf f1 (e12 _ _ hd) f2 (q _ e12)
  walk_at "go"
  unfold t_field_2
  walk_at "go"
  refine read_at xf nC (e12 _ _ hd) hc ?_
  walk_at "go"
  refine rd_codeIn (us := ["TakenName", "UnknownName"]) rfl (by decide) fun H3 e3 => ?_
  have e13 := e12.trans e3
  refine rd_dec (fun c3 => ?_) (fun c3 => ?_)
  · walk_at "go"
    have ⟨f1, f2⟩ := hf.key (key := "name") (by unfold fieldKey; rw [if_neg c1, if_neg c2, if_pos c3])
    exact read_at xf f1 (e13 _ _ hd) f2 (q _ e13)
  walk_at "go"
  unfold t_field_3
  walk_at "go"
  refine read_at xf nC (e13 _ _ hd) hc ?_
  walk_at "go"
  refine rd_dec (fun c4 => ?_) (fun c4 => ?_)
  · walk_at "go"
    have ⟨f1, f2⟩ := hf.key (key := "line") (by unfold fieldKey; rw [if_neg c1, if_neg c2, if_neg c3, if_pos c4])
    exact read_at xf f1 (e13 _ _ hd) f2 (q _ e13)
  walk_at "go"
  unfold t_field_4
  walk_at "go"
  refine read_at xf nC (e13 _ _ hd) hc ?_
  walk_at "go"
  refine rd_dec (fun c5 => ?_) (fun c5 => ?_)
  · walk_at "go"
    have ⟨f1, f2⟩ := hf.key (key := "number") (by unfold fieldKey; rw [if_neg c1, if_neg c2, if_neg c3, if_neg c4, if_pos c5])
    exact read_at xf f1 (e13 _ _ hd) f2 (q _ e13)
  walk_at "go"
  unfold t_field_5
  walk_at "go"
  refine read_at xf nC (e13 _ _ hd) hc ?_
  walk_at "go"
  refine rd_codeIn (us := ["OtherSchema", "OtherWidth", "NothingLeft"]) rfl (by decide) fun H4 e4 => ?_
  have e14 := e13.trans e4
  refine rd_dec (fun c6 => ?_) (fun c6 => ?_)
  · walk_at "go"
    have e := hf.no (by unfold fieldKey; rw [if_neg c1, if_neg c2, if_neg c3, if_neg c4, if_neg c5, if_pos c6])
    subst e
    exact q _ e14
  · walk_at "go"
    have ⟨f1, f2⟩ := hf.key (key := "given") (by unfold fieldKey; rw [if_neg c1, if_neg c2, if_neg c3, if_neg c4, if_neg c5, if_neg c6])
    exact read_at xf f1 (e14 _ _ hd) f2 (q _ e14)
end

/-! Methods that may raise; o | o and o & o, both of one class. -/
/-- the class's own operators come first -/
class SfB (K : PySem.W.Frag) : Prop where
  sf : PySem.W.selfFirst K (cls_at K "Bound") = true
structure MetX (P : Program) (w : World) (K : PySem.W.Frag) (mg : Str → Option Value) (base : Heap) (k : Nat) (C : Addr) (m : Str) (sp : Sp) : Prop where
  ex : ∃ (f : Addr) (fd : FuncData) (ps : List Str), Cls K C ∧ Meth K C m f ∧ FnOk P w K mg base (L2.CX P w) k f fd ps sp ∧ Binds K fd ps []
section
variable {X : Cx} {k j : Nat} {C : Addr} {sp : Sp} {E : XK} {m : Str}
/-- x op y, where the answer is an object -/
def rBinO (C : Addr) (sp : Sp) (E : XK) : R2 := fun x y H Q => ∃ a dx fs b dy gs, x = .ref a ∧ y = .ref b ∧ H a = some (.ins C dx fs) ∧ H b = some (.ins C dy gs) ∧ sp [.ref a, .ref b] H (fun v H' => ∃ p, v = .ref p ∧ Q (.ref p) H') E
theorem op_binO {op : Operator} (hm' : PySem.dunder op.info.2 = m) (c : MetX X.prog X.w X.K X.mg X.base k C m sp) (hr : Room j X.A) (hk : k ≤ j) (hx : Passes (L2.CX X.prog X.w) X E) (hsf : PySem.W.selfFirst X.K C = true) : OpR X (binaryOp op) (rBinO C sp E) := by
  intro pins s σ H x y v u Q I rx ry h; obtain ⟨a, dx, fs, b, dy, gs, rfl, rfl, ob, oc, q⟩ := h
  cases rx
  cases ry
  obtain ⟨f, fd, ps, hc, hm, F, bi⟩ := c.ex
  obtain ⟨mA, O, _⟩ := ins_get I.hok ob
  obtain ⟨od, J, _⟩ := O.look
  obtain ⟨mB, O2, _⟩ := ins_get I.hok oc
  obtain ⟨od2, J2, _⟩ := O2.look
  obtain ⟨mF, fr⟩ := I.fr
  refine PySem.W.binop_K fr I.ok.mod.kin J J2.type hsf (by rw [hm']; exact hm.at_) hm.fn ?_
  refine wpAny_mono (run_fn F (hr.mono hk) bi .nil hx I (vs := [.ref a, .ref b]) (.cons (show RelV (V.ref a) (Value.ref a) from rfl) (.cons (show RelV (V.ref b) (Value.ref b) from rfl) .nil)) (by rw [List.append_nil]; exact q)) (fun r s' hr => ?_) fun _ _ z => z
  obtain ⟨w, H', I', rw', p, rfl, hq⟩ := hr
  cases rw'
  exact ⟨.ref p, H', I', rfl, hq⟩
/-- o.m(..) -/
theorem pe_mX {o e : Expr} {es : List Expr} {ta : TE} {t : TA} {apos pos : Pos} {pl : Sem Bool} (c : MetX X.prog X.w X.K X.mg X.base k C m sp) (hr : Room j X.A) (hk : k ≤ j) (hx : Passes (L2.CX X.prog X.w) X E) (he : PE X o ta) (ha : PA X (e :: es) t)
    (hc : eval (.Call (.Attribute o m apos) (e :: es) [] pos) X.env = (do
      let ov ← eval o X.env
      standAt apos.atName
      let (f, fst) ← holding [ov] (getMethod ov m pl)
      callWith pos f fst (backTo pos (starEach (e :: es) X.env)) (backToKw pos (keywordEach [] X.env))) := by rfl)
    (hs : starEach (e :: es) X.env = (false, eval e X.env) :: starEach es X.env := by rfl) (hpl : (backTo pos (starEach es X.env)).any (·.1) = false := by rfl) : PE X (.Call (.Attribute o m apos) (e :: es) [] pos) (tMeth C m sp [] E ta t) := by
  obtain ⟨f, fd, ps, hcl, hm, F, bi⟩ := c.ex
  exact pe_meth he hcl hm F (hr.mono hk) bi .nil hx ha hs hpl hc
end
/-! ### C.m(k=e, ..), m a staticmethod -/
structure StaK (P : Program) (w : World) (K : PySem.W.Frag) (mg : Str → Option Value) (base : Heap) (k : Nat) (C : Addr) (m : Str) (sp : Sp) (ks : List Str) (perm : List Nat) : Prop where
  ex : ∃ (mc : Value) (p g : Addr) (fd : FuncData) (ps : List Str), ClX.CRead K C mc ∧ PySem.W.findCls K (.ref C) mc m = some (.get (.builtin "staticmethod.__get__") (.ref p) .none (.ref C)) ∧ (∃ rest, PySem.W.recIn K p "staticmethod" = some (.ref g :: rest)) ∧ PySem.W.keepIn K (.ref g) = true ∧
    FnOk P w K mg base C8.CX0 k g fd ps sp ∧ KBinds K fd ps ks (gPV ks.length perm) (gPV ks.length perm)
def tStcK (C : Addr) (sp : Sp) (n : Nat) (perm : List Nat) (ta : TE) (tk : TA) : TE := fun σ H Q => ta σ H fun x H1 => x = .ref C ∧ tk σ H1 fun zs H2 => sp (gPV n perm [] zs) H2 Q C8.E0
theorem kbinds_of {K : PySem.W.Frag} {x qual : Str} {st : Stmt} {f : Addr} {fd : FuncData} {ps ks : List Str} {perm : List Nat} (F : Fun K x qual st f fd) (h0 : 0 < ps.length)
    (h : ∀ (kV doc pm : Value) (an : Option Addr) (cdv ct : Value) (ws : List Value), ws.length = ks.length → bindArgs (PySem.W.fnOf x qual (defArgs st) (defBody st) (defScope st) .none kV doc pm an cdv ct) ⟨[], ks.zip ws⟩ = pure (ps.zip (gPV ks.length perm [] ws))) : KBinds K fd ps ks (gPV ks.length perm) (gPV ks.length perm) := by
  have ⟨_, _, kV, doc, pm, an, cdv, ct, _, hfd, _, _⟩ := F.ex
  subst hfd
  refine ⟨fun s us ws _ hl => ?_, gPV_rel⟩
  by_cases c : us.length = 0 ∧ ws.length = ks.length
  · obtain rfl : us = [] := List.length_eq_zero_iff.mp c.1
    exact .of_eq (h kV doc pm an cdv ct ws c.2)
  · unfold gPV at hl
    rw [if_neg c] at hl
    exact absurd hl (by simp; omega)
section
variable {X : Cx} {k j : Nat} {C : Addr} {sp : Sp} {m : Str} {ks : List Str} {perm : List Nat} {o : Expr} {kws : List Keyword} {ta : TE} {tk : TA} {apos pos : Pos}
theorem pe_stK {pl : Sem Bool} (c : StaK X.prog X.w X.K X.mg X.base k C m sp ks perm) (hr : Room j X.A) (hk : k ≤ j) (he : PE X o ta) (hkw : PK X kws tk)
    (named : (backToKw pos (keywordEach kws X.env)).all (·.1.isSome) = true := by rfl) (names : (backToKw pos (keywordEach kws X.env)).filterMap (·.1) = ks := by rfl)
    (noStar : ((backTo pos (starEach [] X.env)).any (·.1) || (backToKw pos (keywordEach kws X.env)).any (·.1.isNone)) = false := by rfl)
    (ht : eval (.Call (.Attribute o m apos) [] kws pos) X.env = (do let ov ← eval o X.env; standAt apos.atName; let (f, first) ← holding [ov] (getMethod ov m pl); callWith pos f first (backTo pos (starEach [] X.env)) (backToKw pos (keywordEach kws X.env))) := by rfl) :
    PE X (.Call (.Attribute o m apos) [] kws pos) (tStcK C sp ks.length perm ta tk) := by
  obtain ⟨mc, p, g, fd, ps, r, at_, ⟨rest, hp⟩, kp, F, hb⟩ := c.ex
  refine ⟨fun pins s σ H Q I h => PySem.W.methodCall_KW (pl := pl) (thn (he.run pins s σ H _ I h) fun u s1 ⟨x, H1, I1, rx, ex, q⟩ => ?_) ht⟩
  subst ex
  cases (show u = Value.ref C from rx)
  have I2 := I1.tok (s1.toks + 1)
  refine PySem.W.method_cls I1.kIn r.ga (PySem.W.cls_bind I1.kIn r.rd at_ (wpAny_call (PySem.W.sm_get (s := { s1 with toks := s1.toks + 1 }) I1.kIn hp (PySem.W.handed_on rfl ?_))))
  refine PySem.W.callWith_KW0 (h₀ := X.base) I2.ok.mod.kin kp named (thn (hkw.run pos pins _ σ H1 _ I2 q) ?_) noStar
  rintro ws s2 ⟨zs, H2, I3, rz, q2⟩
  refine ⟨I3.kIn, ?_⟩
  rw [names]
  exact run_fnk F (hr.mono hk) hb C8.pass0 I3 .nil rz q2
end

/-! The law's try: a def that calls what it got and tells the error's code and attribute. -/
def baseErrs (K : PySem.W.Frag) : List Value := [.ref (cls_at K "EntryError"), .ref (cls_at K "Missing"), .ref (cls_at K "NothingLeft")]
/-- an error class of the program -/
class ExcOk (K : PySem.W.Frag) (x fl : Str) : Prop where
  xf : XfC K (cls_at K x)
  nC : PySem.W.findIn K (.ref (cls_at K x)) "code" = some none
  nF : PySem.W.findIn K (.ref (cls_at K x)) fl = some none
  mt : PySem.W.exmAny K (.ref (cls_at K x)) (baseErrs K) = some true
/-- return (e.code, field(e)) -/
def t_tryE (K : PySem.W.Frag) : Addr → Value → Option Addr → TS := fun a cls d => tRet (tTup (tCons (tXfA K a cls d "code" (tVar 1)) (tCons (tCallE (sp_field K a cls d) (tCons (tVar 1) tNil)) tNil)))
/-- try: return ("", ask()) / except ..: the above -/
def t_try (K : PySem.W.Frag) (f : Addr) (tl : XK → Hp → VK → Prop) : TS := fun D σ H => tRet (tTup (tCons (tC (.str "")) (tCons (tAsk 0 f tl (wAsT K (baseErrs K) 1 (t_tryE K) D)) tNil))) D σ H
def rTry (K : PySem.W.Frag) (f : Addr) (tl : XK → Hp → VK → Prop) (H : Hp) (Q : VK) : Prop := t_try K f tl { nx := fun _ H' => Q .non H', rt := Q } [some (.ref f), none] H
/-- what a raised error comes to -/
def tryW (K : PySem.W.Frag) (f : Addr) (Q : VK) : XK := fun cls d H => wAsT K (baseErrs K) 1 (t_tryE K) { nx := fun _ H' => Q .non H', rt := Q } cls d [some (.ref f), none] H
theorem rd_try {K : PySem.W.Frag} {f : Addr} {tl : XK → Hp → VK → Prop} {H : Hp} {Q : VK} (q : tl (tryW K f Q) H fun v H1 => [V.str "", v].length ≤ sizeLine ∧ ∀ p, H1 p = none → Q (.ref p) (upd H1 p (.tup [.str "", v]))) : rTry K f tl H Q := ⟨rfl, q⟩
theorem rd_tryE {K : PySem.W.Frag} {f dd : Addr} {x fl : Str} {v : V} {H : Hp} {Q : VK} (X : ExcOk K x fl) (hd : H dd = some (.xd (excF x fl v))) (hk : fieldKey x = some fl) (hn : fl ≠ "code") (q : ∀ H', Ex H H' → ∀ p, H' p = none → Q (.ref p) (upd H' p (.tup [.str x, v]))) :
    tryW K f Q (.ref (cls_at K x)) (some dd) H := by
  refine ⟨X.mt, fun a na => ?_⟩
  refine ⟨.ref a, rfl, rfl, _, dd, _, .str x, rfl, X.xf, X.nC, rfl, hd, excF_code x fl v, ?_⟩
  refine ⟨.ref a, rfl, ?_⟩
  refine ⟨_, dd, _, x, v, rfl, rfl, X.xf, X.nC, rfl, hd, excF_code x fl v, ?_, fun H' e => ⟨(by show 2 ≤ sizeLine; decide), q H' e⟩⟩
  unfold FieldIs
  rw [hk]
  exact ⟨X.nF, excF_fl v hn⟩
/-- the law's field, callable in a suite -/
structure FldOk (P : Program) (w : World) (K : PySem.W.Frag) (mg : Str → Option Value) (base : Heap) (k : Nat) (x : Str) : Prop where
  ex : ∃ f fd, FnE P w K mg base k f fd ["_law_e"] (sp_field K) ∧ mg x = some (.ref f) ∧ PySem.W.keepIn K (.ref f) = true ∧ Binds K fd ["_law_e"] []
/-- the law's try: j what the lambdas may take -/
structure TryOk (P : Program) (w : World) (K : PySem.W.Frag) (mg : Str → Option Value) (base : Heap) (k j : Nat) (x : Str) : Prop where
  ex : ∃ g, mg x = some (.ref g) ∧ PySem.W.keepIn K (.ref g) = true ∧ ∀ (A : Around) (outer : List Env) (s : Shared) (H : Hp) (f : Addr) (tl : XK → Hp → VK → Prop) (Q : VK), Room k A → Env0 P w K mg base A outer s H → CanCall P w K mg base j outer s H f tl → rTry K f tl H Q →
    codeAny (model P w) A (.call (.ref g) ⟨[.ref f], []⟩) (CR C8.CX0 outer P w H s Q C8.E0) s
theorem try_mk {P : Program} {w : World} {K : PySem.W.Frag} {mg : Str → Option Value} {base : Heap} {k j : Nat} {x qual : Str} {st : Stmt} {g : Addr} {fd : FuncData} (F : Fun K x qual st g fd) (S : FnScope ["_law_ask", "_law_e"] ["_law_ask"] (defScope st)) (gm : mg x = some (.ref g))
    (hb : ∀ (kV doc pm : Value) (an : Option Addr) (cdv ct : Value) (u : Value), bindArgs (PySem.W.fnOf x qual (defArgs st) (defBody st) (defScope st) .none kV doc pm an cdv ct) ⟨[u], []⟩ = pure [(("_law_ask" : Str), u)])
    (body : ∀ (cdv : Value) (A : Around) (outer : List Env) (s : Shared) (H : Hp) (f : Addr) (tl : XK → Hp → VK → Prop), Room k (A.deeper (envOfC qual (defScope st) s.heap.objs.size g cdv)) → CanCall P w K mg base j outer s H f tl →
      PSs (cxOf C8.CX0 P w K mg base ["_law_ask", "_law_e"] qual (defScope st) g cdv A outer s H C8.E0) (defBody st) (t_try K f tl)) : TryOk P w K mg base (k + 1) j x := by
  obtain ⟨oc, od, kV, doc, pm, an, cdv, ct, osl, rfl, lk, hcd⟩ := F.ex; refine ⟨g, gm, F.kp, fun A outer s H f tl Q hr e0 c h => ?_⟩
  refine LamX.run_ofS (N := ["_law_ask", "_law_e"]) (ps := ["_law_ask"]) (us := [.ref f]) (vs := [.ref f]) lk hcd S hr e0 (BindsTo.of_eq (hb ..)) (.cons rfl .nil) rfl fun hr' => ⟨_, body cdv A outer s H f tl hr' c, h⟩
/-- the body's one statement -/
theorem pss_ask {X : Cx} {pn : List (Addr × Obj)} {xe : Value → Shared → Prop} {W : WX} {k : Nat} {f : Addr} {a : Str} {p1 p2 p3 pos p4 : Pos} {kk k2 : Nat} {tl : XK → Hp → VK → Prop} (c : CanCall X.prog X.w X.K X.mg X.base k X.outer X.s_0 X.H_0 f tl) (hex : X.ex = []) (tk : Takes (X.tr pn xe) W) (hr : Room k X.A)
    (hN : X.N[0]? = some a) (hv : Vis X.env.scope a) (hd : (a == ("__debug__" : Str)) = false) (hcd : (a == ("__classdict__" : Str)) = false) :
    PSs (X.tr pn xe) [.Return (some (.Tuple [.Constant (.str "") k2 p4, .Call (.Name a p1) [] [] p2] kk p3)) pos] (tRet (tTup (tCons (tC (.str "")) (tCons (tAsk 0 f tl W) tNil)))) :=
  pss_one (ps_ret (pe_tup (pa_cons pe_str (pa_cons (pe_ask c hex tk hr hN hv hd hcd) pa_nil))))
/-- try(lambda: e) -/
def tTryL (lw : LamW) (i : Nat) (K : PySem.W.Frag) (tb : XK → TE) : TE := fun σ H Q => tLamE lw i σ H fun x H1 => ∃ f, x = .ref f ∧ LamAt lw i H1 f ∧ rTry K f (fun E H' Q' => LamAt lw i H' f ∧ tb E σ H' Q') H1 Q
section
variable {X : Cx} {lw : LamW} {i j kt kk : Nat} {params : Arguments} {body : Expr} {scope : Scope} {dflt : Bool} {cl : Addr} {x : Str} {p lpos pos : Pos} {tb : XK → TE}
theorem pe_tryL (TR : TryOk X.prog X.w X.K X.mg X.base kt (j + 1) x) (LX : LamX1 X lw cl) (L : LamN X.N X.env.scope ⟨params, body, scope, dflt⟩ []) (ho : lw.o i = lamO X ⟨params, body, scope, dflt⟩) (hd : lw.d i = dflt) (hr : Room kk X.A) (hk : kt ≤ kk) (hg : Gl X x)
    (hbody : ∀ (A : Around) (outer : List Env) (s : Shared) (H : Hp) (E : XK) (f c : Addr), Room j (A.deeper (LamX.lamEnv X scope s.heap.objs.size f c)) → PE (LamX.lamCx X A outer s H E scope f c) body (tb E)) (hdb : (x == ("__debug__" : Str)) = false := by decide) :
    PE X (.Call (.Name x p) [.Lambda params body scope lpos] [] pos) (tTryL lw i X.K tb) := by
  obtain ⟨g, hm, hkp, run⟩ := TR.ex
  refine ⟨fun pins s σ H Q I h => wpAny_Call_Name_kw (ld_glob I hg hm ?_ hdb)⟩
  refine PySem.W.callWith_K (h₀ := X.base) I.ok.mod.kin hkp ?_ (by rfl) (by rfl)
  show wpAny _ _ (spliced ((false, eval (.Lambda params body scope lpos) X.env) :: backTo pos (starEach [] X.env))) _ _ s; refine Calls.spliced_cons (thn ((pe_lam (T := ⟨params, body, scope, dflt⟩) (pos := lpos) LX L ho hd).run pins s σ H _ I h) fun u s1 ⟨v, H1, I1, r1, f, ev, la, q⟩ => Calls.spliced_nil ⟨I1.kIn, ?_⟩)
  subst ev
  obtain rfl : u = Value.ref f := r1; have cc := can_lam (f := f) (tb := tb) I1 L ho hd LX.q hbody
  refine wpAny_call (codeAny_mono (run X.A X.stack s1 H1 f _ Q (hr.mono hk) I1.env0 cc q) fun r s2 hq => ?_)
  cases r with
  | error _ => exact False.elim hq
  | ok fl => cases fl <;> first | exact I1.after hq | exact False.elim hq
end
section
variable {N : List Str} {sc : Scope} {params : Arguments} {body : Expr} {scope : Scope}
theorem lamN_part {T : LamTx} {mk : List Nat} (h : lamNB N sc T mk = true) : T.scope.kind = .function ∧ T.scope.isCoroutine = false ∧ T.scope.isGenerator = false ∧ (∀ y ∈ T.scope.names, y.2 ≠ .cell) ∧ (∀ y ∈ T.scope.names, y.2 = .local → ∀ i : Nat, N[i]? = some y.1 → i ∈ mk) ∧
    ∀ y ∈ T.scope.names, y.2 = .free → sc.names.lookup y.1 = some .cell ∨ sc.names.lookup y.1 = some .free := by
  unfold lamNB at h
  simp only [Bool.and_eq_true, Bool.or_eq_true, Bool.not_eq_true', decide_eq_true_eq, decide_eq_false_iff_not, List.all_eq_true] at h; obtain ⟨⟨⟨h1, h2⟩, h3⟩, h4⟩ := h
  refine ⟨h1, h2, h3, fun y hy => (h4 y hy).1.1, fun y hy e i ei => ?_, fun y hy e => ?_⟩
  · have z := (h4 y hy).1.2.resolve_left (fun z => z e) i (List.mem_range.mpr (List.getElem?_eq_some_iff.mp ei).1)
    exact z.resolve_left fun q => q ei
  exact (h4 y hy).2.elim (fun z => z.elim (fun z => absurd e z) .inl) .inr
theorem lamN0 {mk : List Nat} (h : lamNB N sc ⟨params, body, scope, false⟩ mk = true) (kw : params.kwonlyargs = [] := by rfl) (d : ∀ env, defaultsOf params env = ([], []) := by intro _; rfl)
    (b : ∀ (q : Str) (cl : List (Str × Addr)) (doc pm cv ctv : Value), bindArgs (PySem.W.kdv_fn "<lambda>" q params (.expr body) scope cl .none doc pm cv ctv) ⟨[], []⟩ = pure [] := by intros; rfl) : LamN N sc ⟨params, body, scope, false⟩ mk :=
  have ⟨h1, h2, h3, h4, h5, h6⟩ := lamN_part h
  ⟨h1, h2, h3, h4, h5, h6, kw, fun _ => ⟨d, b⟩, fun z => Bool.noConfusion z⟩
theorem lamN1 {nm : Str} {k : Nat} {p : Pos} {mk : List Nat} (h : lamNB N sc ⟨params, body, scope, true⟩ mk = true) (kw : params.kwonlyargs = [] := by rfl) (d : ∀ env, defaultsOf params env = ([eval (.Constant (.int 0) k p) env], []) := by intro _; rfl) (hn : scope.names.lookup nm = some .local := by rfl)
    (b : ∀ (D : Addr) (q : Str) (cl : List (Str × Addr)) (doc pm cv ctv : Value) (tk : Tok), ∃ k, bindArgs (PySem.W.kdv_fn "<lambda>" q params (.expr body) scope cl (.ref D) doc pm cv ctv) ⟨[], []⟩ = seqItems? (.ref D) >>= k ∧ k (some #[.int 0 tk]) = pure [(nm, .int 0 tk)] := by intros; exact ⟨_, rfl, rfl⟩) : LamN N sc ⟨params, body, scope, true⟩ mk :=
  have ⟨h1, h2, h3, h4, h5, h6⟩ := lamN_part h
  ⟨h1, h2, h3, h4, h5, h6, kw, fun z => Bool.noConfusion z, fun _ => ⟨⟨k, p, d⟩, nm, hn, b⟩⟩
end

/-! Numbers and their texts, as lists of codes. -/
open PySem PySem.Spec PyProof.Rows L2 Evl RZ NumText
def figL : List Nat := [48, 49, 50, 51, 52, 53, 54, 55, 56, 57]
def allD (f : List Nat) : Bool := f.all fun c => decide (c ∈ figL)
theorem figL_iff (c : Nat) : c ∈ figL ↔ (48 ≤ c ∧ c ≤ 57) := by
  simp only [figL, List.mem_cons, List.not_mem_nil, or_false]
  omega
theorem allD_iff {f : List Nat} : allD f = true ↔ AllDigits f := by
  unfold allD AllDigits
  rw [List.all_eq_true]
  exact ⟨fun h c hc => (figL_iff c).mp (of_decide_eq_true (h c hc)), fun h c hc => decide_eq_true ((figL_iff c).mpr (h c hc))⟩
/-- the text of a number -/
def intL (i : Int) : List Nat := if 0 ≤ i then TL.numL i.toNat else 45 :: TL.numL (-i).toNat
theorem cps_ofString (s : String) : (Str.ofString s).cps.toList = s.toList.map Char.toNat := signs_ofString s
theorem str_int (i : Int) : Str.ofString (toString i) = SX.S (intL i) := by
  unfold intL
  by_cases h : 0 ≤ i
  · rw [if_pos h]
    obtain ⟨n, rfl⟩ := Int.eq_ofNat_of_zero_le h
    exact SX.num_S n
  · rw [if_neg h]
    obtain ⟨n, rfl⟩ : ∃ n : Nat, i = Int.negSucc n := ⟨(-i).toNat - 1, by omega⟩
    refine TL.ext_tl ?_
    show (Str.ofString (toString (Int.negSucc n))).cps.toList = 45 :: TL.numL (n + 1)
    rw [cps_ofString]
    have e : toString (Int.negSucc n) = "-" ++ toString (n + 1) := rfl
    rw [e, String.toList_append, List.map_append]
    show 45 :: (toString (n + 1)).toList.map Char.toNat = _
    congr 1
    show (Nat.repr (n + 1)).toList.map Char.toNat = _
    rw [Nat.toList_repr]
    rfl
theorem numL_zero : TL.numL 0 = [48] := by rw [TL.numL_lt (by decide)]
theorem numL_head : ∀ n : Nat, 0 < n → (TL.numL n).head? ≠ some 48 := by
  intro n; induction n using Nat.strongRecOn with
  | _ n ih =>
    intro h0
    by_cases h : n < 10
    · rw [TL.numL_lt h]
      intro z
      have z : 48 + n = 48 := Option.some.inj z
      omega
    · rw [TL.numL_step (by omega)]
      have z := ih (n / 10) (by omega) (by omega)
      have ne := TL.numL_ne (n / 10)
      cases e : TL.numL (n / 10) with
      | nil => exact absurd e ne
      | cons c r => rw [e] at z; exact z
theorem ofNat_toNat : ∀ (cs : List Nat), AllDigits cs → (cs.map Char.ofNat).map Char.toNat = cs
  | [], _ => rfl
  | c :: cs, h => by
    rw [List.map_cons, List.map_cons, ofNat_toNat cs h.tail]
    have hc := h.head
    have e : ∀ d : Nat, d < 10 → (Char.ofNat (48 + d)).toNat = 48 + d := by decide
    have e2 := e (c - 48) (by omega)
    rw [show 48 + (c - 48) = c by omega] at e2
    rw [e2]
/-- a number's digits are its text, but for noughts ahead -/
theorem numL_of {f : List Nat} (hd : AllDigits f) (hne : f ≠ []) : TL.numL (digitsVal f) = f ↔ (f.head? ≠ some 48 ∨ f = [48]) := by
  cases f with
  | nil => exact absurd rfl hne
  | cons c r =>
    by_cases hc : c = 48
    · subst hc
      refine ⟨fun e => .inr ?_, fun h => ?_⟩
      · by_cases hv : digitsVal (48 :: r) = 0
        · rw [hv, numL_zero] at e
          exact e.symm
        · have z := numL_head _ (by omega : 0 < digitsVal (48 :: r))
          rw [e] at z
          exact absurd rfl z
      · rcases h with h | h
        · exact absurd rfl h
        · rw [h]
          exact numL_zero
    · refine ⟨fun _ => .inl fun z => hc (Option.some.inj z), fun _ => ?_⟩
      have hh := hd.head
      have e := toDigits_digitsVal r.length (c :: r) rfl hd (.inr ⟨c, r, rfl, by omega⟩)
      show (Nat.toDigits 10 (digitsVal (c :: r))).map Char.toNat = _
      rw [e]
      exact ofNat_toNat _ hd
/-! ### a word -/
def figs (w : List Nat) : List Nat := if w.take 1 = [45] then w.drop 1 else w
def valW (w : List Nat) : Int := if w.take 1 = [45] then -((digitsVal (figs w) : Nat) : Int) else ((digitsVal (figs w) : Nat) : Int)
def readNum (w : List Nat) : Option Int := if figs w = [] ∨ allD (figs w) = false then none else if (figs w).head? = some 48 ∧ w ≠ [48] then none else some (valW w)
theorem minus_of {w : List Nat} (h : w.take 1 = [45]) : w = 45 :: w.drop 1 := by
  cases w with
  | nil => cases h
  | cons c r =>
    have e : c = 45 := (List.cons.inj (show [c] = [45] from h)).1
    rw [e]
    rfl
theorem figs_len (w : List Nat) : (figs w).length ≤ w.length := by
  unfold figs
  split
  · rw [List.length_drop]; omega
  · exact Nat.le_refl _
theorem int_text {w : List Nat} (hne : figs w ≠ []) (hd : allD (figs w) = true) (hl : w.length ≤ 4300) : intText? (SX.S w) = some (valW w) := by
  have hD := allD_iff.mp hd
  unfold valW
  by_cases h : w.take 1 = [45]
  · rw [if_pos h]
    have ef : figs w = w.drop 1 := if_pos h
    have e := minus_of h
    exact intText_neg (x := SX.S w) (cs := figs w) (by rw [ef]; exact e) hD hne (by rw [SX.S_len]; exact hl)
  · rw [if_neg h]
    have ef : figs w = w := if_neg h
    rw [ef] at hD hne ⊢
    exact intText_digits (x := SX.S w) hD hne (by rw [SX.S_len]; exact hl)
theorem canon {w : List Nat} (hne : figs w ≠ []) (hd : allD (figs w) = true) : intL (valW w) = w ↔ ¬ ((figs w).head? = some 48 ∧ w ≠ [48]) := by
  have hD := allD_iff.mp hd
  have key := numL_of hD hne
  unfold valW
  by_cases h : w.take 1 = [45]
  · rw [if_pos h]
    have ef : figs w = w.drop 1 := if_pos h
    have e := minus_of h
    have w48 : w ≠ [48] := fun z => by rw [z] at h; exact absurd h (by decide)
    by_cases hv : digitsVal (figs w) = 0
    · rw [hv]
      have h0 : (figs w).head? = some 48 := by
        cases hf : figs w with
        | nil => exact absurd hf hne
        | cons c r =>
          by_cases hc : c = 48
          · rw [hc]; rfl
          · have z := digitsVal_pos (cs := r) (show 49 ≤ c by have := hD c (by rw [hf]; exact List.mem_cons_self ..); omega)
            rw [← hf, hv] at z
            exact absurd z (by decide)
      refine ⟨fun z => ?_, fun z => absurd ⟨h0, w48⟩ z⟩
      have z : TL.numL 0 = w := z
      rw [numL_zero] at z
      exact absurd z.symm w48
    · have en : intL (-((digitsVal (figs w) : Nat) : Int)) = 45 :: TL.numL (digitsVal (figs w)) := by
        unfold intL
        rw [if_neg (by omega), Int.neg_neg, Int.toNat_natCast]
      rw [en]
      have e2 : (45 :: TL.numL (digitsVal (figs w)) = w) ↔ (figs w).head? ≠ some 48 := by
        constructor
        · intro z hh
          rw [e, ← ef] at z
          rcases key.mp (List.cons.inj z).2 with k | k
          · exact k hh
          · rw [k] at hv
            exact hv rfl
        · intro hh
          rw [key.mpr (.inl hh), ef]
          exact e.symm
      rw [e2]
      exact ⟨fun a b => a b.1, fun a b => a ⟨b, w48⟩⟩
  · rw [if_neg h]
    have ef : figs w = w := if_neg h
    rw [ef] at key ⊢
    have en : intL ((digitsVal w : Nat) : Int) = TL.numL (digitsVal w) := by
      unfold intL; rw [if_pos (by omega), Int.toNat_natCast]
    rw [en, key]
    constructor
    · rintro (a | a) ⟨b, c⟩
      · exact a b
      · exact c a
    · intro a
      by_cases b : w = [48]
      · exact .inr b
      · exact .inl fun z => a ⟨z, b⟩
theorem intL_digits (i : Int) : figs (intL i) = TL.numL i.natAbs ∧ valW (intL i) = i := by
  have hn : ∀ n : Nat, (TL.numL n).take 1 ≠ [45] := fun n z => by
    cases e : TL.numL n with
    | nil => exact TL.numL_ne n e
    | cons c r =>
      rw [e] at z
      have := (TL.numL_digits n) c (by rw [e]; exact List.mem_cons_self ..)
      have z2 : c = 45 := (List.cons.inj (show [c] = [45] from z)).1
      omega
  unfold intL
  by_cases h : 0 ≤ i
  · rw [if_pos h]
    have e : figs (TL.numL i.toNat) = TL.numL i.toNat := if_neg (hn _)
    unfold valW
    rw [if_neg (hn _), e, TL.numL_val]
    exact ⟨by congr 1; omega, by omega⟩
  · rw [if_neg h]
    have e : figs (45 :: TL.numL (-i).toNat) = TL.numL (-i).toNat := if_pos rfl
    unfold valW
    rw [if_pos (show (45 :: TL.numL (-i).toNat).take 1 = [45] from rfl), e, TL.numL_val]
    exact ⟨by congr 1; omega, by omega⟩
theorem readNum_intL (i : Int) : readNum (intL i) = some i := by
  obtain ⟨e1, e2⟩ := intL_digits i
  have hne : figs (intL i) ≠ [] := by rw [e1]; exact TL.numL_ne _
  have hd : allD (figs (intL i)) = true := by rw [e1]; exact allD_iff.mpr (TL.numL_digits _)
  unfold readNum
  rw [if_neg (fun z => z.elim hne (fun z => by rw [hd] at z; cases z)), if_neg ((canon hne hd).mp (by rw [e2])), e2]
theorem intL_free {i : Int} {c : Nat} (h : c < 45 ∨ 57 < c ∨ c = 46 ∨ c = 47) : c ∉ intL i := by
  unfold intL
  split
  · exact TL.numL_free (by omega)
  · intro z
    exact (List.mem_cons.mp z).elim (fun z => by omega) (TL.numL_free (by omega))
theorem intL_ne (i : Int) : intL i ≠ [] := by
  unfold intL
  split
  · exact TL.numL_ne _
  · exact List.cons_ne_nil _ _
theorem intL_len {i : Int} {k : Nat} (hk : 0 < k) (h : i.natAbs < 10 ^ k) : (intL i).length ≤ k + 1 := by
  unfold intL
  split
  · have := TL.numL_len hk (show i.toNat < 10 ^ k by omega)
    omega
  · have := TL.numL_len hk (show (-i).toNat < 10 ^ k by omega)
    rw [List.length_cons]
    omega
theorem digitsVal_lt : ∀ (f : List Nat), AllDigits f → digitsVal f < 10 ^ f.length := by
  have g : ∀ (f : List Nat) (a : Nat), AllDigits f → f.foldl (fun acc c => acc * 10 + (c - 48)) a < (a + 1) * 10 ^ f.length := by
    intro f
    induction f with
    | nil => intro a _; simp
    | cons c f ih =>
      intro a h
      have hc := h.head
      rw [List.foldl_cons, List.length_cons, Nat.pow_succ]; refine Nat.lt_of_lt_of_le (ih _ h.tail) ?_
      have e : a * 10 + (c - 48) + 1 ≤ (a + 1) * 10 := by omega
      have := Nat.mul_le_mul_right (10 ^ f.length) e
      rw [Nat.mul_assoc, Nat.mul_comm 10] at this
      exact this
  intro f h
  have := g f 0 h
  rw [Nat.zero_add, Nat.one_mul] at this
  exact this
theorem val_log {w : List Nat} (hd : allD (figs w) = true) (hl : w.length ≤ 300) : (valW w).natAbs.log2 < 1920 := by
  have h1 := digitsVal_lt _ (allD_iff.mp hd)
  have h2 := figs_len w
  have e : (valW w).natAbs = digitsVal (figs w) := by unfold valW; split <;> omega
  rw [e]
  by_cases h0 : digitsVal (figs w) = 0
  · rw [h0]; decide
  · rw [Nat.log2_lt h0]
    refine Nat.lt_of_lt_of_le h1 (Nat.le_trans (Nat.pow_le_pow_right (by decide) (Nat.le_trans h2 hl)) ?_)
    decide +kernel
/-- the law's look at a word -/
def numSo (w : List Nat) : Bool := !decide (figs w = []) && (allD (figs w) && decide (intL (valW w) = w))
theorem numSo_read (w : List Nat) : readNum w = if numSo w = true then some (valW w) else none := by
  unfold readNum numSo
  by_cases h1 : figs w = []
  · rw [if_pos (.inl h1), decide_eq_true h1]; rfl
  · cases h2 : allD (figs w) with
    | false => rw [if_pos (.inr rfl), Bool.false_and, Bool.and_false, if_neg Bool.false_ne_true]
    | true =>
      rw [if_neg (fun z => z.elim h1 (fun z => by cases z)), decide_eq_false h1]
      have k := canon h1 h2
      by_cases h3 : (figs w).head? = some 48 ∧ w ≠ [48]
      · rw [if_pos h3, decide_eq_false (fun z => k.mp z h3)]; rfl
      · rw [if_neg h3, decide_eq_true (k.mpr h3)]; rfl

/-! Texts of stretches. -/
open PySem PySem.Spec PyProof.Rows L2 Evl RZ NumText



section
variable {K : PySem.W.Frag} {σ : L2.St} {G H : Hp} {L : List (Addr × HO)} {Q : VK} {D : Ends} {E : XK}
def sideL : Option Int → List Nat
  | none => []
  | some i => intL i
def sp_side_text (K : PySem.W.Frag) : Sp := fun vs H Q _ => ∃ o : Option Int, vs = [oV o] ∧ (∀ i, o = some i → i.natAbs < 10 ^ 20) ∧ Q (.str (SX.S (sideL o))) H
def t_side_text (K : PySem.W.Frag) : TS :=
  (tRet (tIf (tTest (tOp rIsN (tVar 0) (tC .non))) (tC (.str "")) (tCB gStr (tCons (tVar 0) tNil))))
theorem log_20 {i : Int} (h : i.natAbs < 10 ^ 20) : i.natAbs.log2 < 1920 := by
  by_cases h0 : i.natAbs = 0
  · rw [h0]; decide
  · rw [Nat.log2_lt h0]
    exact Nat.lt_of_lt_of_le h (by decide +kernel)
theorem rd_str {i : Int} (h : i.natAbs.log2 < 1920) (q : Q (.str (SX.S (intL i))) H) : gStr [.int i] H Q := ⟨i, rfl, h, by rw [← str_int] at q; exact q⟩
theorem sat_side_text {vs : List V} {E : XK} (h : sp_side_text K vs H Q E) : vs.length = 1 ∧ t_side_text K { nx := fun _ H' => Q .non H', rt := Q } (vs.map some ++ List.replicate (1 - vs.length) none) H := by
  obtain ⟨o, rfl, hb, q⟩ := h
  refine ⟨rfl, ?_⟩
  unfold t_side_text
  cases o with
  | none =>
    walk_at "gc"
    exact q
  | some i =>
    walk_at "gc"
    exact rd_str (log_20 (hb i rfl)) q
/-- the text of a stretch -/
def stL : SD → List Nat
  | none => [95]
  | some (a, b) => sideL a ++ ([46, 46] ++ sideL b)
def stBd (s : SD) : Prop := ∀ a b, s = some (a, b) → (∀ i, a = some i → i.natAbs < 10 ^ 20) ∧ ∀ i, b = some i → i.natAbs < 10 ^ 20
theorem sideL_len {o : Option Int} (h : ∀ i, o = some i → i.natAbs < 10 ^ 20) : (sideL o).length ≤ 21 := by
  cases o with
  | none => exact Nat.zero_le _
  | some i => exact intL_len (k := 20) (by decide) (h i rfl)
def sp_stretch_text (K : PySem.W.Frag) : Sp := fun vs H Q _ => ∃ (x : V) (s : SD), vs = [x] ∧ StV K H x s ∧ stBd s ∧ Q (.str (SX.S (stL s))) H
def t_stretch_text_1 (K : PySem.W.Frag) : TS :=
  (tRet (tFs [(tFmt (tCall (sp_side_text K) [] E0 (tCons (tOp (rIx K) (tVar 0) (tC (.int 0))) tNil))), (tC (.str "..")), (tFmt (tCall (sp_side_text K) [] E0 (tCons (tOp (rIx K) (tVar 0) (tC (.int 1))) tNil)))]))
def t_stretch_text (K : PySem.W.Frag) : TS :=
  (tSeq (tIfS (tTest (tOp rIsN (tVar 0) (tC .non))) (tRet (tC (.str "_"))) tNext)
  (t_stretch_text_1 K))
theorem sat_stretch_text {vs : List V} (h : sp_stretch_text K vs H Q E) : vs.length = 1 ∧ t_stretch_text K { nx := fun _ H' => Q .non H', rt := Q } (vs.map some ++ List.replicate (1 - vs.length) none) H := by
  obtain ⟨x, s, rfl, hx, hb, q⟩ := h
  refine ⟨rfl, ?_⟩
  unfold t_stretch_text
  cases s with
  | none =>
    obtain rfl : x = .non := hx
    walk_at "gc"
    exact q
  | some ab =>
    obtain ⟨a, b⟩ := ab
    obtain ⟨p, rfl, hp⟩ := hx
    have ⟨b1, b2⟩ := hb a b rfl
    have l1 := sideL_len b1
    have l2 := sideL_len b2
    walk_at "go"
    unfold t_stretch_text_1
    refine rd_ret (rd_fs (rd_js (rd_fmt (rd_call (rd_cons (rd_op (rd_var rfl (rd_c (rd_ixT hp rfl (rd_nil ?_))))))))))
    refine ⟨a, rfl, b1, .inl ⟨_, rfl, by rw [SX.S_len]; exact sz_of (by omega), _, rfl, ?_, ?_⟩⟩
    · show (SX.S [] ++ SX.S (sideL a)).length ≤ _
      rw [SX.S_cat, SX.S_len]
      exact sz_of (by simp; omega)
    refine rd_js (rd_c ⟨_, rfl, ?_, ?_⟩)
    · show (SX.S [] ++ SX.S (sideL a) ++ SX.S [46, 46]).length ≤ _
      rw [SX.S_cat, SX.S_cat, SX.S_len]
      exact sz_of (by simp; omega)
    refine rd_js (rd_fmt (rd_call (rd_cons (rd_op (rd_var rfl (rd_c (rd_ixT hp rfl (rd_nil ?_))))))))
    refine ⟨b, rfl, b2, .inl ⟨_, rfl, by rw [SX.S_len]; exact sz_of (by omega), _, rfl, ?_, ?_⟩⟩
    · show (SX.S [] ++ SX.S (sideL a) ++ SX.S [46, 46] ++ SX.S (sideL b)).length ≤ _
      rw [SX.S_cat, SX.S_cat, SX.S_cat, SX.S_len]
      exact sz_of (by simp; omega)
    refine rd_js0 ?_
    have e : Str.empty ++ SX.S (sideL a) ++ (".." : Str) ++ SX.S (sideL b) = SX.S (stL (some (a, b))) := by
      show SX.S [] ++ SX.S (sideL a) ++ SX.S [46, 46] ++ SX.S (sideL b) = _
      rw [SX.S_cat, SX.S_cat, SX.S_cat, List.nil_append, List.append_assoc]
      rfl
    rw [e]
    exact q
end

/-! Texts as lists of codes, read. -/
section
variable {K : PySem.W.Frag} {σ : L2.St} {G H : Hp} {L : List (Addr × HO)} {Q : VK} {D : Ends} {w u : List Nat} {z : Str} {n : Nat}
theorem S_eq {a : List Nat} {z : Str} : SX.S a = z ↔ a = z.cps.toList := ⟨fun e => congrArg (fun s : Str => s.cps.toList) e, fun e => by subst e; exact SX.S_tl z⟩
theorem S_dec {a : List Nat} {z : Str} : decide (SX.S a = z) = decide (a = z.cps.toList) := decide_eq_decide.mpr S_eq
theorem S_inj {a b : List Nat} (h : SX.S a = SX.S b) : a = b := S_eq.mp h
theorem rd_slS0 {lo hi : Option Int} (h : z.length ≤ sizeLine) (q : Q (.str (cutS z lo hi)) H) : gSl K (.str z) lo hi H Q := .inr (.inl ⟨z, rfl, h, q⟩)
theorem rd_sliceTo (h : w.length ≤ 100000) (q : Q (.str (SX.S (w.take n))) H) : gSl K (.str (SX.S w)) none (some (n : Nat)) H Q := by
  refine rd_slS0 (by rw [SX.S_len]; exact sz_of h) ?_
  rw [C8.cutS_slice, SX.slice_to (Int.natCast_nonneg _), Int.toNat_natCast]
  exact q
theorem rd_sliceFrom (h : w.length ≤ 100000) (q : Q (.str (SX.S (w.drop n))) H) : gSl K (.str (SX.S w)) (some (n : Nat)) none H Q := by
  refine rd_slS0 (by rw [SX.S_len]; exact sz_of h) ?_
  rw [C8.cutS_slice, SX.slice_from (Int.natCast_nonneg _), Int.toNat_natCast]
  exact q
theorem rd_addSS (h : w.length + u.length ≤ 100000) (q : Q (.str (SX.S (w ++ u))) H) : gAdd K (.str (SX.S w)) (.str (SX.S u)) H Q := by
  refine rd_addS (by rw [SX.S_len, SX.S_len]; exact sz_of h) ?_
  rw [SX.S_cat]
  exact q
theorem rd_lenSS (h : w.length ≤ 100000) (q : Q (.int w.length) H) : gLen K [.str (SX.S w)] H Q := by
  refine rd_lenS (by rw [SX.S_len]; exact sz_of h) ?_
  rw [SX.S_len]
  exact q
theorem rd_inSg {c : Nat} (q : Q (.bl (decide (c ∈ z.cps.toList))) H) : gIn K (.str ⟨#[c]⟩) (.str z) H Q := .inl ⟨c, z, rfl, rfl, q⟩
theorem rd_ixSS {i c : Nat} (h : w.length ≤ 100000) (e : w[i]? = some c) (q : Q (.str (SX.S [c])) H) : rIx K (.str (SX.S w)) (.int (i : Nat)) H Q :=
  rd_ixS (by rw [SX.S_len]; exact sz_of h) (atI_nat e) q
end
section
variable {W : Hp → Hp → List (Addr × HO) → Prop} {K : PySem.W.Frag} {G H : Hp} {L : List (Addr × HO)} {σ : L2.St} {te : TE} {Q : VK} {w : List Nat} {j : Nat}
/-- [test of the sign for each sign of a text] -/
theorem lc_signs (hW : Wd W) (S : W G H L) (hz : w.length < 100000) (hw : ∀ x, wipe ((wipe σ [j]).set j (some x)) [j] = wipe σ [j]) (f : Nat → Bool)
    (hS : ∀ c acc D G1 H1, Ex G G1 → W G1 H1 ((D, .lst acc) :: L) → ∀ Kp : VK, (∀ H2, W G1 H2 ((D, .lst acc) :: L) → Kp (.bl (f c)) H2) → te ((wipe σ [j]).set j (some (.str ⟨#[c]⟩))) H1 Kp)
    (q : ∀ D G2 H2, Ex G G2 → W G2 H2 ((D, .lst ((w.map f).map V.bl)) :: L) → Q (.ref D) H2) : LcG (Its (SX.S w)) (gName j) tYes te [j] σ H Q := by
  have hs : (SX.S w).cps.size = w.length := by simp
  refine lc_go hW (walk_str (z := SX.S w)) S (by rw [hs]; omega) (fun i v _ => ∃ c, w[i]? = some c ∧ v = .str ⟨#[c]⟩) (fun i acc _ => acc = ((w.take i).map f).map V.bl) (fun _ _ => True.intro) ?_ rfl (fun _ _ _ _ _ h => h) ?_ ?_
  · rintro i x G1 H1 H2 L1 hi e1 S1 ⟨rfl, c, hc, rfl⟩
    exact ⟨G1, Ex.refl _, S1, c, by rw [← hc]; simp, rfl⟩
  · rintro D i x acc G1 H1 hi _ e1 S1 I1 ⟨c, hc, rfl⟩ Kp Sk kp sk
    refine rd_name ⟨hw _, rd_yes (rd_iT ?_)⟩
    refine hS c acc D G1 H1 e1 S1 _ fun H2 S2 => kp _ G1 H2 (Ex.refl _) S2 ?_
    rw [I1, List.take_add_one, hc, List.map_append, List.map_append]
    rfl
  · intro D acc G2 H2 e2 S2 I2 _
    rw [hs, List.take_length] at I2
    subst I2
    exact q D G2 H2 e2 S2
end

/-! Numbers and stretches read off texts, beside the texts of stretches. -/
open PySem PySem.Spec PyProof.Rows L2 Evl RZ NumText



def v_FIGURES : V := .str "0123456789"
section
variable {K : PySem.W.Frag} {σ : L2.St} {G H : Hp} {L : List (Addr × HO)} {Q : VK} {D : Ends}
def numD : Option Int → List PyData
  | none => []
  | some i => [.int i]
def sp_read_number (K : PySem.W.Frag) : Sp := fun vs H Q _ => ∃ (w : List Nat) (G : Hp) (L : List (Addr × HO)), vs = [.str (SX.S w)] ∧ w.length ≤ 300 ∧ Stt G H L ∧ ∀ v G' H', Ex G G' → Stt G' H' L → Dp K G' v (.list (numD (readNum w))) → Q v H'
def t_read_number_3 (K : PySem.W.Frag) : TS :=
  (tRet (tLst (tCons (tCB gInt (tCons (tVar 0) tNil)) tNil)))
def t_read_number_2 (K : PySem.W.Frag) : TS :=
  (tSeq (tIfS (tAnd (tTest (tOp (gEq K) (tOp (rIx K) (tVar 1) (tC (.int 0))) (tC (.str "0")))) (tTest (tOp (gNe K) (tVar 0) (tC (.str "0"))))) (tRet (tLst tNil)) tNext)
  (t_read_number_3 K))
def t_read_number_1 (K : PySem.W.Frag) : TS :=
  (tSeq (tIfS (tOr (tTest (tOp (gEq K) (tVar 1) (tC (.str "")))) (tNot (tB (tCB (rAll K) (tCons (tLc (iStr (tVar 1)) (gName 2) tYes (tOp (gIn K) (tVar 2) (tC v_FIGURES)) [2]) tNil))))) (tRet (tLst tNil)) tNext)
  (t_read_number_2 K))
def t_read_number (K : PySem.W.Frag) : TS :=
  (tSeq (tAsg (tIf (tTest (tOp (gEq K) (tSl (gSl K) (tVar 0) tNoPart (tPart (tC (.int 1)))) (tC (.str "-")))) (tSl (gSl K) (tVar 0) (tPart (tC (.int 1))) tNoPart) (tVar 0)) (gName 1))
  (t_read_number_1 K))
/-- the figures of a word, told -/
theorem rd_figs {w : List Nat} (hl : w.length ≤ 300) (hi : σ[0]? = some (some (.str (SX.S w)))) (q : Q (.str (SX.S (figs w))) H) :
    tIf (tTest (tOp (gEq K) (tSl (gSl K) (tVar 0) tNoPart (tPart (tC (.int 1)))) (tC (.str "-")))) (tSl (gSl K) (tVar 0) (tPart (tC (.int 1))) tNoPart) (tVar 0) σ H Q := by
  refine rd_if (rd_test (rd_op (rd_sl (rd_var hi (rd_noPart (rd_part (rd_c (rd_int ?_))))))))
  refine rd_sliceTo (n := 1) (by omega) ?_
  refine rd_c (rd_eqS (rd_bl ?_))
  rw [S_dec]
  refine rd_dec (fun e => ?_) (fun e => ?_)
  · refine rd_sl (rd_var hi (rd_part (rd_c (rd_int (rd_noPart ?_)))))
    refine rd_sliceFrom (n := 1) (by omega) ?_
    rw [show figs w = w.drop 1 from if_pos e] at q
    exact q
  · refine rd_var hi ?_
    rw [show figs w = w from if_neg e] at q
    exact q
/-- all of the signs are figures -/
theorem rd_allFigs {w : List Nat} {i j : Nat} {z : Str} (S : Stt G H L) (hz : z.cps.toList = figL) (hl : w.length ≤ 300) (hi : σ[i]? = some (some (.str (SX.S w)))) (hw : ∀ x, wipe ((wipe σ [j]).set j (some x)) [j] = wipe σ [j]) (hj : ∀ x, ((wipe σ [j]).set j (some x))[j]? = some (some x))
    (q : ∀ H', Stt G H' L → Q (.bl (allD w)) H') : tCB (rAll K) (tCons (tLc (iStr (tVar i)) (gName j) tYes (tOp (gIn K) (tVar j) (tC (.str z))) [j]) tNil) σ H Q := by
  refine rd_cb (rd_cons (rd_lc (rd_is (rd_var hi ⟨_, rfl, ?_⟩))))
  refine lc_signs stt_world S (by omega) hw (fun c => decide (c ∈ figL)) (fun c acc D1 G1 H1 e1 S1 Kp kp => ?_) (fun D1 G1 H1 e1 S1 => ?_)
  · refine rd_op (rd_var (hj _) (rd_c (rd_inSg ?_)))
    rw [hz]
    exact kp H1 S1
  · refine rd_nil ?_
    refine rd_all (sq_of (S1.at 0 rfl)) ?_
    have := q H1 (S1.drop.less e1)
    unfold allD at this
    rw [List.all_map]
    exact this
theorem figs_all {w : List Nat} (h : allD (figs w) = true) {c : Nat} {r : List Nat} (e : figs w = c :: r) : 48 ≤ c ∧ c ≤ 57 := allD_iff.mp h c (by rw [e]; exact List.mem_cons_self ..)
theorem read_read_number {w : List Nat} {a1 a2 : Option V} (S : Stt G H L) (hl : w.length ≤ 300) (q : ∀ v G' H', Ex G G' → Stt G' H' L → Dp K G' v (.list (numD (readNum w))) → D.rt v H') : t_read_number K D [some (.str (SX.S w)), a1, a2] H := by
  have fl := figs_len w
  have none_ : readNum w = none → ∀ H1, Stt G H1 L → tLst tNil [some (.str (SX.S w)), some (.str (SX.S (figs w))), a2] H1 D.rt := fun e H1 S1 => by
    walk_at "go"
    refine mk_lst stt_world S1 (Nat.zero_le _) fun p G2 e2 S2 h2 => ?_
    exact q _ G2 _ e2 S2 (by rw [e]; exact .lst (sq_of h2) .nil)
  unfold t_read_number
  refine rd_seq (rd_asg ?_)
  refine rd_figs hl rfl ?_
  walk_at "go"
  unfold t_read_number_1
  refine rd_seq (rd_ifs (rd_or (rd_test (rd_op (rd_var rfl (rd_c (rd_eqS (rd_bl ?_))))))))
  rw [S_dec]
  refine rd_dec (fun e => ?_) (fun e => ?_)
  · walk_at "go"
    exact none_ (by unfold readNum; rw [if_pos (.inl e)]) H S
  · refine rd_not (rd_B ?_)
    refine rd_allFigs (z := "0123456789") S rfl (by omega) rfl (fun _ => rfl) (fun _ => rfl) fun H1 S1 => ⟨_, rfl, ?_⟩
    cases hd : allD (figs w) with
    | false =>
      walk_at "go"
      exact none_ (by unfold readNum; rw [if_pos (.inr hd)]) H1 S1
    | true =>
      walk_at "go"
      unfold t_read_number_2
      obtain ⟨c, r, hf⟩ : ∃ c r, figs w = c :: r := by
        cases hf : figs w with
        | nil => exact absurd hf e
        | cons c r => exact ⟨c, r, rfl⟩
      have hne : figs w ≠ [] := e
      refine rd_seq (rd_ifs (rd_and (rd_test (rd_op (rd_op (rd_var rfl (rd_c ?_)))))))
      refine rd_ixSS (i := 0) (c := c) (by omega) (by rw [hf]; rfl) ?_
      refine rd_c (rd_eqS (rd_bl ?_))
      rw [S_dec]
      have last : ¬ ((figs w).head? = some 48 ∧ w ≠ [48]) → t_read_number_3 K D [some (.str (SX.S w)), some (.str (SX.S (figs w))), a2] H1 := fun h => by
        unfold t_read_number_3
        walk_at "go"
        refine .inr ⟨_, valW w, rfl, int_text hne hd (by omega), by rw [SX.S_len]; omega, ?_⟩
        walk_at "go"
        refine mk_lst stt_world S1 (by show 1 ≤ 100000; decide) fun p G2 e2 S2 h2 => ?_
        refine q _ G2 _ e2 S2 ?_
        have er : readNum w = some (valW w) := by unfold readNum; rw [if_neg (fun z => z.elim hne (fun z => by rw [hd] at z; cases z)), if_neg h]
        rw [er]
        exact .lst (sq_of h2) (.cons (.int _) .nil)
      have hh : (figs w).head? = some c := by rw [hf]; rfl
      refine rd_dec (fun e1 => ?_) (fun e1 => ?_)
      · have ec : c = 48 := (List.cons.inj (show [c] = [48] from e1)).1
        refine rd_test (rd_op (rd_var rfl (rd_c (rd_neS (rd_bl ?_)))))
        rw [S_dec]
        refine rd_decN (fun e2 => ?_) (fun e2 => ?_)
        · walk_at "go"
          have e2' : w = [48] := e2
          exact last fun h => h.2 e2'
        · walk_at "go"
          refine none_ ?_ H1 S1
          unfold readNum
          rw [if_neg (fun z => z.elim hne (fun z => by rw [hd] at z; cases z)), if_pos ⟨by rw [hh, ec], e2⟩]
      · walk_at "go"
        exact last fun h => e1 (by
          have z : c = 48 := Option.some.inj (hh.symm.trans h.1)
          rw [z]; rfl)
theorem sat_read_number {vs : List V} {E : XK} (h : sp_read_number K vs H Q E) : vs.length = 1 ∧ t_read_number K { nx := fun _ H' => Q .non H', rt := Q } (vs.map some ++ List.replicate (3 - vs.length) none) H := by
  obtain ⟨w, G, L, rfl, hl, S, q⟩ := h
  exact ⟨rfl, read_read_number S hl q⟩
/-- what a word writes as one side -/
def sideD (w : List Nat) : List PyData := if w = [] then [.none] else numD (readNum w)
def sp_read_side (K : PySem.W.Frag) : Sp := fun vs H Q _ => ∃ (w : List Nat) (G : Hp) (L : List (Addr × HO)), vs = [.str (SX.S w)] ∧ w.length ≤ 300 ∧ Stt G H L ∧ ∀ v G' H', Ex G G' → Stt G' H' L → Dp K G' v (.list (sideD w)) → Q v H'
def t_read_side (K : PySem.W.Frag) : TS :=
  (tRet (tIf (tTest (tOp (gEq K) (tVar 0) (tC (.str "")))) (tLst (tCons (tC .non) tNil)) (tCall (sp_read_number K) [] E0 (tCons (tVar 0) tNil))))
theorem sat_read_side {vs : List V} {E : XK} (h : sp_read_side K vs H Q E) : vs.length = 1 ∧ t_read_side K { nx := fun _ H' => Q .non H', rt := Q } (vs.map some ++ List.replicate (1 - vs.length) none) H := by
  obtain ⟨w, G, L, rfl, hl, S, q⟩ := h
  refine ⟨rfl, ?_⟩
  unfold t_read_side
  refine rd_ret (rd_if (rd_test (rd_op (rd_var rfl (rd_c (rd_eqS (rd_bl ?_)))))))
  rw [S_dec]
  refine rd_dec (fun e => ?_) (fun e => ?_)
  · walk_at "go"
    refine mk_lst stt_world S (by show 1 ≤ 100000; decide) fun p G2 e2 S2 h2 => ?_
    refine q _ G2 _ e2 S2 ?_
    rw [show sideD w = [.none] from if_pos e]
    exact .lst (sq_of h2) (.cons .non .nil)
  · walk_at "go"
    refine ⟨w, G, L, rfl, hl, S, fun v G' H' e' S' hv => q v G' H' e' S' ?_⟩
    rw [show sideD w = numD (readNum w) from if_neg e]
    exact hv
end
/-- one side, read -/
def sideOf (w : List Nat) : Option (Option Int) := if w = [] then some none else (readNum w).map some
theorem sideD_of (w : List Nat) : sideD w = match sideOf w with
    | none => []
    | some o => [oD o] := by
  unfold sideD sideOf
  by_cases h : w = []
  · rw [if_pos h, if_pos h]; rfl
  · rw [if_neg h, if_neg h]
    cases readNum w <;> rfl
/-- what follows the pieces of a text -/
def rdPs : List (List Nat) → Option SD
  | [a, b] => match sideOf a, sideOf b with
    | some x, some y => if leV (oD x) (oD y) = true then some (some (x, y)) else none
    | _, _ => none
  | _ => none
/-- a stretch read off a text -/
def rdSt (t : List Nat) : Option SD := if t = [95] then some none else rdPs (TL.spl [46, 46] 0 [] t)
theorem spl_bd (S : List Nat) : ∀ (l : List Nat) (k : Nat) (acc : List Nat), (TL.spl S k acc l).length ≤ l.length + 1 ∧ ∀ p, p ∈ TL.spl S k acc l → p.length ≤ acc.length + l.length
  | [], k, acc => by
    rw [TL.spl_nil]
    exact ⟨Nat.le_refl _, fun p hp => by rw [List.mem_singleton.mp hp]; exact Nat.le_refl _⟩
  | c :: r, 0, acc => by
    cases h : TL.pre S (c :: r) with
    | true =>
      rw [TL.spl_hit h]
      have ⟨i1, i2⟩ := spl_bd S r (S.length - 1) []
      refine ⟨by rw [List.length_cons, List.length_cons]; omega, fun p hp => ?_⟩; rcases List.mem_cons.mp hp with rfl | hp
      · omega
      · have := i2 p hp
        rw [List.length_nil] at this
        rw [List.length_cons]; omega
    | false =>
      rw [TL.spl_miss h]
      have ⟨i1, i2⟩ := spl_bd S r 0 (acc ++ [c])
      refine ⟨by rw [List.length_cons]; omega, fun p hp => ?_⟩
      have := i2 p hp
      rw [List.length_append, List.length_singleton] at this
      rw [List.length_cons]; omega
  | c :: r, k + 1, acc => by
    have ⟨i1, i2⟩ := spl_bd S r k acc
    have e : TL.spl S (k + 1) acc (c :: r) = TL.spl S k acc r := rfl
    rw [e]
    refine ⟨by rw [List.length_cons]; omega, fun p hp => ?_⟩
    have := i2 p hp
    rw [List.length_cons]; omega
/-! ### numbers of a side -/
theorem sideL_dot : ∀ o : Option Int, 46 ∉ sideL o
  | none => fun h => nomatch h
  | some i => intL_free (.inr (.inr (.inl rfl)))
theorem sideOf_L : ∀ o : Option Int, sideOf (sideL o) = some o
  | none => rfl
  | some i => by
    unfold sideOf
    rw [if_neg (show sideL (some i) ≠ [] from intL_ne i), show sideL (some i) = intL i from rfl, readNum_intL]
    rfl
/-- a stretch's text tells it -/
theorem rdSt_stL (s : SD) (h : ∀ a b, s = some (a, b) → leV (oD a) (oD b) = true) : rdSt (stL s) = some s := by
  unfold rdSt
  cases s with
  | none => exact if_pos rfl
  | some ab =>
    obtain ⟨a, b⟩ := ab
    have e := SX.spl_join (c := 46) (sep := [46]) (parts := [sideL a, sideL b]) (List.cons_ne_nil _ _) (fun p hp => by
      rcases in_two hp with rfl | hp
      · exact sideL_dot a
      · rw [List.mem_singleton.mp hp]; exact sideL_dot b)
    have e : TL.spl [46, 46] 0 [] (stL (some (a, b))) = [sideL a, sideL b] := e
    have n95 : stL (some (a, b)) ≠ [95] := fun z => by
      have m : 46 ∈ stL (some (a, b)) := List.mem_append_right _ (List.mem_cons_self ..)
      rw [z] at m
      exact absurd m (by decide)
    rw [if_neg n95, e]
    show (match sideOf (sideL a), sideOf (sideL b) with
      | some x, some y => if leV (oD x) (oD y) = true then some (some (x, y)) else none
      | _, _ => none) = _
    rw [sideOf_L, sideOf_L]
    exact if_pos (h a b rfl)
section
variable {K : PySem.W.Frag} {σ : L2.St} {G H : Hp} {L : List (Addr × HO)} {Q : VK} {D : Ends} {E : XK}
/-! ### read -/
def rdOf : PyData → Option SD
  | .str z => rdSt z.cps.toList
  | _ => none
def sp_read_stretch (K : PySem.W.Frag) : Sp := fun vs H Q E => ∃ (x : V) (d : PyData) (G : Hp) (L : List (Addr × HO)), vs = [x] ∧ Stt G H L ∧ Dp K G x d ∧ (∀ z : Str, d = .str z → z.cps.toList.length ≤ 300) ∧
  (∀ s, rdOf d = some s → ∀ v G' H', Ex G G' → Stt G' H' L → StV K G' v s → Q v H') ∧
  (rdOf d = none → ∀ dd G' H', Ex G G' → Stt G' H' L → H' dd = some (.xd (excF "InvalidText" "given" x)) → E (.ref (cls_at K "InvalidText")) (some dd) H')
def t_read_stretch_6 (K : PySem.W.Frag) (E : XK) : TS :=
  (tRet (tVar 2))
def t_read_stretch_5 (K : PySem.W.Frag) (E : XK) : TS :=
  (tSeq (tIfS (tNot (tB (tCall (sp_is_stretch K) [] E0 (tCons (tVar 2) tNil)))) (tRaise (cls_at K "InvalidText") "InvalidText" "given" E (tVar 0)) tNext)
  (t_read_stretch_6 K E))
def t_read_stretch_4 (K : PySem.W.Frag) (E : XK) : TS :=
  (tSeq (tAsg (tTup (tCons (tOp (rIx K) (tOp (rIx K) (tVar 1) (tC (.int 0))) (tC (.int 0))) (tCons (tOp (rIx K) (tOp (rIx K) (tVar 1) (tC (.int 1))) (tC (.int 0))) tNil))) (gName 2))
  (t_read_stretch_5 K E))
def t_read_stretch_3 (K : PySem.W.Frag) (E : XK) : TS :=
  (tSeq (tIfS (tOr (tTest (tOp (gNe K) (tCB (gLen K) (tCons (tVar 1) tNil)) (tC (.int 2)))) (tTest (tOp (rInD K) (tLst tNil) (tVar 1)))) (tRaise (cls_at K "InvalidText") "InvalidText" "given" E (tVar 0)) tNext)
  (t_read_stretch_4 K E))
def t_read_stretch_2 (K : PySem.W.Frag) (E : XK) : TS :=
  (tSeq (tAsg (tLc (iList K (tBM K "str" rSplit (tVar 0) (tCons (tC (.str "..")) tNil))) (gName 3) tYes (tCall (sp_read_side K) [] E0 (tCons (tVar 3) tNil)) [3]) (gName 1))
  (t_read_stretch_3 K E))
def t_read_stretch_1 (K : PySem.W.Frag) (E : XK) : TS :=
  (tSeq (tIfS (tTest (tOp (gEq K) (tVar 0) (tC (.str "_")))) (tRet (tC .non)) tNext)
  (t_read_stretch_2 K E))
def t_read_stretch (K : PySem.W.Frag) (E : XK) : TS :=
  (tSeq (tIfS (tNot (tB (tCB (gIsi K) (tCons (tVar 0) (tCons (tC (.ty "str")) tNil))))) (tRaise (cls_at K "InvalidText") "InvalidText" "given" E (tVar 0)) tNext)
  (t_read_stretch_1 K E))
theorem Dp.oV {v : V} {o : Option Int} (h : Dp K H v (oD o)) : v = oV o := by cases o <;> cases h <;> rfl
theorem boom {x : V} (qe : ∀ dd G' H', Ex G G' → Stt G' H' L → H' dd = some (.xd (excF "InvalidText" "given" x)) → E (.ref (cls_at K "InvalidText")) (some dd) H') {G1 H1 : Hp} (e1 : Ex G G1) (S1 : Stt G1 H1 L) (hs : σ[0]? = some (some x)) :
    tRaise (cls_at K "InvalidText") "InvalidText" "given" E (tVar 0) D σ H1 := by
  refine rd_var (Q := fun v H2 => ∀ d, H2 d = none → E (.ref (cls_at K "InvalidText")) (some d) (upd H2 d (.xd (excF "InvalidText" "given" v)))) hs fun dd hd => ?_
  exact qe dd _ _ (e1.trans (stt_world.newE S1 hd)) (stt_world.new S1 hd) upd_same
theorem kit_str {d : PyData} (h : ∀ z, d ≠ .str z) : kitB (tyN d) "str" = some false := by
  cases d with
  | str z => exact absurd rfl (h z)
  | none => exact kt_NoneType_str
  | bool _ => exact kt_bool_str
  | int _ => exact kt_int_str
  | list _ => exact kt_list_str
  | tuple _ => exact kt_tuple_str
  | dict _ => exact (by decide +kernel : kitB "dict" "str" = some false)
theorem sides_any {oa ob : Option (Option Int)} {la lb : List PyData} (ha : la = match oa with
      | none => []
      | some o => [oD o]) (hb : lb = match ob with
      | none => []
      | some o => [oD o]) : SeqAt.shaped (.list [.list la, .list lb]) = true ∧ ([PyData.list la, .list lb].any fun z => PyData.eqv z (.list [])) = !(oa.isSome && ob.isSome) := by
  subst ha hb
  cases oa with
  | none => cases ob with
    | none => exact ⟨rfl, rfl⟩
    | some b => cases b <;> exact ⟨rfl, rfl⟩
  | some a => cases a <;> (cases ob with
    | none => exact ⟨rfl, rfl⟩
    | some b => cases b <;> exact ⟨rfl, rfl⟩)
theorem read_read_stretch {x : V} {d : PyData} {a1 a2 a3 : Option V} (S : Stt G H L) (hx : Dp K G x d) (hl : ∀ z : Str, d = .str z → z.cps.toList.length ≤ 300)
    (qr : ∀ s, rdOf d = some s → ∀ v G' H', Ex G G' → Stt G' H' L → StV K G' v s → D.rt v H')
    (qe : rdOf d = none → ∀ dd G' H', Ex G G' → Stt G' H' L → H' dd = some (.xd (excF "InvalidText" "given" x)) → E (.ref (cls_at K "InvalidText")) (some dd) H') : t_read_stretch K E D [some x, a1, a2, a3] H := by
  unfold t_read_stretch
  refine rd_seq (rd_ifs (rd_not (rd_B (rd_cb (rd_cons (rd_var rfl (rd_cons (rd_c (rd_nil ?_)))))))))
  by_cases hz : ∀ z, d ≠ .str z
  · refine rd_isi (Dp.ex S.ex _ _ hx) (kit_str hz) ⟨false, rfl, ?_⟩
    refine rd_iT (boom (qe ?_) (Ex.refl _) S rfl)
    cases d with
    | str z => exact absurd rfl (hz z)
    | _ => rfl
  obtain ⟨z, hz⟩ := Classical.not_forall.mp hz
  have hz := Classical.not_not.mp hz
  subst hz
  cases hx
  refine rd_isi (.str _) kt_str_str ⟨true, rfl, ?_⟩
  walk_at "go"
  unfold t_read_stretch_1
  obtain ⟨w, rfl⟩ : ∃ w, z = SX.S w := ⟨_, (SX.S_tl z).symm⟩
  have er : rdOf (.str (SX.S w)) = rdSt w := rfl
  have hl : w.length ≤ 300 := hl _ rfl
  rw [er] at qr qe
  refine rd_seq (rd_ifs (rd_test (rd_op (rd_var rfl (rd_c (rd_eqS (rd_bl ?_)))))))
  rw [S_dec]
  refine rd_dec (fun e => ?_) (fun e => ?_)
  · walk_at "go"
    exact qr none (if_pos e) .non G H (Ex.refl _) S rfl
  walk_at "go"
  unfold t_read_stretch_2
  have er : rdSt w = rdPs (TL.spl [46, 46] 0 [] w) := if_neg e
  have ⟨bd1, bd2⟩ := spl_bd [46, 46] w 0 []
  have es : Txt.split (SX.S w) (".." : Str) = (TL.spl [46, 46] 0 [] w).map SX.S := SX.split_S (b := [46, 46]) (List.cons_ne_nil _ _) rfl
  generalize TL.spl [46, 46] 0 [] w = ps at er bd1 bd2 es
  refine rd_seq (rd_asg (rd_lc (rd_il (rd_bm (rd_var rfl ⟨rfl, rd_cons (rd_c (rd_nil ⟨_, _, rfl, rfl, rfl, by rw [SX.S_len]; exact sz_of (by omega), ?_⟩))⟩)))))
  intro p hp
  rw [es]
  have S1 := stt_world.new (o := .lst ((ps.map SX.S).map V.str)) S hp
  have e1 := stt_world.newE (o := .lst ((ps.map SX.S).map V.str)) S hp
  have hp1 : upd G p (.lst ((ps.map SX.S).map V.str)) p = some (.lst ((ps.map SX.S).map V.str)) := upd_same
  generalize upd G p (.lst ((ps.map SX.S).map V.str)) = G1 at S1 e1 hp1
  refine ⟨p, rfl, ⟨_, sq_of upd_same⟩, ?_⟩
  refine lc_go stt_world (walk_list (xs := (ps.map SX.S).map V.str)) S1 (by rw [List.length_map, List.length_map]; omega) (fun i v _ => ((ps.map SX.S).map V.str)[i]? = some v) (fun i acc G' => DpAll K G' acc ((ps.take i).map fun u => PyData.list (sideD u))) (fun H' e' => ex_l e' (sq_of hp1))
    (fun i x G1 H1 H2 L1 _ e1 S1 y => item_at S1 y) .nil (fun _ _ _ _ e' h => DpAll.ex e' _ _ h) ?_ ?_
  · intro D' i y acc G2 H2 hi _ e2 S2 I2 it Kp Sk kp sk
    refine rd_name ⟨rfl, rd_yes (rd_iT ?_)⟩
    rw [List.getElem?_map, List.getElem?_map] at it
    cases hu : ps[i]? with
    | none => rw [hu] at it; cases it
    | some u =>
      rw [hu] at it
      obtain rfl : V.str (SX.S u) = y := Option.some.inj it
      refine rd_call (rd_cons (rd_var rfl (rd_nil ?_)))
      have := bd2 u (List.mem_of_getElem? hu)
      rw [List.length_nil] at this
      refine ⟨u, G2, _, rfl, by omega, S2, fun v G3 H3 e3 S3 hv => kp v G3 H3 e3 S3 ?_⟩
      rw [List.take_add_one, hu, List.map_append]
      exact DpAll.snoc (DpAll.ex e3 _ _ I2) hv
  · intro D' acc G2 H2 e2 S2 I2 _
    have e3 := e1.trans (e2.trans S2.frzE)
    have hD : upd G2 D' (.lst acc) D' = some (.lst acc) := upd_same
    have I3 := DpAll.ex S2.frzE _ _ I2
    have S3 := S2.frz
    generalize upd G2 D' (.lst acc) = G3 at e3 hD I3 S3
    rw [List.length_map, List.length_map, List.take_length] at I3
    refine rd_name ?_
    unfold t_read_stretch_3
    refine rd_seq (rd_ifs (rd_or (rd_test (rd_op (rd_cb (rd_cons (rd_var rfl (rd_nil (rd_lenL (ex_l S3.ex (sq_of hD)) (rd_c (rd_neI (rd_bl ?_))))))))))))
    have hn : acc.length = ps.length := by have := DpAll.length I3; rw [List.length_map] at this; exact this
    refine rd_decN (fun c => ?_) (fun c => ?_)
    · have c : ps.length = 2 := by omega
      match ps, c with
      | [u1, u2], _ =>
      refine rd_test (rd_op (rd_lst (rd_nil ?_)))
      refine mk_lst stt_world S3 (Nat.zero_le _) fun p4 G4 e4 S4 h4 => rd_var rfl ?_
      have I4 : DpAll K (upd H2 p4 (.lst [])) acc [.list (sideD u1), .list (sideD u2)] := DpAll.ex (e4.trans S4.ex) _ _ I3
      have ⟨sh, an⟩ := sides_any (sideD_of u1) (sideD_of u2)
      refine ⟨.list [], _, .lst (ex_l S4.ex (sq_of h4)) .nil, .lst (ex_l (e4.trans S4.ex) (sq_of hD)) I4, rfl, sh, _, rfl, ?_⟩
      rw [an]
      have er : rdSt w = match sideOf u1, sideOf u2 with
        | some x, some y => if leV (oD x) (oD y) = true then some (some (x, y)) else none
        | _, _ => none := er
      have eG := e3.trans e4
      cases I4 with
      | @cons v1 _ _ _ d1 I4 =>
      cases I4 with
      | @cons v2 _ _ _ d2 I4 =>
      cases I4
      rw [sideD_of] at d1 d2
      cases h1 : sideOf u1 with
      | none =>
        rw [h1] at er
        exact rd_iT (boom (qe er) eG S4 rfl)
      | some o1 =>
        cases h2 : sideOf u2 with
        | none =>
          rw [h1, h2] at er
          exact rd_iT (boom (qe er) eG S4 rfl)
        | some o2 =>
          rw [h1] at d1
          rw [h2] at d2
          rw [h1, h2] at er
          cases d1 with
          | @lst q1 _ _ hq1 c1 =>
          cases d2 with
          | @lst q2 _ _ hq2 c2 =>
          cases c1 with
          | @cons w1 _ _ _ c1 n1 =>
          cases n1
          cases c2 with
          | @cons w2 _ _ _ c2 n2 =>
          cases n2
          obtain rfl := Dp.oV c1
          obtain rfl := Dp.oV c2
          refine rd_iF ?_
          refine rd_next ?_
          show t_read_stretch_4 K E D _ _
          unfold t_read_stretch_4
          refine rd_seq (rd_asg (rd_tup (rd_cons (rd_op (rd_op (rd_var rfl (rd_c (rd_ixL (ex_l (e4.trans S4.ex) (sq_of hD)) rfl (rd_c (rd_ixL hq1 rfl ?_))))))))))
          refine rd_cons (rd_op (rd_op (rd_var rfl (rd_c (rd_ixL (ex_l (e4.trans S4.ex) (sq_of hD)) rfl (rd_c (rd_ixL hq2 rfl (rd_nil ?_))))))))
          refine mk_tup stt_world S4 (by show 2 ≤ 100000; decide) fun p5 G5 e5 S5 h5 => rd_name ?_
          show t_read_stretch_5 K E D _ _
          unfold t_read_stretch_5
          refine rd_seq (rd_ifs (rd_not (rd_B (rd_call (rd_cons (rd_var rfl (rd_nil ?_)))))))
          refine ⟨.ref p5, .tuple [oD o1, oD o2], rfl, .tup (ex_t S5.ex (st_of h5)) (.cons (oDp o1) (.cons (oDp o2) .nil)), _, rfl, ?_⟩
          have ei : isSt (.tuple [oD o1, oD o2]) = leV (oD o1) (oD o2) := by
            show (isVal (oD o1) && isVal (oD o2) && leV (oD o1) (oD o2)) = _
            cases o1 <;> cases o2 <;> rfl
          rw [ei]
          have eG := eG.trans e5
          cases hle : leV (oD o1) (oD o2) with
          | false =>
            refine rd_iT (boom (qe ?_) eG S5 rfl)
            rw [er]
            show (if leV (oD o1) (oD o2) = true then _ else _) = _
            rw [hle]; rfl
          | true =>
            refine rd_iF (rd_next ?_)
            show t_read_stretch_6 K E D _ _
            unfold t_read_stretch_6
            refine rd_ret (rd_var rfl ?_)
            refine qr (some (o1, o2)) ?_ (.ref p5) G5 _ eG S5 ⟨p5, rfl, st_of h5⟩
            rw [er]
            show (if leV (oD o1) (oD o2) = true then _ else _) = _
            rw [hle]; rfl
    · refine rd_iT (boom (qe ?_) e3 S3 rfl)
      rw [er]
      match ps, c with
      | [], _ => rfl
      | [_], _ => rfl
      | [_, _], c => exact absurd (by rw [hn]; rfl) c
      | _ :: _ :: _ :: _, _ => rfl
theorem sat_read_stretch {vs : List V} (h : sp_read_stretch K vs H Q E) : vs.length = 1 ∧ t_read_stretch K E { nx := fun _ H' => Q .non H', rt := Q } (vs.map some ++ List.replicate (4 - vs.length) none) H := by
  obtain ⟨x, d, G, L, rfl, S, hx, hl, qr, qe⟩ := h
  exact ⟨rfl, read_read_stretch S hx hl qr qe⟩
end

/-! A frame's cells told as objects while a call runs: lambdas that any def may call. -/
abbrev Cells := List (Addr × Obj)
def cO (c : Addr) (o : Obj) : HO := .ext fun h => h.get? c = some o
def onC (l : Cells) (H : Hp) : Hp := fun a => match l.lookup a with
  | some o => some (cO a o)
  | none => H a
def offC (l : Cells) (H : Hp) : Hp := fun a => match l.lookup a with
  | some _ => none
  | none => H a
def InC (l : Cells) (H : Hp) : Prop := ∀ a o, l.lookup a = some o → H a = some (cO a o)
def NoC (l : Cells) (H : Hp) : Prop := ∀ a o, l.lookup a = some o → H a = none
section
variable {l : Cells} {H H1 H2 G G1 : Hp} {a b : Addr} {o : Obj} {u : HO} {L : List (Addr × HO)}
theorem on_at (e : l.lookup a = some o) : onC l H a = some (cO a o) := by unfold onC; rw [e]
theorem on_no (e : l.lookup a = none) : onC l H a = H a := by unfold onC; rw [e]
theorem off_at (e : l.lookup a = some o) : offC l H a = none := by unfold offC; rw [e]
theorem off_no (e : l.lookup a = none) : offC l H a = H a := by unfold offC; rw [e]
theorem inC_on : InC l (onC l H) := fun _ _ e => on_at e
theorem noC_off : NoC l (offC l H) := fun _ _ e => off_at e
theorem on_off (h : InC l H) : onC l (offC l H) = H := by
  funext a
  cases e : l.lookup a with
  | none => rw [on_no e, off_no e]
  | some o => rw [on_at e, h a o e]
theorem off_on (h : NoC l H) : offC l (onC l H) = H := by
  funext a
  cases e : l.lookup a with
  | none => rw [off_no e, on_no e]
  | some o => rw [off_at e, h a o e]
theorem off_some (h : offC l H a = some u) : H a = some u := by
  cases e : l.lookup a with
  | none => rw [off_no e] at h; exact h
  | some o => rw [off_at e] at h; cases h
/-- a cell's object in what may not be one -/
theorem not_in (n : NoC l H) (h : H a = some u) : l.lookup a = none := by
  cases e : l.lookup a with
  | none => rfl
  | some o => rw [n a o e] at h; cases h
theorem not_in_ext (n : InC l H) (h : H a = some u) (hu : ∀ φ, u ≠ .ext φ) : l.lookup a = none := by
  cases e : l.lookup a with
  | none => rfl
  | some o => rw [n a o e] at h; exact absurd (Option.some.inj h).symm (hu _)
theorem Ex.onC (e : Ex G H) : Ex (EE.onC l G) (EE.onC l H) := fun a u h => by
  cases q : l.lookup a with
  | none => rw [on_no q] at h ⊢; exact e a u h
  | some o => rw [on_at q] at h ⊢; exact h
theorem Ex.offC (e : Ex G H) : Ex (EE.offC l G) (EE.offC l H) := fun a u h => by
  cases q : l.lookup a with
  | none => rw [off_no q] at h ⊢; exact e a u h
  | some o => rw [off_at q] at h; cases h
theorem Stt.onC (S : Stt G H L) (n : NoC l H) : Stt (EE.onC l G) (EE.onC l H) L where
  ex := Ex.onC S.ex
  has := fun p hp => by rw [on_no (not_in n (S.has p hp))]; exact S.has p hp
  out := fun p hp => by rw [on_no (not_in n (S.has p hp))]; exact S.out p hp
  nd := S.nd
theorem Stt.offC (S : Stt G H L) (n : ∀ p, p ∈ L → l.lookup p.1 = none) : Stt (EE.offC l G) (EE.offC l H) L where
  ex := Ex.offC S.ex
  has := fun p hp => by rw [off_no (n p hp)]; exact S.has p hp
  out := fun p hp => by rw [off_no (n p hp)]; exact S.out p hp
  nd := S.nd
end
/-! ### what a run with the cells told says without, and back -/
section
variable {P : Program} {w : World} {fs : List Addr} {l : Cells} {H H2 : Hp} {h h2 B : Heap} {outer : List Env} {s s' : Shared} {u : Value} {Q : VK} {E : XK}
theorem un_on (hi : InC l H) (hc : ∀ a o, l.lookup a = some o → h.get? a = some o ∧ a ∉ fs) (un : Un fs [] (offC l H) H2 h h2) : Un fs [] H (onC l H2) h h2 where
  keep := fun b o e n hb hx => un.keep b o e (by
    cases q : l.lookup b with
    | none => rw [off_no q]; exact n
    | some _ => exact off_at q) hb hx
  slot := fun b o e n hb hx => un.slot b o e (by
    cases q : l.lookup b with
    | none => rw [off_no q]; exact n
    | some _ => exact off_at q) hb hx
  free := fun b o e n hx => by
    cases q : l.lookup b with
    | none => rw [on_no q]; exact un.free b o e (by rw [off_no q]; exact n) hx
    | some x => rw [hi b x q] at n; cases n
  there := un.there
  tups := fun b xs e => by
    have q := not_in_ext hi e (fun _ z => by cases z)
    rw [on_no q]
    exact un.tups b xs (by rw [off_no q]; exact e)
  frzs := fun b o x e => by
    have q := not_in_ext hi e (fun _ z => by cases z)
    rw [on_no q]
    exact un.frzs b o x (by rw [off_no q]; exact e)
  tbls := fun b ps e => by
    have q := not_in_ext hi e (fun _ z => by cases z)
    rw [on_no q]
    exact un.tbls b ps (by rw [off_no q]; exact e)
theorem objOk_move {H H' : Hp} {h : Heap} {a : Addr} (m : ∀ b u, (∀ φ, u ≠ .ext φ) → H b = some u → H' b = some u) : ∀ (o : HO), ObjOk P w H h a o → ObjOk P w H' h a o
  | .dT _, ⟨h1, h2, xs, h3, h4⟩ => ⟨h1, h2, xs, Paired.mono (fun _ _ ⟨p1, p2, p3⟩ => ⟨p1, m _ _ (fun _ z => by cases z) p2, p3⟩) h3, h4⟩
  | .ins _ _ _, ⟨h1, h2⟩ => ⟨m _ _ (fun _ z => by cases z) h1, h2⟩
  | .frz _ u, ⟨h1, h2⟩ => ⟨h1, objOk_move m u h2⟩
  | .lst _, h => h
  | .tup _, h => h
  | .dK _, h => h
  | .set _ _, h => h
  | .own _, h => h
  | .xd _, h => h
  | .rng _ _, h => h
  | .tbl _, h => h
  | .met _ _, h => h
  | .ext _, h => h
theorem hok_on (n : NoC l H2) (hk : HOk P w H2 h2) (hc : ∀ a o, l.lookup a = some o → h2.get? a = some o) : HOk P w (onC l H2) h2 := fun a x e => by
  cases q : l.lookup a with
  | none =>
    rw [on_no q] at e
    exact objOk_move (fun b u _ z => by rw [on_no (not_in n z)]; exact z) x (hk a x e)
  | some o =>
    rw [on_at q] at e
    cases e
    exact ⟨hc a o q, ⟨o, hc a o q⟩, fun _ _ z k => k _ z⟩
theorem hok_off (n : InC l H2) (hk : HOk P w H2 h2) : HOk P w (offC l H2) h2 := fun a x e => objOk_move (fun b u nx z => by rw [off_no (not_in_ext n z nx)]; exact z) x (hk a x (off_some e))
theorem ce_on (hi : InC l H) (hc : ∀ a o, l.lookup a = some o → s.heap.get? a = some o ∧ a ∉ frs outer) (c : CE outer P w (offC l H) s (fun v H2 => NoC l H2 → Q v (onC l H2)) u s') : CE outer P w H s Q u s' := by
  obtain ⟨v, H2, os, bare, un, hk, r, q⟩ := c
  have n2 : NoC l H2 := fun a o e => un.free a o (hc a o e).1 (off_at e) (by simp)
  exact ⟨v, onC l H2, os, bare, un_on hi hc un, hok_on n2 hk fun a o e => un.keep a o (hc a o e).1 (off_at e) (hc a o e).2 (by simp), r, q n2⟩
theorem cx_on (hi : InC l H) (hc : ∀ a o, l.lookup a = some o → s.heap.get? a = some o ∧ a ∉ frs outer) (c : L2.CX P w outer (offC l H) s (fun cls d H2 => NoC l H2 → E cls d (onC l H2)) u s') : L2.CX P w outer H s E u s' := by
  obtain ⟨a, B, H2, cls, d, ea, fl, hk, ub, na, os, ag, he⟩ := c
  have kp : ∀ a o, l.lookup a = some o → B.get? a = some o := fun a o e => ub.keep a o (hc a o e).1 (off_at e) (hc a o e).2
  have nl : l.lookup a = none := by
    cases q : l.lookup a with
    | none => rfl
    | some o =>
      have z := fl.2.1
      rw [kp a o q] at z
      cases z
  have na' : NoC l H2 := fun a o e => ub.free a o (hc a o e).1 (off_at e)
  refine ⟨a, B, onC l H2, cls, d, ea, fl, hok_on na' hk kp, ⟨fun b o e n hb => ?_, ub.slot, fun b o e n => ?_, ub.there, fun b xs e => ?_, fun b o x e => ?_, fun b ps e => ?_⟩, by rw [on_no nl]; exact na, os, ag, he na'⟩
  · cases q : l.lookup b with
    | none => exact ub.keep b o e (by rw [off_no q]; exact n) hb
    | some x => rw [hi b x q] at n; cases n
  · cases q : l.lookup b with
    | none => rw [on_no q]; exact ub.free b o e (by rw [off_no q]; exact n)
    | some x => rw [hi b x q] at n; cases n
  · have q := not_in_ext hi e (fun _ z => by cases z)
    rw [on_no q]
    exact ub.tups b xs (by rw [off_no q]; exact e)
  · have q := not_in_ext hi e (fun _ z => by cases z)
    rw [on_no q]
    exact ub.frzs b o x (by rw [off_no q]; exact e)
  · have q := not_in_ext hi e (fun _ z => by cases z)
    rw [on_no q]
    exact ub.tbls b ps (by rw [off_no q]; exact e)
theorem cr_on (hi : InC l H) (hc : ∀ a o, l.lookup a = some o → s.heap.get? a = some o ∧ a ∉ frs outer) {r : Result} (c : CR (L2.CX P w) outer P w (offC l H) s (fun v H2 => NoC l H2 → Q v (onC l H2)) (fun cls d H2 => NoC l H2 → E cls d (onC l H2)) r s') : CR (L2.CX P w) outer P w H s Q E r s' := by
  cases r with
  | error e => exact cx_on hi hc c
  | ok fl => cases fl <;> first | exact ce_on hi hc c | exact False.elim c
theorem un_off (n : NoC l H) (hi : InC l H2) (hk : HOk P w H2 h2) (hc : ∀ a o, l.lookup a = some o → h.get? a = some o) (un : Un fs [] (onC l H) H2 h h2) : Un fs [] H (offC l H2) h h2 := by
  have same : ∀ {b : Addr} {o x : Obj}, l.lookup b = some x → h.get? b = some o → h2.get? b = some o := fun {b o x} q e => by
    have z : h2.get? b = some x := (show ObjOk P w H2 h2 b (cO b x) from hk b _ (hi b x q)).1
    rw [hc b x q] at e
    cases e
    exact z
  refine ⟨fun b o e m hb hx => ?_, fun b o e m hb hx => ?_, fun b o e m hx => ?_, un.there, fun b xs e => ?_, fun b o x e => ?_, fun b ps e => ?_⟩
  · cases q : l.lookup b with
    | none => exact un.keep b o e (by rw [on_no q]; exact m) hb hx
    | some x => exact same q e
  · cases q : l.lookup b with
    | none => exact un.slot b o e (by rw [on_no q]; exact m) hb hx
    | some x => exact ⟨o.slots, same q e⟩
  · cases q : l.lookup b with
    | none => rw [off_no q]; exact un.free b o e (by rw [on_no q]; exact m) hx
    | some x => exact off_at q
  · have q := not_in n e
    rw [off_no q]
    exact un.tups b xs (by rw [on_no q]; exact e)
  · have q := not_in n e
    rw [off_no q]
    exact un.frzs b o x (by rw [on_no q]; exact e)
  · have q := not_in n e
    rw [off_no q]
    exact un.tbls b ps (by rw [on_no q]; exact e)
theorem ce_off (n : NoC l H) (hc : ∀ a o, l.lookup a = some o → s.heap.get? a = some o) (c : CE outer P w (onC l H) s (fun v H2 => InC l H2 ∧ Q v (offC l H2)) u s') : CE outer P w H s Q u s' := by
  obtain ⟨v, H2, os, bare, un, hk, r, hi, q⟩ := c
  exact ⟨v, offC l H2, os, bare, un_off n hi hk hc un, hok_off hi hk, r, q⟩
end
/-! ### callable from anywhere -/
/-- f may be called (no arguments) wherever what tl says holds -/
def CanH (P : Program) (w : World) (K : PySem.W.Frag) (mg : Str → Option Value) (base : Heap) (k : Nat) (f : Addr) (tl : XK → Hp → VK → Prop) : Prop :=
  ∀ (A : Around) (outer : List Env) (s : Shared) (H : Hp) (Q : VK) (E : XK), Room k A → Env0 P w K mg base A outer s H → tl E H Q → PySem.W.FnAt f s.heap ∧ codeAny (model P w) A (.call (.ref f) ⟨[], []⟩) (CR (L2.CX P w) outer P w H s Q E) s
theorem CanH.can {P : Program} {w : World} {K : PySem.W.Frag} {mg : Str → Option Value} {base : Heap} {k : Nat} {f : Addr} {tl : XK → Hp → VK → Prop} (c : CanH P w K mg base k f tl) (outer : List Env) (s : Shared) (H : Hp) : CanCall P w K mg base k outer s H f tl :=
  fun A outer' s' H' Q E hr e0 _ h => c A outer' s' H' Q E hr e0 h
/-- what the i-th lambda tells, the cells told -/
def lamTl (lw : LamW) (l : Cells) (i : Nat) (tb : XK → TE) (σ : L2.St) (f : Addr) : XK → Hp → VK → Prop := fun E H Q =>
  InC l H ∧ LamAt lw i (offC l H) f ∧ tb (fun cls d H2 => NoC l H2 → E cls d (onC l H2)) σ (offC l H) fun v H2 => NoC l H2 → Q v (onC l H2)
/-- l: X's cells at s -/
structure CellsOf (X : Cx) (s : Shared) (l : Cells) : Prop where
  has : ∀ y c, X.env.cells.lookup y = some c → ∃ o, l.lookup c = some o ∧ s.heap.get? c = some o
  at_ : ∀ c o, l.lookup c = some o → s.heap.get? c = some o ∧ (∃ v, o.data = .cell v) ∧ ∃ y, X.env.cells.lookup y = some c
section
variable {X : Cx} {pins : List (Addr × Obj)} {σ : L2.St} {H : Hp} {s : Shared} {T : LamTx} {i k : Nat} {l : Cells}
theorem lk_mem : ∀ {l : Cells} {a : Addr} {o : Obj}, l.lookup a = some o → (a, o) ∈ l
  | [], _, _, h => nomatch h
  | (b, x) :: l, a, o, h => by
    rw [List.lookup_cons] at h
    cases e : (a == b) with
    | true =>
      rw [e] at h
      cases h
      obtain rfl : a = b := eq_of_beq e
      exact List.mem_cons_self ..
    | false =>
      rw [e] at h
      exact List.mem_cons_of_mem _ (lk_mem h)
theorem lk_of_mem : ∀ {l : Cells} {a : Addr} {o : Obj}, (a, o) ∈ l → ∃ o', l.lookup a = some o'
  | [], _, _, h => nomatch h
  | (b, x) :: l, a, o, h => by
    rw [List.lookup_cons]
    cases e : (a == b) with
    | true => exact ⟨_, rfl⟩
    | false =>
      rcases (List.mem_cons.mp h) with z | z
      · have z : a = b := congrArg Prod.fst z
        rw [z, beq_self_eq_true] at e
        cases e
      · exact lk_of_mem z
/-- the cells, listed -/
theorem cells_of (I : Inv X pins σ H s) : ∃ l, CellsOf X s l := by
  let g : Str × Addr → Option (Addr × Obj) := fun p => if X.env.cells.lookup p.1 = some p.2 then (s.heap.get? p.2).map (fun o => (p.2, o)) else none
  have mem : ∀ {c o}, (c, o) ∈ X.env.cells.filterMap g → s.heap.get? c = some o ∧ (∃ v, o.data = .cell v) ∧ ∃ y, X.env.cells.lookup y = some c := fun {c o} h => by
    obtain ⟨⟨y, c'⟩, _, e⟩ := List.mem_filterMap.mp h
    by_cases q : X.env.cells.lookup y = some c'
    · have e : (if X.env.cells.lookup y = some c' then (s.heap.get? c').map (fun o => (c', o)) else none) = some (c, o) := e
      rw [if_pos q] at e
      obtain ⟨o', e1, e2⟩ := Option.map_eq_some_iff.mp e
      cases e2
      obtain ⟨v, o2, ho, hd⟩ := I.cell y c q
      rw [e1] at ho
      cases ho
      exact ⟨e1, ⟨v, hd⟩, y, q⟩
    · have e : (if X.env.cells.lookup y = some c' then (s.heap.get? c').map (fun o => (c', o)) else none) = some (c, o) := e
      rw [if_neg q] at e
      cases e
  refine ⟨X.env.cells.filterMap g, fun y c e => ?_, fun c o e => mem (lk_mem e)⟩
  obtain ⟨v, o, ho, hd⟩ := I.cell y c e
  have hm : (c, o) ∈ X.env.cells.filterMap g := List.mem_filterMap.mpr ⟨(y, c), PySem.mem_of_lookup e, by
    show (if X.env.cells.lookup y = some c then (s.heap.get? c).map (fun o => (c, o)) else none) = some (c, o)
    rw [if_pos e, ho]; rfl⟩
  obtain ⟨o', e'⟩ := lk_of_mem hm
  have z : some o = some o' := ho.symm.trans (mem (lk_mem e')).1
  exact ⟨o, by rw [e', ← z], ho⟩
theorem env0_off {P : Program} {w : World} {K : PySem.W.Frag} {mg : Str → Option Value} {base : Heap} {A : Around} {outer : List Env} (hi : InC l H) (e0 : Env0 P w K mg base A outer s H) : Env0 P w K mg base A outer s (offC l H) :=
  have no : ∀ {b : Addr}, H b = none → offC l H b = none := fun {b} n => by
    cases q : l.lookup b with
    | none => rw [off_no q]; exact n
    | some _ => exact off_at q
  ⟨e0.frames, e0.mod, fun b o e => ⟨(e0.bs b o e).1, no (e0.bs b o e).2⟩, e0.bsz, e0.funs, fun b hb => no (e0.frf b hb), hok_off hi e0.hok, e0.bare⟩
theorem can_lamH {mk : List Nat} {lw : LamW} {tb : XK → TE} (I : Inv X pins σ H s) (cl : CellsOf X s l) (L : LamN X.N X.env.scope T mk) (ho : lw.o i = lamO X T) (hd : lw.d i = T.dflt) (hq : lw.q = X.env.qual ++ "<lambda>") {f : Addr}
    (hbody : ∀ (A : Around) (outer : List Env) (s : Shared) (H : Hp) (E : XK) (f c : Addr), Room k (A.deeper (LamX.lamEnv X T.scope s.heap.objs.size f c)) → PE (LamX.lamCx X A outer s H E T.scope f c) T.body (tb E)) :
    CanH X.prog X.w X.K X.mg X.base (k + 1) f (lamTl lw l i tb (wipe σ mk) f) := by
  intro A outer' s' H' Q E hr e0 ⟨hi, la, ht⟩
  have at' : ∀ c o, l.lookup c = some o → s'.heap.get? c = some o := fun c o e => (show ObjOk X.prog X.w H' s'.heap c (cO c o) from e0.hok c _ (hi c o e)).1
  have ck : CellsKept X s (offC l H') s' := fun y c e => by
    obtain ⟨o, e1, e2⟩ := cl.has y c e
    refine ⟨fun o' ho' => ?_, off_at e1⟩
    rw [e2] at ho'
    cases ho'
    exact ⟨_, at' c o e1⟩
  obtain ⟨fa, run⟩ := run_lam I L ho hd hq hbody hr (env0_off hi e0) ck la ht
  refine ⟨fa, codeAny_mono run fun r s2 c => cr_on hi (fun c o e => ⟨at' c o e, fun hm => ?_⟩) c⟩
  have z := e0.frf c hm
  rw [hi c o e] at z
  cases z
end

/-! The law's tries: a def that tries each of a list of lambdas. -/
abbrev CnT := Addr → (XK → Hp → VK → Prop) → Prop
def sp_try (K : PySem.W.Frag) (Cn : CnT) : Sp := fun vs H Q _ => ∃ f tl, vs = [.ref f] ∧ Cn f tl ∧ rTry K f tl H Q
def sp_tries (K : PySem.W.Frag) (Cn : CnT) : Sp := fun vs H Q _ => ∃ (a : Addr) (fs : List Addr) (ds : List PyData) (G : Hp) (L : List (Addr × HO)), vs = [.ref a] ∧ Stt G H L ∧ SqL K G a (fs.map V.ref) ∧ fs.length = ds.length ∧ fs.length < 1000 ∧
  (∀ (i : Nat) (f : Addr) (d : PyData), fs[i]? = some f → ds[i]? = some d → ∃ tl, Cn f tl ∧ ∀ (G1 H1 : Hp) (D : Addr) (acc : List V) (Q1 : VK), Ex G G1 → Stt G1 H1 ((D, .lst acc) :: L) → (∀ p G2 H2, Ex G1 G2 → Stt G2 H2 ((D, .lst acc) :: L) → Dp K G2 (.ref p) d → Q1 (.ref p) H2) → rTry K f tl H1 Q1) ∧
  ∀ p G' H', Ex G G' → Stt G' H' L → Dp K G' (.ref p) (.list ds) → Q (.ref p) H'
/-- the lambdas of a def, so many of them -/
def LamsOk (X : Cx) (lw : LamW) (j n : Nat) (tbs : Nat → XK → TE) (mk : List Nat) : Prop := ∀ i, i < n → ∃ T : LamTx, LamN X.N X.env.scope T mk ∧ lw.o i = lamO X T ∧ lw.d i = T.dflt ∧
  ∀ (A : Around) (outer : List Env) (s : Shared) (H : Hp) (E : XK) (f c : Addr), Room j (A.deeper (LamX.lamEnv X T.scope s.heap.objs.size f c)) → PE (LamX.lamCx X A outer s H E T.scope f c) T.body (tbs i E)
/-- tries([lambda .., ..]): while it runs the cells are told -/
def tTriesC (K : PySem.W.Frag) (lw : LamW) (n : Nat) (tbs : Nat → XK → TE) (mk : List Nat) (ta : TA) : TE := fun σ H Q => ta σ H fun vs H1 => ∀ (Cn : CnT) (l : Cells), NoC l H1 → (∀ i, i < n → ∀ f, Cn f (lamTl lw l i (tbs i) (wipe σ mk) f)) →
  sp_tries K Cn (vs ++ []) (onC l H1) (fun v H2 => InC l H2 ∧ Q v (offC l H2)) E0
section
variable {X : Cx} {pins : List (Addr × Obj)} {σ : L2.St} {H : Hp} {s : Shared} {l : Cells}
theorem cell_apart (I : Inv X pins σ H s) (cl : CellsOf X s l) (hfn : ∀ y, X.fn y = true) {c : Addr} {o : Obj} (e : l.lookup c = some o) : c ∉ frs X.stack ∧ X.base.get? c = none := by
  obtain ⟨ho, ⟨v, hv⟩, y, ey⟩ := cl.at_ c o e
  have big := I.ok.cab y c (hfn y) ey
  have out : c ∉ frs X.outer := fun hm => by
    obtain ⟨_, o', e', _⟩ := I.ok.funs.mem hm
    exact absurd (Heap.lt_size e') (Nat.not_lt.mpr big)
  refine ⟨fun hm => ?_, ?_⟩
  · rcases I.ok.stk with z | ⟨z, hf⟩
    · rw [z] at hm; exact out hm
    · rw [z] at hm
      obtain ⟨en, hen, q⟩ := List.mem_filterMap.mp hm
      rcases List.mem_cons.mp hen with rfl | hen
      · rw [hf] at q
        have q : X.env.locals = c := Option.some.inj q
        obtain ⟨m, hn, _⟩ := I.loc
        obtain ⟨o', es, ep, ho', hd', _⟩ := hn
        rw [q, ho] at ho'
        cases ho'
        rw [hv] at hd'
        cases hd'
      · exact out (List.mem_filterMap.mpr ⟨en, hen, q⟩)
  · cases q : X.base.get? c with
    | none => rfl
    | some x => exact absurd (Nat.lt_of_lt_of_le (Heap.lt_size q) I.ok.bsz) (Nat.not_lt.mpr big)
theorem env0_on (I : Inv X pins σ H s) (cl : CellsOf X s l) (nc : NoC l H) (hfn : ∀ y, X.fn y = true) : Env0 X.prog X.w X.K X.mg X.base X.A X.stack s (onC l H) :=
  have e0 := I.env0
  ⟨e0.frames, e0.mod, fun b o e => ⟨(e0.bs b o e).1, by
    cases q : l.lookup b with
    | none => rw [on_no q]; exact (e0.bs b o e).2
    | some x => rw [(cell_apart I cl hfn q).2] at e; cases e⟩, e0.bsz, e0.funs, fun b hb => by
    cases q : l.lookup b with
    | none => rw [on_no q]; exact e0.frf b hb
    | some x => exact absurd hb (cell_apart I cl hfn q).1, hok_on nc e0.hok fun a o e => (cl.at_ a o e).1, e0.bare⟩
theorem pe_triesC {lw : LamW} {j n k kk : Nat} {cl : Addr} {tbs : Nat → XK → TE} {mk : List Nat} {x : Str} {p pos : Pos} {e : Expr} {es : List Expr} {ta : TA} (c : C8.Cal X.prog X.w X.K X.mg X.base k x (sp_tries X.K (CanH X.prog X.w X.K X.mg X.base (j + 1))) []) (LX : LamX1 X lw cl) (LS : LamsOk X lw j n tbs mk) (hfn : ∀ y, X.fn y = true) (hr : Room kk X.A) (hk : k ≤ kk) (hg : Gl X x)
    (ha : PA X (e :: es) ta) (hdb : (x == ("__debug__" : Str)) = false := by decide) (he : starEach (e :: es) X.env = (false, eval e X.env) :: starEach es X.env := by rfl) (hpl : (backTo pos (starEach es X.env)).any (·.1) = false := by rfl) :
    PE X (.Call (.Name x p) (e :: es) [] pos) (tTriesC X.K lw n tbs mk ta) := by
  have ⟨f, fd, ps, dvs', F, hm, kp, b, dv⟩ := c
  refine ⟨fun pins s σ H Q I h => wpAny_Call_Name_kw (ld_glob I hg hm ?_ hdb)⟩
  refine PySem.W.callWith_K (h₀ := X.base) I.ok.mod.kin kp (thn (ha.run pos pins s σ H _ I h) fun us s1 ⟨vs, H1, I1, r, q⟩ => ⟨I1.kIn, ?_⟩) he hpl
  obtain ⟨l, cl⟩ := cells_of I1
  have nc : NoC l H1 := fun a o e => have ⟨_, _, y, ey⟩ := cl.at_ a o e; I1.freeC y a ey
  have q' := q _ l nc fun i hi f => have ⟨T, L, ho, hd, hb⟩ := LS i hi; can_lamH I1 cl L ho hd LX.q hb
  cases dv
  rw [List.append_nil] at q'
  have hl : us.length = ps.length := by rw [← r.length]; exact F.len _ _ _ _ q'
  have bi := b s1 us I1.kIn (by rw [List.append_nil]; exact hl)
  rw [List.append_nil] at bi
  refine wpAny_call (codeAny_mono (F.run X.A X.stack s1 (onC l H1) ⟨us, []⟩ us vs _ E0 (hr.mono hk) (env0_on I1 cl nc hfn) bi r q') fun r2 s' hq => ?_)
  cases r2 with
  | error x => exact False.elim hq
  | ok fl =>
    cases fl with
    | ret u => exact I1.after (ce_off nc (fun a o e => (cl.at_ a o e).1) hq)
    | next => exact False.elim hq
    | brk => exact False.elim hq
    | cont => exact False.elim hq
end

/-! What a list of lambdas tells, tried. -/
section
variable {K : PySem.W.Frag} {G G' H H' : Hp} {L : List (Addr × HO)} {l : Cells}
theorem sql_move (m : ∀ b u, (∀ φ, u ≠ .ext φ) → H b = some u → H' b = some u) {a : Addr} {xs : List V} (h : SqL K H a xs) : SqL K H' a xs := by
  rcases (h) with (h | ⟨o, h⟩) | h
  · exact .inl (.inl (m _ _ (fun _ z => by cases z) h))
  · exact .inl (.inr ⟨o, m _ _ (fun _ z => by cases z) h⟩)
  · exact .inr h
theorem sqt_move (m : ∀ b u, (∀ φ, u ≠ .ext φ) → H b = some u → H' b = some u) {a : Addr} {xs : List V} (h : SqT K H a xs) : SqT K H' a xs := by
  rcases (h) with (h | ⟨o, h⟩) | h
  · exact .inl (.inl (m _ _ (fun _ z => by cases z) h))
  · exact .inl (.inr ⟨o, m _ _ (fun _ z => by cases z) h⟩)
  · exact .inr h
mutual
theorem Dp.move (m : ∀ b u, (∀ φ, u ≠ .ext φ) → H b = some u → H' b = some u) : ∀ (d : PyData) (v : V), Dp K H v d → Dp K H' v d
  | .none, _, .non => .non
  | .bool _, _, .bl _ => .bl _
  | .int _, _, .int _ => .int _
  | .str _, _, .str _ => .str _
  | .list ds, _, .lst h r => .lst (sql_move m h) (DpAll.move m ds _ r)
  | .tuple ds, _, .tup h r => .tup (sqt_move m h) (DpAll.move m ds _ r)
theorem DpAll.move (m : ∀ b u, (∀ φ, u ≠ .ext φ) → H b = some u → H' b = some u) : ∀ (ds : List PyData) (vs : List V), DpAll K H vs ds → DpAll K H' vs ds
  | [], _, .nil => .nil
  | d :: ds, _, .cons h r => .cons (Dp.move m d _ h) (DpAll.move m ds _ r)
end
theorem off_move (n : InC l H) : ∀ b u, (∀ φ, u ≠ .ext φ) → H b = some u → offC l H b = some u := fun b u nx z => by rw [off_no (not_in_ext n z nx)]; exact z
theorem noC_ex (e : Ex G H) (n : NoC l H) : NoC l G := fun a o q => fresh_back e (n a o q)
theorem Stt.up {H' : Hp} (S : Stt G H L) (e : Ex H H') : Stt G H' L := ⟨S.ex.trans e, fun p hp => e _ _ (S.has p hp), S.out, S.nd⟩
theorem ex_on (n : NoC l G) : Ex G (onC l G) := fun a u h => by rw [on_no (not_in n h)]; exact h
theorem inC_ex (e : Ex (onC l G) H) : InC l H := fun a o q => e a _ (on_at q)
theorem ex_off (n : NoC l G) (e : Ex (onC l G) H) : Ex G (offC l H) := fun a u h => by
  have q := not_in n h
  rw [off_no q]
  exact e a u (by rw [on_no q]; exact h)
/-- what an error without a field asks -/
class ExcOkZ (K : PySem.W.Frag) (x : Str) : Prop where
  mt : PySem.W.exmAny K (.ref (cls_at K x)) (baseErrs K) = some true
  xf : XfC K (cls_at K x)
  nC : PySem.W.findIn K (.ref (cls_at K x)) "code" = some none
theorem rd_tryZ {K : PySem.W.Frag} {f dd : Addr} {x : Str} {H : Hp} {Q : VK} (X : ExcOkZ K x) (hd : H dd = some (.xd (excZ x))) (hk : fieldKey x = none) (q : ∀ H', Ex H H' → ∀ p, H' p = none → Q (.ref p) (upd H' p (.tup [.str x, .non]))) :
    tryW K f Q (.ref (cls_at K x)) (some dd) H := by
  have lc : (excZ x).lookup ("code" : Str) = some (.str x) := by simp [excZ, List.lookup]
  refine ⟨X.mt, fun a na => ⟨.ref a, rfl, rfl, _, dd, _, .str x, rfl, X.xf, X.nC, rfl, hd, lc, .ref a, rfl, ?_⟩⟩
  refine ⟨_, dd, _, x, .non, rfl, rfl, X.xf, X.nC, rfl, hd, lc, ?_, fun H' e => ⟨(by show 2 ≤ sizeLine; decide), q H' e⟩⟩
  unfold FieldIs
  rw [hk]
/-- what a body comes to -/
inductive Out where
  | ok (d : PyData)
  | err (x fl : Str) (d : PyData)
  | errZ (x : Str)
def Out.data : Out → PyData
  | .ok d => .tuple [.str "", d]
  | .err x _ d => .tuple [.str x, d]
  | .errZ x => .tuple [.str x, .none]
def OutIs (K : PySem.W.Frag) (G : Hp) (L : List (Addr × HO)) (E : XK) (Q : VK) : Out → Prop
  | .ok d => ∀ v G2 H2, Ex G G2 → Stt G2 H2 L → Dp K G2 v d → Q v H2
  | .err x fl d => ∀ v dd G2 H2, Ex G G2 → Stt G2 H2 L → H2 dd = some (.xd (excF x fl v)) → Dp K G2 v d → E (.ref (cls_at K x)) (some dd) H2
  | .errZ x => ∀ dd G2 H2, Ex G G2 → Stt G2 H2 L → H2 dd = some (.xd (excZ x)) → E (.ref (cls_at K x)) (some dd) H2
def OutOk (K : PySem.W.Frag) : Out → Prop
  | .ok _ => True
  | .err x fl _ => ExcOk K x fl ∧ fieldKey x = some fl ∧ fl ≠ "code"
  | .errZ x => ExcOkZ K x ∧ fieldKey x = none
/-- a lambda's body comes to o over G -/
def BodyIs (K : PySem.W.Frag) (G : Hp) (σ : L2.St) (tb : XK → TE) (o : Out) : Prop := OutOk K o ∧ ∀ (G1 H1 : Hp) (L1 : List (Addr × HO)) (E : XK) (Q : VK), Ex G G1 → Stt G1 H1 L1 → OutIs K G1 L1 E Q o → tb E σ H1 Q
theorem rd_triesC {lw : LamW} {n : Nat} {tbs : Nat → XK → TE} {σ : L2.St} {Q : VK} {a : Addr} {fs : List Addr} {outs : List Out} (S : Stt G H L) (ha : SqL K G a (fs.map V.ref)) (hn : fs.length = n) (ho : outs.length = n) (h9 : n < 1000) (hla : ∀ i f, fs[i]? = some f → LamAt lw i G f)
    (hb : ∀ i o, outs[i]? = some o → BodyIs K G σ (tbs i) o) (q : ∀ p G' H', Ex G G' → Stt G' H' L → Dp K G' (.ref p) (.list (outs.map Out.data)) → Q (.ref p) H') (Cn : CnT) (l : Cells) (nc : NoC l H) (cn : ∀ i, i < n → ∀ f, Cn f (lamTl lw l i (tbs i) σ f)) :
    sp_tries K Cn [.ref a] (onC l H) (fun v H2 => InC l H2 ∧ Q v (offC l H2)) E0 := by
  have ng : NoC l G := noC_ex S.ex nc
  have nL : ∀ p, p ∈ L → l.lookup p.1 = none := fun p hp => not_in nc (S.has p hp)
  refine ⟨a, fs, outs.map Out.data, onC l G, L, rfl, S.onC nc, ex_l (ex_on ng) ha, by rw [List.length_map, hn, ho], by rw [hn]; exact h9, fun i f d hf hd => ?_, fun p G' H' e' S' hd => ?_⟩
  · rw [List.getElem?_map] at hd
    obtain ⟨o, ho', rfl⟩ := Option.map_eq_some_iff.mp hd
    have hi : i < n := by rw [← hn]; exact (List.getElem?_eq_some_iff.mp hf).1
    refine ⟨_, cn i hi f, fun G1 H1 D acc Q1 e1 S1 q1 => rd_try ?_⟩
    have i1 : InC l H1 := inC_ex (e1.trans S1.ex)
    have g1 : InC l G1 := inC_ex e1
    have nL1 : ∀ p, p ∈ (D, HO.lst acc) :: L → l.lookup p.1 = none := fun p hp => by
      rcases (List.mem_cons.mp hp) with rfl | hp
      · exact not_in_ext i1 (S1.at 0 rfl) (fun _ z => by cases z)
      · exact nL p hp
    have S1' := S1.offC nL1
    obtain ⟨ok, body⟩ := hb i o ho'
    refine ⟨i1, (hla i f hf).ex (ex_off ng (e1.trans S1.ex)), body (offC l G1) (offC l H1) _ _ _ (ex_off ng e1) S1' ?_⟩
    -- back with the cells told
    have back : ∀ {G2 H2 : Hp}, Ex (offC l G1) G2 → Stt G2 H2 ((D, .lst acc) :: L) → NoC l H2 → Ex G1 (onC l G2) ∧ Stt (onC l G2) (onC l H2) ((D, .lst acc) :: L) := fun {G2 H2} e2 S2 n2 => by
      refine ⟨fun a u z => ?_, S2.onC n2⟩
      cases q : l.lookup a with
      | some x => rw [on_at q, ← g1 a x q]; exact z
      | none => rw [on_no q]; exact e2 a u (by rw [off_no q]; exact z)
    cases o with
    | ok d =>
      intro v G2 H2 e2 S2 hv n2
      obtain ⟨e3, S3⟩ := back e2 S2 n2
      refine ⟨by show 2 ≤ sizeLine; decide, mk_im (o := .tup [.str "", v]) stt_world S3 fun p G4 e4 S4 h4 => q1 p G4 _ (e3.trans e4) S4 ?_⟩
      exact .tup (st_of h4) (.cons (.str _) (.cons (Dp.ex ((ex_on (noC_ex S2.ex n2)).trans e4) _ _ hv) .nil))
    | err x fl d =>
      intro v dd G2 H2 e2 S2 hdd hv n2
      obtain ⟨e3, S3⟩ := back e2 S2 n2
      refine rd_tryE ok.1 (ex_on n2 _ _ hdd) ok.2.1 ok.2.2 fun H3 e' => ?_
      refine mk_im (o := .tup [.str x, v]) stt_world (S3.up e') fun p G4 e4 S4 h4 => q1 p G4 _ (e3.trans e4) S4 ?_
      exact .tup (st_of h4) (.cons (.str _) (.cons (Dp.ex ((ex_on (noC_ex S2.ex n2)).trans e4) _ _ hv) .nil))
    | errZ x =>
      intro dd G2 H2 e2 S2 hdd n2
      obtain ⟨e3, S3⟩ := back e2 S2 n2
      refine rd_tryZ ok.1 (ex_on n2 _ _ hdd) ok.2 fun H3 e' => ?_
      exact mk_im (o := .tup [.str x, .non]) stt_world (S3.up e') fun p G4 e4 S4 h4 => q1 p G4 _ (e3.trans e4) S4 (.tup (st_of h4) (.cons (.str _) (.cons .non .nil)))
  · have i' : InC l H' := inC_ex (e'.trans S'.ex)
    have g' : InC l G' := inC_ex e'
    exact ⟨i', q p _ _ (ex_off ng e') (S'.offC nL) (Dp.move (off_move g') _ _ hd)⟩
end

/-! The lambdas of a def, one by one. -/
def LamOne (X : Cx) (lw : LamW) (j i : Nat) (tb : XK → TE) (mk : List Nat) : Prop := ∃ T : LamTx, LamN X.N X.env.scope T mk ∧ lw.o i = lamO X T ∧ lw.d i = T.dflt ∧
  ∀ (A : Around) (outer : List Env) (s : Shared) (H : Hp) (E : XK) (f c : Addr), Room j (A.deeper (LamX.lamEnv X T.scope s.heap.objs.size f c)) → PE (LamX.lamCx X A outer s H E T.scope f c) T.body (tb E)
section
variable {X : Cx} {lw : LamW} {j n : Nat} {tbs : Nat → XK → TE} {mk : List Nat}
theorem lams_nil : LamsOk X lw j 0 tbs mk := fun i hi => absurd hi (Nat.not_lt_zero _)
theorem lams_snoc (h : LamsOk X lw j n tbs mk) (x : LamOne X lw j n (tbs n) mk) : LamsOk X lw j (n + 1) tbs mk := fun i hi => by
  by_cases c : i < n
  · exact h i c
  · obtain rfl : i = n := by omega
    exact x
end

/-! The law's tries, read. -/



def t_tries (K : PySem.W.Frag) (Cn : CnT) : TS :=
  (tRet (tLc (iList K (tVar 0)) (gName 1) tYes (tCall (sp_try K Cn) [] E0 (tCons (tVar 1) tNil)) [1]))
theorem sat_tries {K : PySem.W.Frag} {Cn : CnT} {vs : List V} {H : Hp} {Q : VK} {E : XK} (h : sp_tries K Cn vs H Q E) : vs.length = 1 ∧ t_tries K Cn { nx := fun _ H' => Q .non H', rt := Q } (vs.map some ++ List.replicate (2 - vs.length) none) H := by
  obtain ⟨a, fs, ds, G, L, rfl, S, ha, hl, h9, ht, q⟩ := h
  refine ⟨rfl, ?_⟩
  unfold t_tries
  refine rd_ret (rd_lc (rd_il (rd_var rfl ⟨a, rfl, ⟨_, ex_l S.ex ha⟩, ?_⟩)))
  refine lc_go stt_world (walk_list (xs := fs.map V.ref)) S (by rw [List.length_map]; omega) (fun i v _ => (fs.map V.ref)[i]? = some v) (fun i acc G' => DpAll K G' acc (ds.take i)) (fun H' e' => ex_l e' ha)
    (fun i x G1 H1 H2 L1 _ e1 S1 y => item_at S1 y) .nil (fun _ _ _ _ e' h => DpAll.ex e' _ _ h) ?_ ?_
  · intro D i x acc G1 H1 hi _ e1 S1 I1 it Kp Sk kp sk
    rw [List.getElem?_map] at it
    obtain ⟨f, hf, rfl⟩ := Option.map_eq_some_iff.mp it
    have hi2 : i < ds.length := by rw [← hl]; exact (List.getElem?_eq_some_iff.mp hf).1
    have hd : ds[i]? = some ds[i] := List.getElem?_eq_getElem hi2
    obtain ⟨tl, cn, run⟩ := ht i f _ hf hd
    refine rd_name ⟨rfl, rd_yes (rd_iT ?_)⟩
    refine rd_call (rd_cons (rd_var rfl (rd_nil ?_)))
    refine ⟨f, tl, rfl, cn, run G1 H1 D acc _ e1 S1 fun p G2 H2 e2 S2 hp => kp _ G2 H2 e2 S2 ?_⟩
    rw [List.take_add_one, hd]
    exact DpAll.snoc (DpAll.ex e2 _ _ I1) hp
  · intro D acc G2 H2 e2 S2 I2 _
    rw [List.length_map, List.take_of_length_le (by omega)] at I2
    exact q D _ H2 (e2.trans S2.frzE) S2.frz (.lst (sq_of upd_same) (DpAll.ex S2.frzE _ _ I2))

/-! A class made by an __init__ that may raise. -/
structure MakRX (P : Program) (w : World) (K : PySem.W.Frag) (mg : Str → Option Value) (base : Heap) (k : Nat) (x : Str) (C : Addr) (sp : Sp) : Prop where
  ex : ∃ f : Addr, Mk K C f ∧ FnR P w K mg base (L2.CX P w) k f sp ∧ mg x = some (.ref C)
section
variable {X : Cx} {k j : Nat} {C : Addr} {x : Str} {sp : Sp} {p pos : Pos} {e : Expr} {es : List Expr} {t : TA} {E : XK}
theorem pe_mkRX (c : MakRX X.prog X.w X.K X.mg X.base k x C sp) (hr : Room j X.A) (hk : k + 1 ≤ j) (hg : Gl X x) (hx : Passes (L2.CX X.prog X.w) X E) (ha : PA X (e :: es) t) (hdb : (x == ("__debug__" : Str)) = false := by decide)
    (he : starEach (e :: es) X.env = (false, eval e X.env) :: starEach es X.env := by rfl) (hpl : (backTo pos (starEach es X.env)).any (·.1) = false := by rfl) : PE X (.Call (.Name x p) (e :: es) [] pos) (StX.tMakeR C sp E t) :=
  have ⟨_, M, F, hm⟩ := c.ex
  StX.pe_makeR M F (hr.mono hk) hg hm hx ha hdb he hpl
theorem pe_mkSX (c : MakRX X.prog X.w X.K X.mg X.base k x C sp) (hr : Room j X.A) (hk : k + 1 ≤ j) (hg : Gl X x) (hx : Passes (L2.CX X.prog X.w) X E) (ha : PA X (e :: es) t) (hdb : (x == ("__debug__" : Str)) = false := by decide)
    (he : starEach (e :: es) X.env = (false, eval e X.env) :: starEach es X.env := by rfl) (hst : (backTo pos (starEach es X.env)).any (·.1) = true := by rfl) : PE X (.Call (.Name x p) (e :: es) [] pos) (StX.tMakeR C sp E t) := by
  have ⟨_, M, F, hm⟩ := c.ex
  refine ⟨fun pins s σ H Q I h => wpAny_Call_Name_kw (ld_glob I hg hm ?_ hdb)⟩
  exact PySem.W.callWith_S2 (h₀ := X.base) I.ok.mod.kin M.kp (thn (ha.run pos pins s σ H _ I h) fun _ _ ⟨_, _, I1, r, q⟩ => ⟨I1.kIn, StX.run_makeR M F (hr.mono hk) hx I1 r q⟩) he hst
end

/-! The class Bound. -/



abbrev BX := List SD
def boxD (b : BX) : PyData := .tuple (b.map sD)
class BndK (K : PySem.W.Frag) : Prop where
  ins : InsK K (cls_at K "Bound")
  nW : NoAttr K (cls_at K "Bound") "width"
  nB : NoAttr K (cls_at K "Bound") "_boxes"
def bndF (w : Int) (tb : Addr) : List (Str × V) := putF "_boxes" (.ref tb) (putF "width" (.int w) [])
theorem bndF_w (w : Int) (tb : Addr) : (bndF w tb).lookup ("width" : Str) = some (.int w) := by
  unfold bndF
  rw [lookup_putF, if_neg (by decide +kernel), lookup_putF, if_pos rfl]
theorem bndF_b (w : Int) (tb : Addr) : (bndF w tb).lookup ("_boxes" : Str) = some (.ref tb) := by
  unfold bndF
  rw [lookup_putF, if_pos rfl]
theorem bndF_no (w : Int) (tb : Addr) {m : Str} (h1 : ¬ m = "_boxes") (h2 : ¬ m = "width") : (bndF w tb).lookup m = none := by
  unfold bndF; rw [lookup_putF, if_neg h1, lookup_putF, if_neg h2]
  rfl
/-- a box as any value is looked at -/
def isBox (w : Int) : PyData → Bool
  | .tuple ds => decide ((ds.length : Int) = w) && ds.all isSt
  | _ => false
def wideB : PyData → Prop
  | .tuple ds => ds.length < 1000
  | _ => True
theorem dp_oV {K : PySem.W.Frag} {H : Hp} {v : V} {o : Option Int} (h : Dp K H v (oD o)) : v = oV o := by cases o <;> cases h <;> rfl
theorem stv_of {K : PySem.W.Frag} {H : Hp} {x : V} {s : SD} (h : Dp K H x (sD s)) : StV K H x s := by
  cases s with
  | none => cases h; rfl
  | some ab =>
    obtain ⟨a, b⟩ := ab
    cases h with
    | tup hp hA =>
    cases hA with
    | cons h1 hA =>
    cases hA with
    | cons h2 hA =>
    cases hA
    rw [dp_oV h1, dp_oV h2] at hp
    exact ⟨_, rfl, hp⟩
section
variable {K : PySem.W.Frag} [SB : BndK K] {σ : L2.St} {G H : Hp} {L : List (Addr × HO)} {Q : VK} {E : XK} {D : Ends} {x dx tb : Addr} {w : Int}
theorem rd_Bw {P : V → Prop} (ob : H x = some (.ins (cls_at K "Bound") dx (bndF w tb))) (q : P (.int w)) : ∃ a C dx fs v, V.ref x = .ref a ∧ H a = some (.ins C dx fs) ∧ Cls K C ∧ NoAttr K C "width" ∧ fs.lookup ("width" : Str) = some v ∧ P v :=
  ⟨x, _, _, _, _, rfl, ob, SB.ins.cl, SB.nW, bndF_w w tb, q⟩
theorem rd_Bb {P : V → Prop} (ob : H x = some (.ins (cls_at K "Bound") dx (bndF w tb))) (q : P (.ref tb)) : ∃ a C dx fs v, V.ref x = .ref a ∧ H a = some (.ins C dx fs) ∧ Cls K C ∧ NoAttr K C "_boxes" ∧ fs.lookup ("_boxes" : Str) = some v ∧ P v :=
  ⟨x, _, _, _, _, rfl, ob, SB.ins.cl, SB.nB, bndF_b w tb, q⟩
/-! ### is_box -/
def sp_is_box (K : PySem.W.Frag) : Sp := fun vs H Q _ => ∃ (v : V) (d : PyData) (w : Int) (G : Hp) (L : List (Addr × HO)), vs = [.int w, v] ∧ Stt G H L ∧ Dp K G v d ∧ wideB d ∧ ∀ H', Stt G H' L → Q (.bl (isBox w d)) H'
def t_is_box (K : PySem.W.Frag) : TS :=
  (tRet (tAndV (tCB (gIsi K) (tCons (tVar 1) (tCons (tC (.ty "tuple")) tNil))) (tAndV (tOp (gEq K) (tCB (gLen K) (tCons (tVar 1) tNil)) (tVar 0)) (tCB (rAll K) (tCons (tLc (iTup K (tVar 1)) (gName 2) tYes (tCall (sp_is_stretch K) [] E0 (tCons (tVar 2) tNil)) [2]) tNil)))))
theorem sat_is_box {vs : List V} (h : sp_is_box K vs H Q E) : vs.length = 2 ∧ t_is_box K { nx := fun _ H' => Q .non H', rt := Q } (vs.map some ++ List.replicate (3 - vs.length) none) H := by
  obtain ⟨v, d, w, G, L, rfl, S, hv, hw, q⟩ := h
  refine ⟨rfl, ?_⟩
  have hv' := Dp.ex S.ex _ _ hv
  unfold t_is_box
  have no : ∀ {u : V} {e : PyData}, Dp K H u e → kitB (tyN e) "tuple" = some false → isBox w e = false → e = d → u = v → tRet (tAndV (tCB (gIsi K) (tCons (tVar 1) (tCons (tC (.ty "tuple")) tNil))) (tAndV (tOp (gEq K) (tCB (gLen K) (tCons (tVar 1) tNil)) (tVar 0)) (tCB (rAll K) (tCons (tLc (iTup K (tVar 1)) (gName 2) tYes (tCall (sp_is_stretch K) [] E0 (tCons (tVar 2) tNil)) [2]) tNil)))) { nx := fun _ H' => Q .non H', rt := Q } (([.int w, v] : List V).map some ++ List.replicate (3 - ([.int w, v] : List V).length) none) H := fun {u e} hu hk hb he hv2 => by
    subst he hv2
    refine rd_ret (rd_andV (rd_cb (rd_cons (rd_var rfl (rd_cons (rd_c (rd_nil (rd_isi hu hk ⟨false, rfl, ?_⟩))))))))
    have := q H S
    rw [hb] at this
    exact this
  cases d with
  | dict _ => cases hv
  | none => exact no hv' kt_NoneType_tuple rfl rfl rfl
  | bool _ => exact no hv' kt_bool_tuple rfl rfl rfl
  | int _ => exact no hv' kt_int_tuple rfl rfl rfl
  | str _ => exact no hv' kt_str_tuple rfl rfl rfl
  | list _ => exact no hv' kt_list_tuple rfl rfl rfl
  | tuple ds =>
    clear no
    cases hv with
    | @tup a xs _ ha hA =>
    have hl := DpAll.length hA
    have hz : ds.length < 1000 := hw
    refine rd_ret (rd_andV (rd_cb (rd_cons (rd_var rfl (rd_cons (rd_c (rd_nil (rd_isi hv' kt_tuple_tuple ⟨true, rfl, ?_⟩))))))))
    refine rd_andV (rd_op (rd_cb (rd_cons (rd_var rfl (rd_nil (rd_lenT (ex_t S.ex ha) (rd_var rfl (rd_eqI ⟨_, rfl, ?_⟩))))))))
    rw [hl]
    refine rd_dec (fun e => ?_) (fun e => ?_)
    · refine rd_cb (rd_cons (rd_lc (rd_it (rd_var rfl ⟨a, rfl, ⟨_, ex_t S.ex ha⟩, ?_⟩))))
      refine lc_go stt_world (walk_tup (K := K) (a := a) (xs := xs)) S (by omega) (fun i v _ => xs[i]? = some v) (fun i acc _ => acc = ((ds.take i).map isSt).map V.bl) (fun H' e' => ex_t e' ha)
        (fun i x G1 H1 H2 L1 _ e1 S1 y => item_at S1 y) rfl (fun _ _ _ _ _ h => h) ?_ ?_
      · intro D1 i x acc G2 H2 hi _ e2 S2 I2 it Kp Sk kp sk
        obtain ⟨e1, he1, hd1⟩ := DpAll.get hA it
        refine rd_name ⟨rfl, rd_yes (rd_iT (rd_call (rd_cons (rd_var rfl (rd_nil ⟨_, e1, rfl, Dp.ex (e2.trans S2.ex) _ _ hd1, kp _ G2 H2 (Ex.refl _) S2 ?_⟩)))))⟩
        rw [I2, List.take_add_one, he1, List.map_append, List.map_append]
        rfl
      · intro D1 acc G2 H2 e2 S2 I2 _
        have ha : acc = (ds.map isSt).map V.bl := by rw [I2, List.take_of_length_le (by omega)]
        subst ha
        refine rd_nil (rd_all (sq_of (S2.at 0 rfl)) ?_)
        have := q H2 (S2.drop.less e2)
        rw [show isBox w (.tuple ds) = (decide ((ds.length : Int) = w) && ds.all isSt) from rfl, decide_eq_true e, Bool.true_and] at this
        rw [List.all_map]
        exact this
    · have := q H S
      rw [show isBox w (.tuple ds) = (decide ((ds.length : Int) = w) && ds.all isSt) from rfl, decide_eq_false e, Bool.false_and] at this
      exact this
/-! ### the making -/
def sp_Bound_init (K : PySem.W.Frag) : Sp := fun vs H Q E => ∃ (x dx : Addr) (w : Int) (rest : List V) (good more : List PyData) (G : Hp) (L : List (Addr × HO)), vs = .ref x :: .int w :: rest ∧ Stt G H ((x, .ins (cls_at K "Bound") dx []) :: L) ∧ DpAll K G rest (good ++ more) ∧ (good ++ more).length ≤ 100 ∧
  (∀ d, d ∈ good ++ more → wideB d) ∧ (∀ d, d ∈ good → isBox w d = true) ∧
  ((more = [] ∧ ∀ tb G' H', Ex G G' → Stt G' H' L → G' x = some (.ins (cls_at K "Bound") dx (bndF w tb)) → SqT K G' tb rest → Q .non H') ∨
   (∃ d r, more = d :: r ∧ isBox w d = false ∧ ∀ dd G' H', Ex G G' → Stt G' H' L → H' dd = some (.xd (excF "InvalidBox" "at" (.int (good.length : Nat)))) → E (.ref (cls_at K "InvalidBox")) (some dd) H'))
def t_Bound_init_0b (K : PySem.W.Frag) (E : XK) : TS :=
  (tIfS (tNot (tB (tCall (sp_is_box K) [] E0 (tCons (tVar 1) (tCons (tVar 4) tNil))))) (tRaise (cls_at K "InvalidBox") "InvalidBox" "at" E (tVar 3)) tNext)
def t_Bound_init_2 (K : PySem.W.Frag) (E : XK) : TS :=
  (sFld K (tVar 0) (tCB (gTuple K) (tCons (tVar 2) tNil)) "_boxes")
def t_Bound_init_1 (K : PySem.W.Frag) (E : XK) : TS :=
  (tSeq (sFld K (tVar 0) (tVar 1) "width")
  (t_Bound_init_2 K E))
def t_Bound_init (K : PySem.W.Frag) (E : XK) : TS :=
  (tSeq (tFor (iEnumT K (tCons (tVar 2) tNil)) (gTup K 2 (gCons (gName 3) (gCons (gName 4) gNil))) (t_Bound_init_0b K E))
  (t_Bound_init_1 K E))
theorem boomB {C : Addr} {nm fl : Str} {v : V} {j : Nat} {L' : List (Addr × HO)} (hv : σ[j]? = some (some v)) {G1 H1 : Hp} (e1 : Ex G G1) (S1 : Stt G1 H1 L') (q : ∀ dd G' H', Ex G G' → Stt G' H' L' → H' dd = some (.xd (excF nm fl v)) → E (.ref C) (some dd) H') : tRaise C nm fl E (tVar j) D σ H1 := by
  refine rd_var (Q := fun v H2 => ∀ d, H2 d = none → E (.ref C) (some d) (upd H2 d (.xd (excF nm fl v)))) hv fun dd hd => ?_
  exact q dd _ _ (e1.trans (stt_world.newE S1 hd)) (stt_world.new S1 hd) upd_same
theorem get_split {good more : List PyData} {i : Nat} {d : PyData} (h : (good ++ more)[i]? = some d) : (i < good.length ∧ d ∈ good) ∨ (good.length ≤ i ∧ more[i - good.length]? = some d) := by
  by_cases c : i < good.length
  · rw [List.getElem?_append_left c] at h
    exact .inl ⟨c, List.mem_of_getElem? h⟩
  · rw [List.getElem?_append_right (by omega)] at h
    exact .inr ⟨by omega, h⟩
theorem sat_Bound_init {vs : List V} (h : sp_Bound_init K vs H Q E) : ∃ ws rest, vs = ws ++ rest ∧ ws.length = 2 ∧ rest.length ≤ sizeLine ∧ ∀ p, H p = none → (ws ++ [V.ref p]).length = 3 ∧ t_Bound_init K E { nx := fun _ H' => Q .non H', rt := Q } ((ws ++ [V.ref p]).map some ++ List.replicate (5 - (ws ++ [V.ref p]).length) none) (upd H p (.tup rest)) := by
  obtain ⟨x, dx, w, rest, good, more, G, L, rfl, S, hA, h100, hw, hg, h⟩ := h
  have hl := DpAll.length hA
  refine ⟨[.ref x, .int w], rest, rfl, rfl, sz_of (by omega), fun p hp => ⟨rfl, ?_⟩⟩
  have S1 := S.new (o := .tup rest) hp
  have e1 := S.newE (o := .tup rest) hp
  have hr : SqT K (upd G p (.tup rest)) p rest := st_of upd_same
  have hA1 := DpAll.ex e1 _ _ hA
  generalize upd G p (.tup rest) = G1 at *
  show t_Bound_init K E _ [some (.ref x), some (.int w), some (.ref p), none, none] _
  unfold t_Bound_init
  refine rd_seq (rd_for (rd_enumT (rd_cons (rd_var rfl (rd_nil ?_)))))
  refine ⟨p, _, rfl, ex_t S1.ex hr, ?_⟩
  refine for_go (walk_enumT (a := p) (xs := rest)) (G := G1)
    (fun i σ1 G2 H2 => ∃ x3 x4, (i ≤ good.length) ∧ σ1 = [some (.ref x), some (.int w), some (.ref p), x3, x4] ∧ Ex G1 G2 ∧ Stt G2 H2 ((x, .ins (cls_at K "Bound") dx []) :: L))
    ⟨_, _, Nat.zero_le _, rfl, Ex.refl G1, S1⟩ (fun i σ1 G2 H2 _ ⟨_, _, _, _, e2, S2⟩ => ex_t (e2.trans S2.ex) hr) ?_ ?_
  · rintro i v σ1 G2 H2 H3 hi ⟨x3, x4, hig, rfl, e2, S2⟩ y N hN
    obtain ⟨T, c, z, rfl, hT, rfl, hc, hz⟩ := y
    cases hc
    have hz : rest[i]? = some z := hz
    have S3 := S2.new (o := .tup [.int (i : Nat), z]) hT
    have e3 := S2.newE (o := .tup [.int (i : Nat), z]) hT
    have e23 := e2.trans e3
    obtain ⟨d, hd, dp⟩ := DpAll.get hA1 hz
    have hdm := List.mem_of_getElem? hd
    refine rd_gtup2 (st_of upd_same) ?_
    unfold t_Bound_init_0b
    refine rd_ifs (rd_not (rd_B (rd_call (rd_cons (rd_var rfl (rd_cons (rd_var rfl (rd_nil ⟨z, d, w, _, _, rfl, S3, Dp.ex e23 _ _ dp, hw d hdm, fun H4 S4 => ⟨_, rfl, ?_⟩⟩))))))))
    rcases get_split hd with ⟨hlt, hmem⟩ | ⟨hge, hm⟩
    · rw [hg d hmem]
      exact rd_next (hN _ (upd G2 T (.tup [.int (i : Nat), z])) _ ⟨_, _, hlt, rfl, e23, S4⟩)
    · have hie : i = good.length := by omega
      subst hie
      rw [Nat.sub_self] at hm
      rcases h with ⟨rfl, _⟩ | ⟨d1, r, rfl, bad, q⟩
      · cases hm
      · cases (Option.some.inj hm)
        rw [bad]
        refine (if_pos (show (!false) = true from rfl)).mpr ?_
        exact boomB (G := G) rfl (e1.trans e23) S4.drop q
  · rintro σ1 G2 H2 ⟨x3, x4, hig, rfl, e2, S2⟩
    rcases h with ⟨rfl, q⟩ | ⟨d1, r, rfl, bad, q⟩
    · unfold t_Bound_init_1
      refine rd_seq (rd_sfld (rd_var rfl (rd_var rfl ⟨x, _, dx, [], rfl, S2.at 0 rfl, SB.ins.cl, SB.nW, by decide, ?_⟩)))
      have S3 : Stt G2 (upd H2 x _) ((x, .ins (cls_at K "Bound") dx (putF "width" (.int w) [])) :: L) := S2.wr 0 rfl
      unfold t_Bound_init_2
      refine rd_sfld (rd_cb (rd_cons (rd_var rfl (rd_nil ⟨p, rest, rfl, .inr ⟨ex_t (e2.trans S3.ex) hr, rd_var rfl ⟨x, _, dx, _, rfl, S3.at 0 rfl, SB.ins.cl, SB.nB, by show 1 < 1000; decide, ?_⟩⟩⟩))))
      have S4 : Stt G2 (upd (upd H2 x _) x _) ((x, .ins (cls_at K "Bound") dx (bndF w p)) :: L) := S3.wr 0 rfl
      exact q p _ _ (e1.trans (e2.trans S4.frzE)) S4.frz upd_same (ex_t (e2.trans S4.frzE) hr)
    · rw [hl, List.length_append, List.length_cons] at hig
      omega
end

/-! What a bound tells: len, bool, boxes, text, repr, in. -/
open PySem PySem.Spec PyProof.Rows L2 Evl RZ NumText



/-! ### texts -/
def boxL (b : BX) : List Nat := TL.joinL [32] (b.map stL)
def bndL (bs : List BX) : List Nat := if bs = [] then [110, 111, 110, 101] else TL.joinL [32, 124, 32] (bs.map boxL)
theorem joinL_le (z : List Nat) (B : Nat) : ∀ ws : List (List Nat), (∀ w, w ∈ ws → w.length ≤ B) → (TL.joinL z ws).length ≤ ws.length * (B + z.length)
  | [], _ => Nat.zero_le _
  | [w], h => by
    show w.length ≤ 1 * (B + z.length)
    have := h w (List.mem_cons_self ..)
    omega
  | w :: v :: ws, h => by
    have ih := joinL_le z B (v :: ws) fun x hx => h x (List.mem_cons_of_mem _ hx)
    have h1 := h w (List.mem_cons_self ..)
    show (w ++ (z ++ TL.joinL z (v :: ws))).length ≤ _
    rw [List.length_append, List.length_append, List.length_cons (as := v :: ws), Nat.succ_mul]
    omega
theorem sum_le (B : Nat) : ∀ ys : List Str, (∀ z, z ∈ ys → z.length ≤ B) → (ys.map (·.length)).sum ≤ ys.length * B
  | [], _ => Nat.zero_le _
  | y :: ys, h => by
    have ih := sum_le B ys fun x hx => h x (List.mem_cons_of_mem _ hx)
    have h1 : _ := h y (List.mem_cons_self ..)
    rw [List.map_cons, List.sum_cons, List.length_cons, Nat.succ_mul]; omega
theorem stL_len {s : SD} (h : stBd s) : (stL s).length ≤ 44 := by
  cases s with
  | none => show 1 ≤ 44; decide
  | some ab =>
    obtain ⟨a, b⟩ := ab
    have ⟨h1, h2⟩ := h a b rfl
    have l1 := sideL_len h1
    have l2 := sideL_len h2
    show (sideL a ++ ([46, 46] ++ sideL b)).length ≤ 44
    rw [List.length_append, List.length_append]
    show _ + (2 + _) ≤ 44
    omega
/-- small boxes with small sides -/
def smallB (b : BX) : Prop := b.length ≤ 3 ∧ ∀ s, s ∈ b → stBd s
theorem boxL_len {b : BX} (h : smallB b) : (boxL b).length ≤ 135 := by
  have := joinL_le [32] 44 (b.map stL) fun w hw => by
    obtain ⟨s, hs, rfl⟩ := List.mem_map.mp hw
    exact stL_len (h.2 s hs)
  rw [List.length_map] at this
  have h3 := h.1
  show (TL.joinL [32] (b.map stL)).length ≤ 135
  have h4 : b.length * (44 + [32].length) ≤ 3 * 45 := Nat.mul_le_mul h3 (by decide)
  omega
theorem bndL_len {bs : List BX} (h3 : bs.length ≤ 10) (h : ∀ b, b ∈ bs → smallB b) : (bndL bs).length ≤ 1400 := by
  unfold bndL
  by_cases c : bs = []
  · rw [if_pos c]; show 4 ≤ 1400; decide
  · rw [if_neg c]
    have := joinL_le [32, 124, 32] 135 (bs.map boxL) fun w hw => by
      obtain ⟨b, hb, rfl⟩ := List.mem_map.mp hw
      exact boxL_len (h b hb)
    rw [List.length_map] at this
    have h4 : bs.length * (135 + [32, 124, 32].length) ≤ 10 * 138 := Nat.mul_le_mul h3 (by decide)
    omega
section
variable {K : PySem.W.Frag} [SB : BndK K] {σ : L2.St} {G H : Hp} {L : List (Addr × HO)} {Q : VK} {E : XK} {D : Ends} {x dx tb : Addr} {w : Int}
/-! ### len, bool, boxes -/
def sp_Bound_len (K : PySem.W.Frag) : Sp := fun vs H Q _ => ∃ (x dx tb : Addr) (w : Int) (us : List V), vs = [.ref x] ∧ H x = some (.ins (cls_at K "Bound") dx (bndF w tb)) ∧ SqT K H tb us ∧ Q (.int us.length) H
def t_Bound_len (K : PySem.W.Frag) : TS :=
  (tRet (tCB (gLen K) (tCons (tFld K (tVar 0) "_boxes") tNil)))
theorem sat_Bound_len {vs : List V} (h : sp_Bound_len K vs H Q E) : vs.length = 1 ∧ t_Bound_len K { nx := fun _ H' => Q .non H', rt := Q } (vs.map some ++ List.replicate (1 - vs.length) none) H := by
  obtain ⟨x, dx, tb, w, us, rfl, ob, hu, q⟩ := h
  refine ⟨rfl, ?_⟩
  unfold t_Bound_len
  exact rd_ret (rd_cb (rd_cons (rd_fld (rd_var rfl (rd_Bb ob (rd_nil (rd_lenT hu q)))))))
def sp_Bound_bool (K : PySem.W.Frag) : Sp := fun vs H Q _ => ∃ v : V, vs = [v] ∧ Q (.bl true) H
def t_Bound_bool (K : PySem.W.Frag) : TS :=
  (tRet (tC (.bl true)))
theorem sat_Bound_bool {vs : List V} (h : sp_Bound_bool K vs H Q E) : vs.length = 1 ∧ t_Bound_bool K { nx := fun _ H' => Q .non H', rt := Q } (vs.map some ++ List.replicate (1 - vs.length) none) H := by
  obtain ⟨v, rfl, q⟩ := h
  refine ⟨rfl, ?_⟩
  unfold t_Bound_bool
  exact rd_ret (rd_c q)
def sp_Bound_boxes (K : PySem.W.Frag) : Sp := fun vs H Q _ => ∃ (x dx tb : Addr) (w : Int) (us : List V) (G : Hp) (L : List (Addr × HO)), vs = [.ref x] ∧ Stt G H L ∧ G x = some (.ins (cls_at K "Bound") dx (bndF w tb)) ∧ SqT K G tb us ∧
  ∀ p H', Stt G H' ((p, .lst us) :: L) → Q (.ref p) H'
def t_Bound_boxes (K : PySem.W.Frag) : TS :=
  (tRet (tCB (gList K) (tCons (tFld K (tVar 0) "_boxes") tNil)))
theorem sat_Bound_boxes {vs : List V} (h : sp_Bound_boxes K vs H Q E) : vs.length = 1 ∧ t_Bound_boxes K { nx := fun _ H' => Q .non H', rt := Q } (vs.map some ++ List.replicate (1 - vs.length) none) H := by
  obtain ⟨x, dx, tb, w, us, G, L, rfl, S, ob, hu, q⟩ := h
  refine ⟨rfl, ?_⟩
  unfold t_Bound_boxes
  refine rd_ret (rd_cb (rd_cons (rd_fld (rd_var rfl (rd_Bb (S.ex _ _ ob) (rd_nil ⟨tb, us, rfl, .inr (ex_t S.ex hu), ?_⟩))))))
  exact mk_mu (o := .lst us) stt_world S fun p S1 => q p _ S1
/-! ### text -/
theorem box_inv {u : V} {b : BX} (h : Dp K H u (boxD b)) : ∃ a xs, u = .ref a ∧ SqT K H a xs ∧ DpAll K H xs (b.map sD) := by
  unfold boxD at h
  cases h with
  | @tup a xs _ ha hA => exact ⟨a, xs, rfl, ha, hA⟩
theorem get_map {α : Type} {f : α → PyData} {l : List α} {i : Nat} {d : PyData} (h : (l.map f)[i]? = some d) : ∃ a, l[i]? = some a ∧ d = f a := by
  rw [List.getElem?_map] at h
  cases e : l[i]? with
  | none => (rw [e] at h; cases h)
  | some a => rw [e] at h; exact ⟨a, rfl, (Option.some.inj h).symm⟩
/-- " ".join of the texts of a box -/
theorem rd_boxT {a : Addr} {xs : List V} {b : BX} {σ : L2.St} {te : TE} {j : Nat} (hσ : σ[j]? = some (some (.ref a))) (S : Stt G H L) (ha : SqT K G a xs) (hA : DpAll K G xs (b.map sD)) (hb : smallB b) {k : Nat} (hw : ∀ x, wipe ((wipe σ [k]).set k (some x)) [k] = wipe σ [k])
    (hS : ∀ x s G1 H1 (L1 : List (Addr × HO)) (Kp : VK), Ex G G1 → Stt G1 H1 L1 → StV K H1 x s → s ∈ b → (∀ G2 H2, Ex G1 G2 → Stt G2 H2 L1 → Kp (.str (SX.S (stL s))) H2) → te ((wipe σ [k]).set k (some x)) H1 Kp)
    (q : ∀ G' H', Ex G G' → Stt G' H' L → Q (.str (SX.S (boxL b))) H') : tJoinS K " " (tLc (iTup K (tVar j)) (gName k) tYes te [k]) σ H Q := by
  have hl := DpAll.length hA
  rw [List.length_map] at hl
  have b3 := hb.1
  refine rd_joinS (rd_lc (rd_it (rd_var hσ ⟨a, rfl, ⟨_, ex_t S.ex ha⟩, ?_⟩)))
  refine lc_go stt_world (walk_tup (K := K) (a := a) (xs := xs)) S (by omega) (fun i v _ => xs[i]? = some v) (fun i acc _ => acc = ((b.take i).map fun s => SX.S (stL s)).map V.str) (fun H' e' => ex_t e' ha)
    (fun i x G1 H1 H2 L1 _ e1 S1 y => item_at S1 y) rfl (fun _ _ _ _ _ h => h) ?_ ?_
  · intro D1 i x acc G2 H2 hi _ e2 S2 I2 it Kp Sk kp sk
    obtain ⟨d, hd, dp⟩ := DpAll.get hA it
    obtain ⟨s, hs, rfl⟩ := get_map hd
    refine rd_name ⟨hw x, rd_yes (rd_iT (hS x s G2 H2 _ Kp e2 S2 (stv_of (Dp.ex (e2.trans S2.ex) _ _ dp)) (List.mem_of_getElem? hs) fun G3 H3 e3 S3 => kp _ G3 H3 e3 S3 ?_))⟩
    rw [I2, List.take_add_one, hs, List.map_append, List.map_append]
    rfl
  · intro D1 acc G2 H2 e2 S2 I2 _
    have ha : acc = (b.map fun s => SX.S (stL s)).map V.str := by rw [I2, List.take_of_length_le (by omega)]
    subst ha
    refine ⟨D1, _, rfl, sq_of (S2.at 0 rfl), ?_, ?_⟩
    · have := sum_le 44 (b.map fun s => SX.S (stL s)) fun z hz => by
        obtain ⟨s, hs, rfl⟩ := List.mem_map.mp hz
        rw [SX.S_len]
        exact stL_len (hb.2 s hs)
      rw [List.length_map] at this ⊢
      have k1 : (" " : Str).length = 1 := rfl
      have : b.length * 44 ≤ 3 * 44 := Nat.mul_le_mul_right _ b3
      rw [k1]
      omega
    · have e : Txt.join " " (b.map fun s => SX.S (stL s)) = SX.S (boxL b) := by
        have h := SX.join_S [32] (b.map stL)
        rw [List.map_map] at h
        exact h
      rw [e]
      exact q G2 H2 e2 S2.drop
/-- " | ".join of texts -/
theorem rd_bndJ {D1 : Addr} {bs : List BX} (S : Stt G H ((D1, .lst ((bs.map fun b => SX.S (boxL b)).map V.str)) :: L)) (h3 : bs.length ≤ 10) (hb : ∀ b, b ∈ bs → smallB b) (ne : bs ≠ []) (q : Q (.str (SX.S (bndL bs))) H) : JoinS K " | " (.ref D1) H Q := by
  refine ⟨D1, _, rfl, sq_of (S.at 0 rfl), ?_, ?_⟩
  · have := sum_le 135 (bs.map fun b => SX.S (boxL b)) fun z hz => by
      obtain ⟨b, hb1, rfl⟩ := List.mem_map.mp hz
      rw [SX.S_len]
      exact boxL_len (hb b hb1)
    rw [List.length_map] at this ⊢
    have k1 : (" | " : Str).length = 3 := rfl
    have : bs.length * 135 ≤ 10 * 135 := Nat.mul_le_mul_right _ h3
    rw [k1]
    omega
  · have e : Txt.join " | " (bs.map fun b => SX.S (boxL b)) = SX.S (bndL bs) := by
      have h := SX.join_S [32, 124, 32] (bs.map boxL)
      rw [List.map_map] at h
      unfold bndL
      rw [if_neg ne]
      exact h
    rw [e]
    exact q
def sp_Bound_text (K : PySem.W.Frag) : Sp := fun vs H Q _ => ∃ (x dx tb : Addr) (w : Int) (us : List V) (bs : List BX) (G : Hp) (L : List (Addr × HO)), vs = [.ref x] ∧ Stt G H L ∧ G x = some (.ins (cls_at K "Bound") dx (bndF w tb)) ∧ SqT K G tb us ∧ DpAll K G us (bs.map boxD) ∧
  bs.length ≤ 10 ∧ (∀ b, b ∈ bs → smallB b) ∧ ∀ G' H', Ex G G' → Stt G' H' L → Q (.str (SX.S (bndL bs))) H'
def t_Bound_text_1 (K : PySem.W.Frag) : TS :=
  (tRet (tJoinS K " | " (tLc (iTup K (tFld K (tVar 0) "_boxes")) (gName 1) tYes (tJoinS K " " (tLc (iTup K (tVar 1)) (gName 2) tYes (tCall (sp_stretch_text K) [] E0 (tCons (tVar 2) tNil)) [2])) [1])))
def t_Bound_text (K : PySem.W.Frag) : TS :=
  (tSeq (tIfS (tTest (tOp (gEq K) (tCB (gLen K) (tCons (tFld K (tVar 0) "_boxes") tNil)) (tC (.int 0)))) (tRet (tC (.str "none"))) tNext)
  (t_Bound_text_1 K))
theorem sat_Bound_text {vs : List V} (h : sp_Bound_text K vs H Q E) : vs.length = 1 ∧ t_Bound_text K { nx := fun _ H' => Q .non H', rt := Q } (vs.map some ++ List.replicate (3 - vs.length) none) H := by
  obtain ⟨x, dx, tb, w, us, bs, G, L, rfl, S, ob, hu, hA, h3, hb, q⟩ := h
  refine ⟨rfl, ?_⟩
  have hl := DpAll.length hA
  rw [List.length_map] at hl
  unfold t_Bound_text
  refine rd_seq (rd_ifs (rd_test (rd_op (rd_cb (rd_cons (rd_fld (rd_var rfl (rd_Bb (S.ex _ _ ob) (rd_nil (rd_lenT (ex_t S.ex hu) (rd_c (rd_eqI (rd_bl ?_)))))))))))))
  rw [hl]
  refine rd_dec (fun e => ?_) (fun e => ?_)
  · have hb0 : bs = [] := List.length_eq_zero_iff.mp (by omega)
    refine rd_ret (rd_c ?_)
    have := q G H (Ex.refl G) S
    rw [hb0] at this
    exact this
  · have ne : bs ≠ [] := fun z => e (by rw [z]; rfl)
    refine rd_next ?_
    show t_Bound_text_1 K _ _ _
    unfold t_Bound_text_1
    refine rd_ret (rd_joinS (rd_lc (rd_it (rd_fld (rd_var rfl (rd_Bb (S.ex _ _ ob) ⟨tb, rfl, ⟨_, ex_t S.ex hu⟩, ?_⟩))))))
    refine lc_go stt_world (walk_tup (K := K) (a := tb) (xs := us)) S (by omega) (fun i v _ => us[i]? = some v) (fun i acc _ => acc = ((bs.take i).map fun b => SX.S (boxL b)).map V.str) (fun H' e' => ex_t e' hu)
      (fun i x G1 H1 H2 L1 _ e1 S1 y => item_at S1 y) rfl (fun _ _ _ _ _ h => h) ?_ ?_
    · intro D1 i u acc G2 H2 hi _ e2 S2 I2 it Kp Sk kp sk
      obtain ⟨d, hd, dp⟩ := DpAll.get hA it
      obtain ⟨b, hbi, rfl⟩ := get_map hd
      obtain ⟨a, xs, rfl, ha, hxs⟩ := box_inv (Dp.ex e2 _ _ dp)
      refine rd_name ⟨rfl, rd_yes (rd_iT (rd_boxT (j := 1) rfl S2 ha hxs (hb b (List.mem_of_getElem? hbi)) (fun _ => rfl) (fun y s G3 H3 L3 Kp2 e3 S3 hy hs kp2 => ?_) fun G3 H3 e3 S3 => kp _ G3 H3 e3 S3 ?_))⟩
      · exact rd_call (rd_cons (rd_var rfl (rd_nil ⟨y, s, rfl, hy, (hb b (List.mem_of_getElem? hbi)).2 s hs, kp2 G3 H3 (Ex.refl _) S3⟩)))
      · rw [I2, List.take_add_one, hbi, List.map_append, List.map_append]
        rfl
    · intro D1 acc G2 H2 e2 S2 I2 _
      have ha : acc = (bs.map fun b => SX.S (boxL b)).map V.str := by rw [I2, List.take_of_length_le (by omega)]
      subst ha
      exact rd_bndJ S2 h3 hb ne (q G2 H2 e2 S2.drop)
/-! ### repr -/
def sp_Bound_repr (K : PySem.W.Frag) : Sp := fun vs H Q _ => ∃ (x dx tb : Addr) (w : Int) (us : List V) (bs : List BX) (G : Hp) (L : List (Addr × HO)), vs = [.ref x] ∧ Stt G H L ∧ G x = some (.ins (cls_at K "Bound") dx (bndF w tb)) ∧ SqT K G tb us ∧ DpAll K G us (bs.map boxD) ∧
  bs.length ≤ 10 ∧ (∀ b, b ∈ bs → smallB b) ∧ ∀ G' H', Ex G G' → Stt G' H' L → Q (.str ((("Bound(" : Str) ++ SX.S (bndL bs)) ++ (")" : Str))) H'
def t_Bound_repr (K : PySem.W.Frag) : TS :=
  (tRet (tFs [(tC (.str "Bound(")), (tFmt (tMeth (cls_at K "Bound") "text" (sp_Bound_text K) [] E0 (tVar 0) tNil)), (tC (.str ")"))]))
theorem sat_Bound_repr {vs : List V} (h : sp_Bound_repr K vs H Q E) : vs.length = 1 ∧ t_Bound_repr K { nx := fun _ H' => Q .non H', rt := Q } (vs.map some ++ List.replicate (1 - vs.length) none) H := by
  obtain ⟨x, dx, tb, w, us, bs, G, L, rfl, S, ob, hu, hA, h3, hb, q⟩ := h
  refine ⟨rfl, ?_⟩
  have small := bndL_len h3 hb
  have sz : ∀ n : Nat, n < 90000 → n ≤ sizeLine := fun n h => sz_of (by omega)
  have k1 : ("Bound(" : Str).length = 6 := rfl
  have k2 : (")" : Str).length = 1 := rfl
  have k0 : ("" : Str) ++ ("Bound(" : Str) = ("Bound(" : Str) := by decide +kernel
  have len_add : ∀ a b : Str, (a ++ b).length = a.length + b.length := fun a b => by show (a.cps ++ b.cps).size = _; rw [Array.size_append]; rfl
  have kS : (SX.S (bndL bs)).length = (bndL bs).length := SX.S_len _
  unfold t_Bound_repr
  refine rd_ret (rd_fs (rd_js (rd_c ⟨"Bound(", rfl, by show (("" : Str) ++ ("Bound(" : Str)).length ≤ _; rw [k0, k1]; exact sz _ (by omega), ?_⟩)))
  show tJs _ (("" : Str) ++ ("Bound(" : Str)) _ _ _
  rw [k0]
  refine rd_js (rd_fmt (rd_meth (rd_var rfl ⟨x, _, _, rfl, S.ex _ _ ob, bndF_no _ _ (by decide +kernel) (by decide +kernel), rd_nil ⟨x, dx, tb, w, us, bs, G, L, rfl, S, ob, hu, hA, h3, hb, fun G3 H3 e3 S3 => ?_⟩⟩)))
  refine .inl ⟨_, rfl, by rw [kS]; exact sz _ (by omega), _, rfl, ?_, ?_⟩
  · rw [len_add, kS, k1]
    exact sz _ (by omega)
  refine rd_js (rd_c ⟨")", rfl, ?_, rd_js0 (q G3 H3 e3 S3)⟩)
  rw [len_add, len_add, kS, k1, k2]
  exact sz _ (by omega)
end

/-! Keys in a bound; the bound with all keys. -/
open PySem PySem.Spec PyProof.Rows L2 Evl RZ NumText



/-- a value that is no key of a width -/
def refD (w : Int) : PyData → Bool
  | .tuple ds => !(decide ((ds.length : Int) = w)) || !(ds.all isVal)
  | _ => true
/-- a key in boxes -/
def inBx (b : BX) (os : List (Option Int)) : Bool := (b.zip os).all fun p => inS p.1 p.2
def inBd (bs : List BX) (os : List (Option Int)) : Bool := bs.any fun b => inBx b os
section
variable {K : PySem.W.Frag} [SB : BndK K] {σ : L2.St} {G H : Hp} {L : List (Addr × HO)} {Q : VK} {E : XK} {D : Ends} {x dx tb : Addr} {w : Int}
/-- all([f(stretch, one) for stretch, one in zip(box, key)]) -/
theorem rd_zipB {a k : Addr} {xs : List V} {b : BX} {os : List (Option Int)} {i j m n : Nat} {te : TE} (hi : σ[i]? = some (some (.ref a))) (hj : σ[j]? = some (some (.ref k))) (S : Stt G H L) (ha : SqT K G a xs) (hA : DpAll K G xs (b.map sD)) (hk : SqT K G k (os.map oV)) (hb : b.length ≤ 1000)
    (hw : ∀ x y, wipe ((((wipe σ [m, n]).set m (some x)).set n (some y))) [m, n] = wipe σ [m, n])
    (hS : ∀ x s o H1 (Kp : VK), StV K H1 x s → Kp (.bl (inS s o)) H1 → te (((wipe σ [m, n]).set m (some x)).set n (some (oV o))) H1 Kp)
    (q : ∀ G' H', Ex G G' → Stt G' H' L → Q (.bl (inBx b os)) H') :
    tCB (rAll K) (tCons (tLc (iZipA K (tCons (tVar i) (tCons (tVar j) tNil))) (gTup K 2 (gCons (gName m) (gCons (gName n) gNil))) tYes te [m, n]) tNil) σ H Q := by
  have hl := DpAll.length hA
  rw [List.length_map] at hl
  refine rd_cb (rd_cons (rd_lc (rd_zipA (rd_cons (rd_var hi (rd_cons (rd_var hj (rd_nil ⟨a, k, xs, os.map oV, rfl, .inr ⟨ex_t S.ex ha, ex_t S.ex hk, ?_⟩⟩))))))))
  refine lc_go stt_world (walk_zipT (n := min xs.length (os.map oV).length) rfl) S (by omega) (ItPair K (fun i => xs[i]?) (fun i => (os.map oV)[i]?)) (fun i acc _ => acc = (((b.zip os).take i).map fun p => inS p.1 p.2).map V.bl) (fun H' e' => ⟨ex_t e' ha, ex_t e' hk⟩)
    (fun i x G1 H1 H2 L1 _ e1 S1 y => item_pair stt_world S1 y) rfl (fun _ _ _ _ _ h => h) ?_ ?_
  · intro D1 i x acc G2 H2 hi _ e2 S2 I2 ⟨T, u, v, hx, hT, hu, hv⟩ Kp Sk kp sk
    subst hx
    have hu : xs[i]? = some u := hu
    have hv : (os.map oV)[i]? = some v := hv
    obtain ⟨d, hd, dp⟩ := DpAll.get hA hu
    obtain ⟨s, hs, rfl⟩ := get_map hd
    rw [List.getElem?_map] at hv
    obtain ⟨o, ho, rfl⟩ : ∃ o, os[i]? = some o ∧ v = oV o := by
      cases e : os[i]? with
      | none => rw [e] at hv; cases hv
      | some o => rw [e] at hv; exact ⟨o, rfl, (Option.some.inj hv).symm⟩
    refine rd_gtup2 (ex_t S2.ex hT) ⟨hw _ _, rd_yes (rd_iT (hS u s o H2 Kp (stv_of (Dp.ex (e2.trans S2.ex) _ _ dp)) (kp _ G2 H2 (Ex.refl _) S2 ?_)))⟩
    have hz : (b.zip os)[i]? = some (s, o) := by rw [List.getElem?_zip_eq_some]; exact ⟨hs, ho⟩
    rw [I2, List.take_add_one, hz, List.map_append, List.map_append]
    rfl
  · intro D1 acc G2 H2 e2 S2 I2 _
    have ha : acc = ((b.zip os).map fun p => inS p.1 p.2).map V.bl := by
      rw [I2, List.take_of_length_le (by rw [List.length_zip, List.length_map]; omega)]
    subst ha
    refine rd_nil (rd_all (sq_of (S2.at 0 rfl)) ?_)
    rw [List.all_map]
    exact q G2 H2 e2 S2.drop
def sp_Bound_contains (K : PySem.W.Frag) : Sp := fun vs H Q _ => ∃ (x dx tb : Addr) (w : Int) (y : V) (d : PyData) (G : Hp) (L : List (Addr × HO)), vs = [.ref x, y] ∧ Stt G H L ∧ G x = some (.ins (cls_at K "Bound") dx (bndF w tb)) ∧ Dp K G y d ∧ wideB d ∧
  ((refD w d = true ∧ ∀ G' H', Ex G G' → Stt G' H' L → Q (.bl false) H') ∨
   ∃ (us : List V) (bs : List BX) (os : List (Option Int)), d = .tuple (os.map oD) ∧ (os.length : Int) = w ∧ SqT K G tb us ∧ DpAll K G us (bs.map boxD) ∧ bs.length ≤ 100 ∧ (∀ b, b ∈ bs → b.length ≤ 100) ∧ ∀ G' H', Ex G G' → Stt G' H' L → Q (.bl (inBd bs os)) H')
def t_Bound_contains_2 (K : PySem.W.Frag) : TS :=
  (tRet (tCB (rAny K) (tCons (tLc (iTup K (tFld K (tVar 0) "_boxes")) (gName 3) tYes (tCB (rAll K) (tCons (tLc (iZipA K (tCons (tVar 3) (tCons (tVar 1) tNil))) (gTup K 2 (gCons (gName 4) (gCons (gName 2) gNil))) tYes (tCall (sp_in_stretch K) [] E0 (tCons (tVar 4) (tCons (tVar 2) tNil))) [4, 2]) tNil)) [3]) tNil)))
def t_Bound_contains_1 (K : PySem.W.Frag) : TS :=
  (tSeq (tIfS (tNot (tB (tCB (rAll K) (tCons (tLc (iTup K (tVar 1)) (gName 2) tYes (tCall (sp_is_value K) [] E0 (tCons (tVar 2) tNil)) [2]) tNil)))) (tRet (tC (.bl false))) tNext)
  (t_Bound_contains_2 K))
def t_Bound_contains (K : PySem.W.Frag) : TS :=
  (tSeq (tIfS (tOr (tNot (tB (tCB (gIsi K) (tCons (tVar 1) (tCons (tC (.ty "tuple")) tNil))))) (tTest (tOp (gNe K) (tCB (gLen K) (tCons (tVar 1) tNil)) (tFld K (tVar 0) "width")))) (tRet (tC (.bl false))) tNext)
  (t_Bound_contains_1 K))
theorem vals_os (os : List (Option Int)) : (os.map oD).all isVal = true := by
  rw [List.all_map]
  exact List.all_eq_true.mpr fun o _ => by cases o <;> rfl
theorem oDs_inv : ∀ {xs : List V} {os : List (Option Int)}, DpAll K H xs (os.map oD) → xs = os.map oV
  | _, [], .nil => rfl
  | _, o :: os, .cons h r => by rw [dp_oV h, oDs_inv r]; rfl
theorem sat_Bound_contains {vs : List V} (h : sp_Bound_contains K vs H Q E) : vs.length = 2 ∧ t_Bound_contains K { nx := fun _ H' => Q .non H', rt := Q } (vs.map some ++ List.replicate (5 - vs.length) none) H := by
  obtain ⟨x, dx, tb, w, y, d, G, L, rfl, S, ob, hy, hw, h⟩ := h
  refine ⟨rfl, ?_⟩
  have hy' := Dp.ex S.ex _ _ hy
  unfold t_Bound_contains
  have no : kitB (tyN d) "tuple" = some false → refD w d = true → tSeq (tIfS (tOr (tNot (tB (tCB (gIsi K) (tCons (tVar 1) (tCons (tC (.ty "tuple")) tNil))))) (tTest (tOp (gNe K) (tCB (gLen K) (tCons (tVar 1) tNil)) (tFld K (tVar 0) "width")))) (tRet (tC (.bl false))) tNext) (t_Bound_contains_1 K) { nx := fun _ H' => Q .non H', rt := Q } (([.ref x, y] : List V).map some ++ List.replicate (5 - ([.ref x, y] : List V).length) none) H := fun hk hb => by
    refine rd_seq (rd_ifs (rd_or (rd_not (rd_B (rd_cb (rd_cons (rd_var rfl (rd_cons (rd_c (rd_nil (rd_isi hy' hk ⟨false, rfl, ?_⟩)))))))))))
    rcases h with ⟨_, q⟩ | ⟨us, bs, os, rfl, _⟩
    · refine (if_pos (show (!false) = true from rfl)).mpr ?_
      exact rd_ret (rd_c (q G H (Ex.refl G) S))
    · exact absurd hk (by rw [show tyN (.tuple (os.map oD)) = "tuple" from rfl, kt_tuple_tuple]; decide)
  cases d with
  | dict _ => cases hy
  | none => exact no kt_NoneType_tuple rfl
  | bool _ => exact no kt_bool_tuple rfl
  | int _ => exact no kt_int_tuple rfl
  | str _ => exact no kt_str_tuple rfl
  | list _ => exact no kt_list_tuple rfl
  | tuple ds =>
    clear no
    cases hy with
    | @tup k xs _ hk hA =>
    have hl := DpAll.length hA
    have hz : ds.length < 1000 := hw
    refine rd_seq (rd_ifs (rd_or (rd_not (rd_B (rd_cb (rd_cons (rd_var rfl (rd_cons (rd_c (rd_nil (rd_isi hy' kt_tuple_tuple ⟨true, rfl, ?_⟩)))))))))))
    refine rd_test (rd_op (rd_cb (rd_cons (rd_var rfl (rd_nil (rd_lenT (ex_t S.ex hk) (rd_fld (rd_var rfl (rd_Bw (S.ex _ _ ob) (rd_neI (rd_bl ?_)))))))))))
    rw [hl]
    have early : refD w (.tuple ds) = true → ∀ G' H', Ex G G' → Stt G' H' L → Q (.bl false) H' := fun hr => by
      rcases h with ⟨_, q⟩ | ⟨us, bs, os, e, hol, _⟩
      · exact q
      · exfalso
        injection e with e
        subst e
        rw [show refD w (.tuple (os.map oD)) = (!(decide (((os.map oD).length : Int) = w)) || !((os.map oD).all isVal)) from rfl, vals_os, List.length_map, decide_eq_true hol] at hr
        cases hr
    refine rd_decN (fun e => ?_) (fun e => ?_)
    · refine rd_next ?_
      show t_Bound_contains_1 K _ _ _
      unfold t_Bound_contains_1
      refine rd_seq (rd_ifs (rd_not (rd_B (rd_cb (rd_cons (rd_lc (rd_it (rd_var rfl ⟨k, rfl, ⟨_, ex_t S.ex hk⟩, ?_⟩))))))))
      refine lc_go stt_world (walk_tup (K := K) (a := k) (xs := xs)) S (by omega) (fun i v _ => xs[i]? = some v) (fun i acc _ => acc = ((ds.take i).map isVal).map V.bl) (fun H' e' => ex_t e' hk)
        (fun i x G1 H1 H2 L1 _ e1 S1 y => item_at S1 y) rfl (fun _ _ _ _ _ h => h) ?_ ?_
      · intro D1 i x acc G2 H2 hi _ e2 S2 I2 it Kp Sk kp sk
        obtain ⟨e1, he1, hd1⟩ := DpAll.get hA it
        refine rd_name ⟨rfl, rd_yes (rd_iT (rd_call (rd_cons (rd_var rfl (rd_nil ⟨_, e1, rfl, Dp.ex (e2.trans S2.ex) _ _ hd1, kp _ G2 H2 (Ex.refl _) S2 ?_⟩)))))⟩
        rw [I2, List.take_add_one, he1, List.map_append, List.map_append]
        rfl
      · intro D1 acc G2 H2 e2 S2 I2 _
        have ha : acc = (ds.map isVal).map V.bl := by rw [I2, List.take_of_length_le (by omega)]
        subst ha
        refine rd_nil (rd_all (sq_of (S2.at 0 rfl)) (rd_bl ?_))
        rw [List.all_map]
        show if (!(ds.all isVal)) = true then _ else _
        cases ev : ds.all isVal with
        | false =>
          refine rd_ret (rd_c (early ?_ G2 H2 e2 S2.drop))
          show (!(decide ((ds.length : Int) = w)) || !(ds.all isVal)) = true
          rw [ev, Bool.not_false, Bool.or_true]
        | true =>
          refine rd_next ?_
          rcases h with ⟨hr, _⟩ | ⟨us, bs, os, e3, hol, hu, hub, h100, hb, q⟩
          · exfalso
            have hr : (!(decide ((ds.length : Int) = w)) || !(ds.all isVal)) = true := hr
            rw [ev, decide_eq_true e] at hr
            cases hr
          · injection e3 with e3
            subst e3
            have S3 := S2.drop
            have xe := oDs_inv hA
            subst xe
            have hul := DpAll.length hub
            rw [List.length_map] at hul
            show t_Bound_contains_2 K _ _ _
            unfold t_Bound_contains_2
            refine rd_ret (rd_cb (rd_cons (rd_lc (rd_it (rd_fld (rd_var rfl (rd_Bb (S3.ex _ _ (e2 _ _ ob)) ⟨tb, rfl, ⟨_, ex_t (e2.trans S3.ex) hu⟩, ?_⟩)))))))
            refine lc_go stt_world (walk_tup (K := K) (a := tb) (xs := us)) S3 (by omega) (fun i v _ => us[i]? = some v) (fun i acc _ => acc = ((bs.take i).map fun b => inBx b os).map V.bl) (fun H' e' => ex_t (e2.trans e') hu)
              (fun i x G1 H1 H2 L1 _ e1 S1 y => item_at S1 y) rfl (fun _ _ _ _ _ h => h) ?_ ?_
            · intro D2 i u acc G4 H4 hi _ e4 S4 I4 it Kp Sk kp sk
              have e24 := e2.trans e4
              obtain ⟨d, hd, dp⟩ := DpAll.get hub it
              obtain ⟨b, hbi, rfl⟩ := get_map hd
              obtain ⟨a, zs, rfl, ha, hzs⟩ := box_inv (Dp.ex e24 _ _ dp)
              refine rd_name ⟨rfl, rd_yes (rd_iT (rd_zipB (i := 3) (j := 1) rfl rfl S4 ha hzs (ex_t e24 hk) (by have := hb b (List.mem_of_getElem? hbi); omega) (fun _ _ => rfl) (fun z s o H5 Kp2 hz q2 => ?_) fun G5 H5 e5 S5 => kp _ G5 H5 e5 S5 ?_))⟩
              · exact rd_call (rd_cons (rd_var rfl (rd_cons (rd_var rfl (rd_nil ⟨z, s, o, rfl, hz, q2⟩)))))
              · rw [I4, List.take_add_one, hbi, List.map_append, List.map_append]
                rfl
            · intro D2 acc G4 H4 e4 S4 I4 _
              have ha : acc = (bs.map fun b => inBx b os).map V.bl := by rw [I4, List.take_of_length_le (by omega)]
              subst ha
              refine rd_nil (rd_any (sq_of (S4.at 0 rfl)) ?_)
              rw [List.any_map]
              exact q G4 H4 (e2.trans e4) S4.drop
    · refine rd_ret (rd_c (early ?_ G H (Ex.refl G) S))
      show (!(decide ((ds.length : Int) = w)) || !(ds.all isVal)) = true
      rw [decide_eq_false e]; rfl
/-! ### the bound with all keys -/
/-- as many boxes of n stretches -/
def allSt (n : Nat) (d : PyData) : Prop := ∃ es, d = .tuple es ∧ es.length = n ∧ ∀ e, e ∈ es → isSt e = true
theorem allSt_box {n : Nat} {d : PyData} (h : allSt n d) : isBox (n : Int) d = true := by
  obtain ⟨es, rfl, hl, hs⟩ := h
  show (decide ((es.length : Int) = (n : Int)) && es.all isSt) = true
  rw [decide_eq_true (by omega), Bool.true_and]
  exact List.all_eq_true.mpr hs
theorem allSt_snoc {n : Nat} {es : List PyData} {e : PyData} (h : allSt n (.tuple es)) (he : isSt e = true) : allSt (n + 1) (.tuple (es ++ [e])) := by
  obtain ⟨fs, hf, hl, hs⟩ := h
  injection hf with hf
  subst hf
  refine ⟨_, rfl, by rw [List.length_append, hl]; rfl, fun x hx => ?_⟩; rcases List.mem_append.mp hx with h1 | h1
  · exact hs x h1
  · rw [List.mem_singleton.mp h1]; exact he
/-- t + (y,) -/
theorem rd_snocT {W : Hp → Hp → List (Addr × HO) → Prop} (hW : Wd W) (S : W G H L) {a : Addr} {xs : List V} {y : V} {te : TE} {tf : TE} {σ : L2.St} (hte : ∀ R : VK, R (.ref a) H → te σ H R) (hx : SqT K G a xs) (hy : ∀ (H1 : Hp) (R : VK), R y H1 → tf σ H1 R) (hl : xs.length ≤ 1000)
    (q : ∀ p G' H', Ex G G' → W G' H' L → SqT K G' p (xs ++ [y]) → Q (.ref p) H') : tOp (gAdd K) te (tTup (tCons tf tNil)) σ H Q := by
  refine rd_op (hte _ (rd_tup (rd_cons (hy _ _ (rd_nil ?_)))))
  refine mk_tup hW S (by show 1 ≤ _; decide) fun t G1 e1 S1 h1 => ?_
  refine .inr (.inr (.inr ⟨a, t, xs, [y], rfl, rfl, ex_t (e1.trans (hW.ex S1)) hx, st_of (hW.ex S1 _ _ h1), sz_of (by show xs.length + 1 ≤ _; omega), fun e => ?_, (fun _ e => by cases e), fun _ _ => ?_⟩))
  · subst e
    exact q t G1 _ e1 S1 (st_of h1)
  · exact mk_im (o := .tup (xs ++ [y])) hW S1 fun p G2 e2 S2 h2 => q p G2 _ (e1.trans e2) S2 (st_of h2)
/-- all boxes of n stretches without sides -/
def whB : Nat → List BX
  | 0 => [[]]
  | n + 1 => (whB n).flatMap fun b => [b ++ [none], b ++ [some (none, none)]]
theorem whB_len : ∀ n, (whB n).length = 2 ^ n
  | 0 => rfl
  | n + 1 => by
    show ((whB n).flatMap _).length = _
    have h : ∀ bs : List BX, (bs.flatMap fun b => [b ++ [none], b ++ [some (none, none)]]).length = 2 * bs.length := fun bs => by
      induction bs with
      | nil => rfl
      | cons b bs ih => rw [List.flatMap_cons, List.length_append, ih]; show 2 + 2 * bs.length = 2 * (bs.length + 1); omega
    rw [h, whB_len n, Nat.pow_succ, Nat.mul_comm]
theorem whB_mem : ∀ n b, b ∈ whB n → b.length = n ∧ ∀ s, s ∈ b → s = none ∨ s = some (none, none)
  | 0, b, h => by rw [List.mem_singleton.mp h]; exact ⟨rfl, fun s hs => by cases hs⟩
  | n + 1, b, h => by
    obtain ⟨a, ha, hb⟩ := List.mem_flatMap.mp (show b ∈ (whB n).flatMap _ from h)
    have ⟨h1, h2⟩ := whB_mem n a ha
    have key : ∀ t : SD, (t = none ∨ t = some (none, none)) → b = a ++ [t] → b.length = n + 1 ∧ ∀ s, s ∈ b → s = none ∨ s = some (none, none) := fun t ht e => by
      subst e
      refine ⟨by rw [List.length_append, h1]; rfl, fun s hs => ?_⟩
      rcases List.mem_append.mp hs with h | h
      · exact h2 s h
      · rw [List.mem_singleton.mp h]; exact ht
    exact (List.mem_cons.mp hb).elim (key none (.inl rfl)) fun e => key (some (none, none)) (.inr rfl) (List.mem_singleton.mp e)
theorem whB_isSt {n : Nat} {b : BX} (h : b ∈ whB n) : ∀ s, s ∈ b → isSt (sD s) = true := fun s hs => by
  rcases (whB_mem n b h).2 s hs with e | e <;> (subst e; rfl)
theorem inBx_snoc : ∀ (b : BX) (os : List (Option Int)) (s : SD) (o : Option Int), b.length = os.length → inBx (b ++ [s]) (os ++ [o]) = (inBx b os && inS s o)
  | [], [], s, o, _ => by show (inS s o && true) = (true && inS s o); rw [Bool.and_comm]
  | t :: b, u :: os, s, o, h => by
    show (inS t u && inBx (b ++ [s]) (os ++ [o])) = ((inS t u && inBx b os) && inS s o)
    rw [inBx_snoc b os s o (Nat.succ.inj h), Bool.and_assoc]
  | [], _ :: _, _, _, h => by cases h
  | _ :: _, [], _, _, h => by cases h
/-- every key is there -/
theorem whB_all (os : List (Option Int)) : inBd (whB os.length) os = true := by
  suffices h : ∀ n (os : List (Option Int)), os.length = n → inBd (whB n) os = true from h _ os rfl
  intro n
  induction n with
  | zero => intro os e; rw [List.length_eq_zero_iff.mp e]; rfl
  | succ n ih =>
    intro os e
    have ne : os ≠ [] := fun z => by rw [z] at e; cases e
    obtain ⟨i, o, rfl⟩ : ∃ i o, os = i ++ [o] := ⟨os.dropLast, os.getLast ne, (List.dropLast_concat_getLast ne).symm⟩
    have li : i.length = n := by rw [List.length_append] at e; exact Nat.succ.inj e
    obtain ⟨b, hb, hin⟩ := List.any_eq_true.mp (ih i li)
    have lb := (whB_mem n b hb).1
    refine List.any_eq_true.mpr ?_
    cases o with
    | none => exact ⟨b ++ [none], List.mem_flatMap.mpr ⟨b, hb, List.mem_cons_self ..⟩, by rw [inBx_snoc _ _ _ _ (lb.trans li.symm), hin]; rfl⟩
    | some v => exact ⟨b ++ [some (none, none)], List.mem_flatMap.mpr ⟨b, hb, List.mem_cons_of_mem _ (List.mem_cons_self ..)⟩, by rw [inBx_snoc _ _ _ _ (lb.trans li.symm), hin]; rfl⟩
def sp_Bound_whole (K : PySem.W.Frag) : Sp := fun vs H Q _ => ∃ (w : Nat) (G : Hp) (L : List (Addr × HO)), vs = [.int (w : Nat)] ∧ w ≤ 3 ∧ Stt G H L ∧
  ∀ x dx tb us G' H', Ex G G' → Stt G' H' L → G' x = some (.ins (cls_at K "Bound") dx (bndF (w : Nat) tb)) → SqT K G' tb us → DpAll K G' us ((whB w).map boxD) → Q (.ref x) H'
def t_Bound_whole_1b (K : PySem.W.Frag) : TS :=
  (tAsg (tLc2 (iList K (tVar 1)) (gName 3) tYes (iTup K (tTup (tCons (tC .non) (tCons (tTup (tCons (tC .non) (tCons (tC .non) tNil))) tNil)))) (gName 4) tYes (tOp (gAdd K) (tVar 3) (tTup (tCons (tVar 4) tNil))) [3, 4] [4]) (gName 1))
def t_Bound_whole_2 (K : PySem.W.Frag) : TS :=
  (tRet (StX.tMakeR (cls_at K "Bound") (sp_Bound_init K) E0 (tCons (tVar 0) (StX.tStar K (tVar 1) tNil))))
def t_Bound_whole_1 (K : PySem.W.Frag) : TS :=
  (tSeq (tFor (iRng1 (tCons (tVar 0) tNil)) (gName 2) (t_Bound_whole_1b K))
  (t_Bound_whole_2 K))
def t_Bound_whole (K : PySem.W.Frag) : TS :=
  (tSeq (tAsg (tLst (tCons (tTup tNil) tNil)) (gName 1))
  (t_Bound_whole_1 K))
theorem dp_snoc {vs : List V} {ds : List PyData} {v : V} {d : PyData} (h : DpAll K G vs ds) (hv : Dp K G v d) : DpAll K G (vs ++ [v]) (ds ++ [d]) := by
  induction ds generalizing vs with
  | nil => cases h; exact .cons hv .nil
  | cons e ds ih =>
    cases h with
    | cons h1 h2 => exact .cons h1 (ih h2)
theorem sat_Bound_whole {vs : List V} (h : sp_Bound_whole K vs H Q E) : vs.length = 1 ∧ t_Bound_whole K { nx := fun _ H' => Q .non H', rt := Q } (vs.map some ++ List.replicate (5 - vs.length) none) H := by
  obtain ⟨w, G, L, rfl, w3, S, q⟩ := h
  refine ⟨rfl, ?_⟩
  unfold t_Bound_whole
  refine rd_seq (rd_asg (rd_lst (rd_cons (rd_tup (rd_nil ?_)))))
  refine mk_tup stt_world S (Nat.zero_le _) fun t0 G0 e0 S0 h0 => rd_nil ?_
  refine mk_lst stt_world S0 (by show 1 ≤ _; decide) fun p0 G1 e1 S1 h1 => rd_name ?_
  show t_Bound_whole_1 K _ _ _
  unfold t_Bound_whole_1
  refine rd_seq ?_
  walk_at "gs"
  refine ⟨(w : Nat), rfl, by omega, by omega, ?_⟩
  refine for_go (walk_range (lo := 0) (n := ((w : Nat) : Int).toNat)) (G := G1)
    (fun i σ1 G2 H2 => ∃ p us ds x2 x3 x4, σ1 = [some (.int (w : Nat)), some (.ref p), x2, x3, x4] ∧ Ex G1 G2 ∧ Stt G2 H2 L ∧ SqL K G2 p us ∧ DpAll K G2 us ds ∧ ds = (whB i).map boxD)
    ⟨p0, [.ref t0], [.tuple []], _, _, _, rfl, Ex.refl _, S1, sq_of h1, .cons (.tup (ex_t e1 (st_of h0)) .nil) .nil, rfl⟩ (fun _ _ _ _ _ _ => True.intro) ?_ ?_
  · rintro i v σ1 G2 H2 H3 hi ⟨p, us, ds, x2, x3, x4, rfl, e2, S2, hp, hus, hds⟩ y N hN
    subst hds
    obtain ⟨rfl, rfl⟩ := y
    have hi3 : i < 3 := by omega
    have hul := DpAll.length hus
    have hpow : 2 ^ i ≤ 4 := by
      have : i = 0 ∨ i = 1 ∨ i = 2 := by omega
      rcases this with rfl | rfl | rfl <;> decide
    refine rd_name ?_
    show t_Bound_whole_1b K _ _ _
    unfold t_Bound_whole_1b
    refine rd_asg (rd_lc2 (rd_il (rd_var rfl ⟨p, rfl, ⟨_, ex_l S2.ex hp⟩, ?_⟩)))
    refine lc2_go stt_world (walk_list (K := K) (a := p) (xs := us)) S2 (fun j v _ => us[j]? = some v) (fun j acc G4 => DpAll K G4 acc ((((whB i).take j).flatMap fun b => [b ++ [none], b ++ [some (none, none)]]).map boxD)) (fun H' e' => ex_l e' hp)
      (fun i x G1 H1 H2 L1 _ e1 S1 y => item_at S1 y) .nil (fun j acc Ga Gb e h1 => DpAll.ex e _ _ h1) ?_ ?_
    · intro D1 j u acc G4 H4 hj e4 S4 hacc it Nx hNx
      obtain ⟨d, hd, dp⟩ := DpAll.get hus it
      obtain ⟨b, hb, rfl⟩ := get_map hd
      have hfl : (b.map sD).length = i := by rw [List.length_map]; exact (whB_mem i b (List.mem_of_getElem? hb)).1
      have hj8 : j < 8 := by rw [hul, List.length_map, whB_len] at hj; omega
      have hel : ((((whB i).take j).flatMap fun b => [b ++ [none], b ++ [some (none, none)]]).map boxD).length ≤ 16 := by
        have h : ∀ bs : List BX, (bs.flatMap fun b => [b ++ [none], b ++ [some (none, none)]]).length = 2 * bs.length := fun bs => by
          induction bs with
          | nil => rfl
          | cons b bs ih => rw [List.flatMap_cons, List.length_append, ih]; show 2 + 2 * bs.length = 2 * (bs.length + 1); omega
        rw [List.length_map, h, List.length_take]; omega
      have dp4 := Dp.ex e4 _ _ dp
      cases dp4 with
      | @tup a xs _ ha hxs =>
      have hxl := DpAll.length hxs
      have hal := DpAll.length hacc
      refine rd_name ⟨rfl, rd_yes (rd_iT (rd_it (rd_tup (rd_cons (rd_c (rd_cons (rd_tup (rd_cons (rd_c (rd_cons (rd_c (rd_nil ?_))))))))))))⟩
      refine mk_tup stt_world S4 (by show 2 ≤ _; decide) fun t1 G5 e5 S5 h5 => rd_nil ?_
      refine mk_tup stt_world S5 (by show 2 ≤ _; decide) fun t2 G6 e6 S6 h6 => ?_
      have e56 := e5.trans e6
      refine ⟨t2, rfl, ⟨_, st_of (S6.ex _ _ h6)⟩, ?_⟩
      refine in_go stt_world (walk_tup (K := K) (a := t2) (xs := [.non, .ref t1])) S6 (by show acc.length + 2 < 1000000; omega) (fun k v _ => ([.non, .ref t1] : List V)[k]? = some v)
        (fun k acc' G7 => DpAll K G7 acc' ((((whB i).take j).flatMap fun b => [b ++ [none], b ++ [some (none, none)]]).map boxD ++ (([b ++ [none], b ++ [some (none, none)]] : List BX).take k).map boxD)) (fun H' e' => ex_t e' (st_of h6))
        (fun i x G1 H1 H2 L1 _ e1 S1 y => item_at S1 y) (by rw [List.take_zero, List.map_nil, List.append_nil]; exact DpAll.ex e56 _ _ hacc) (fun j acc Ga Gb e h1 => DpAll.ex e _ _ h1) ?_ ?_
      · intro k z acc' G7 H7 hk e7 S7 hacc' it' Kp Sk kp sk
        have e67 := e56.trans e7
        have hz : ∃ t : SD, Dp K G7 z (sD t) ∧ ([b ++ [none], b ++ [some (none, none)]] : List BX)[k]? = some (b ++ [t]) := by
          match k, it' with
          | 0, it' => cases it'; exact ⟨none, .non, rfl⟩
          | 1, it' => cases it'; exact ⟨some (none, none), .tup (ex_t (e6.trans e7) (st_of h5)) (.cons .non (.cons .non .nil)), rfl⟩
          | k + 2, it' => cases it'
        obtain ⟨t, he, hk2⟩ := hz
        refine rd_name ⟨rfl, rd_yes (rd_iT (rd_snocT stt_world S7 (fun R r => rd_var rfl r) (ex_t e67 ha) (fun H1 R r => rd_var rfl r) (by omega) fun p2 G8 H8 e8 S8 h8 => kp _ G8 H8 e8 S8 ?_))⟩
        have dnew : Dp K G8 (.ref p2) (boxD (b ++ [t])) := by
          show Dp K G8 (.ref p2) (.tuple ((b ++ [t]).map sD))
          rw [List.map_append]
          exact .tup h8 (dp_snoc (DpAll.ex (e67.trans e8) _ _ hxs) (Dp.ex e8 _ _ he))
        rw [List.take_add_one, hk2, List.map_append, ← List.append_assoc]
        exact dp_snoc (DpAll.ex e8 _ _ hacc') dnew
      · intro acc' G7 H7 e7 S7 hacc'
        refine hNx acc' G7 H7 (e56.trans e7) S7 ?_
        rw [List.take_add_one, hb, List.flatMap_append, List.map_append]
        exact hacc'
    · intro D1 acc G4 H4 e4 S4 hacc
      have S5 := S4.frz
      have e5 := S4.frzE
      refine rd_name (hN _ _ H4 ⟨D1, acc, _, _, _, _, rfl, e2.trans (e4.trans e5), S5, sq_of upd_same, DpAll.ex e5 _ _ hacc, ?_⟩)
      rw [hul, List.length_map, List.take_length]
      rfl
  · rintro σ1 G2 H2 ⟨p, us, ds, x2, x3, x4, rfl, e2, S2, hp, hus, hds⟩
    have hw2 : ((w : Nat) : Int).toNat = w := rfl
    have hpow : 2 ^ w ≤ 8 := by
      have : w = 0 ∨ w = 1 ∨ w = 2 ∨ w = 3 := by omega
      rcases this with rfl | rfl | rfl | rfl <;> decide
    have hdl : ds.length ≤ 8 := by rw [hds, List.length_map, whB_len]; exact hpow
    have hmem : ∀ d, d ∈ ds → ∃ b, b ∈ whB w ∧ d = boxD b := fun d hd => by rw [hds] at hd; obtain ⟨b, hb, rfl⟩ := List.mem_map.mp hd; exact ⟨b, hb, rfl⟩
    show t_Bound_whole_2 K _ _ _
    unfold t_Bound_whole_2
    refine rd_ret ?_
    show (tCons _ _) _ _ _
    refine rd_cons (rd_var rfl ?_)
    refine rd_var rfl ⟨p, us, rfl, .inr (ex_l S2.ex hp), rd_nil ?_⟩
    rw [List.append_nil]
    intro x dx hx hdx ne
    have S6 := S2.new (o := .own x) hdx
    have e6 := S2.newE (o := .own x) hdx
    have S7 := S6.mkL (p := x) (o := .ins (cls_at K "Bound") dx []) (by rw [upd_ne (Ne.symm ne)]; exact hx)
    refine ⟨x, dx, (w : Nat), us, ds, [], _, _, rfl, S7, by rw [List.append_nil]; exact DpAll.ex e6 _ _ hus, by rw [List.append_nil]; omega, fun d hd => ?_, fun d hd => ?_, .inl ⟨rfl, fun tb G8 H8 e8 S8 h8 h9 => ⟨rfl, ?_⟩⟩⟩
    · rw [List.append_nil] at hd
      obtain ⟨b, hb, rfl⟩ := hmem d hd
      show (b.map sD).length < 1000
      rw [List.length_map, (whB_mem w b hb).1]
      omega
    · obtain ⟨b, hb, rfl⟩ := hmem d hd
      show (decide (((b.map sD).length : Int) = (w : Nat)) && (b.map sD).all isSt) = true
      rw [List.length_map, (whB_mem w b hb).1, decide_eq_true rfl, Bool.true_and]
      refine List.all_eq_true.mpr fun e he => ?_
      obtain ⟨t, ht, rfl⟩ := List.mem_map.mp he
      exact whB_isSt hb t ht
    · refine q x dx tb us G8 H8 (e0.trans (e1.trans (e2.trans (e6.trans e8)))) S8 h8 h9 ?_
      rw [hds] at hus
      exact DpAll.ex (e6.trans e8) _ _ hus
end

/-! The law's own drawing of a stretch. -/


def SOk (ns : List Int) : SD → Prop
  | none => True
  | some (a, b) => (∀ x, a = some x → x ∈ ns) ∧ (∀ y, b = some y → y ∈ ns) ∧ (∀ x y, a = some x → b = some y → x ≤ y)
theorem isSt_ok : ∀ (s : SD), (∀ a b x y, s = some (a, b) → a = some x → b = some y → x ≤ y) → isSt (sD s) = true
  | none, _ => rfl
  | some (a, b), h => by
    show (isVal (oD a) && isVal (oD b) && leV (oD a) (oD b)) = true
    rcases a with _ | a <;> rcases b with _ | b
    · rfl
    · rfl
    · rfl
    · show (true && true && decide (a ≤ b)) = true
      rw [decide_eq_true (h _ _ _ _ rfl rfl rfl)]; rfl
theorem isSt_sok {ns : List Int} {s : SD} (h : SOk ns s) : isSt (sD s) = true := isSt_ok s fun a b x y e ea eb => by
  subst e
  exact h.2.2 x y ea eb
def sp_in (K : PySem.W.Frag) : Sp := fun vs H Q _ => ∃ (x : V) (s : SD) (o : Option Int), vs = [x, oV o] ∧ StV K H x s ∧ Q (.bl (inS s o)) H
def t_in_1 (K : PySem.W.Frag) : TS :=
  (tRet (tAndV (tOrV (tOp rIsN (tOp (rIx K) (tVar 0) (tC (.int 0))) (tC .non)) (tOp (rI0 fun i j => .bl (decide (i ≤ j))) (tOp (rIx K) (tVar 0) (tC (.int 0))) (tVar 1))) (tOrV (tOp rIsN (tOp (rIx K) (tVar 0) (tC (.int 1))) (tC .non)) (tOp (rI0 fun i j => .bl (decide (i ≤ j))) (tVar 1) (tOp (rIx K) (tVar 0) (tC (.int 1)))))))
def t_in (K : PySem.W.Frag) : TS :=
  (tSeq (tIfS (tOr (tTest (tOp rIsN (tVar 0) (tC .non))) (tTest (tOp rIsN (tVar 1) (tC .non)))) (tRet (tAndV (tOp rIsN (tVar 0) (tC .non)) (tOp rIsN (tVar 1) (tC .non)))) tNext)
  (t_in_1 K))
theorem read_in {K : PySem.W.Frag} {x : V} {s : SD} {o : Option Int} {H : Hp} {D : Ends} (hx : StV K H x s) (q : D.rt (.bl (inS s o)) H) : t_in K D [some x, some (oV o)] H := by
  unfold t_in
  cases s with
  | none =>
    cases hx
    cases o <;> (dsimp only [oV]; walk_at "gc"; exact q)
  | some ab =>
    obtain ⟨a, b⟩ := ab
    obtain ⟨p, rfl, hp⟩ := hx
    cases o with
    | none =>
      dsimp only [oV]
      walk_at "gc"
      exact q
    | some v =>
      dsimp only [oV]
      walk_at "gc"
      try dsimp only
      unfold t_in_1
      rcases a with _ | a <;> rcases b with _ | b <;> dsimp only [oV] at hp ⊢
      · walk_at "gc"
        exact q
      · walk_at "gc"
        exact q
      · walk_at "gc"
        by_cases h : a ≤ v
        · rw [decide_eq_true h]
          walk_at "gc"
          rw [show inS (some (some a, none)) (some v) = (decide (a ≤ v) && true) from rfl, decide_eq_true h] at q
          exact q
        · rw [decide_eq_false h]
          walk_at "gc"
          rw [show inS (some (some a, none)) (some v) = (decide (a ≤ v) && true) from rfl, decide_eq_false h] at q
          exact q
      · walk_at "gc"
        by_cases h : a ≤ v
        · rw [decide_eq_true h]
          walk_at "gc"
          rw [show inS (some (some a, some b)) (some v) = (decide (a ≤ v) && decide (v ≤ b)) from rfl, decide_eq_true h] at q
          exact q
        · rw [decide_eq_false h]
          walk_at "gc"
          rw [show inS (some (some a, some b)) (some v) = (decide (a ≤ v) && decide (v ≤ b)) from rfl, decide_eq_false h] at q
          exact q
theorem sat_in {K : PySem.W.Frag} {vs : List V} {H : Hp} {Q : VK} {E : XK} (h : sp_in K vs H Q E) : vs.length = 2 ∧ t_in K { nx := fun _ H' => Q .non H', rt := Q } (vs.map some ++ List.replicate (2 - vs.length) none) H := by
  obtain ⟨x, s, o, rfl, hx, q⟩ := h
  exact ⟨rfl, read_in hx q⟩
/-! the law's own drawing of a stretch -/
def sp_stretch (K : PySem.W.Frag) : Sp := fun vs H Q _ => ∃ (b a : Addr) (ns : List Int) (G : Hp) (L : List (Addr × HO)), vs = [.ref b, .ref a] ∧ Bag K G H b L ∧ SqL K G a (ns.map V.int) ∧ 0 < ns.length ∧ ns.length < 1000000 ∧
  (∀ v s G' H', Ex G G' → Bag K G' H' b L → StV K G' v s → SOk ns s → Q v H')
def t_stretch_2 (K : PySem.W.Frag) : TS :=
  (tRet (tIf (tOr (tTest (tOp rIsN (tVar 2) (tC .non))) (tTest (tOp rIsN (tVar 3) (tC .non)))) (tTup (tCons (tVar 2) (tCons (tVar 3) tNil))) (tTup (tCons (tCB rMin2 (tCons (tVar 2) (tCons (tVar 3) tNil))) (tCons (tCB Evl.rMax2 (tCons (tVar 2) (tCons (tVar 3) tNil))) tNil)))))
def t_stretch_1 (K : PySem.W.Frag) : TS :=
  (tSeq (tPar 2 3 (tCons (tCall (sp_of K) [] E0 (tCons (tVar 0) (tCons (tLst (tCons (tC .non) (tCons (tCall (sp_of K) [] E0 (tCons (tVar 0) (tCons (tVar 1) tNil))) tNil))) tNil))) (tCons (tCall (sp_of K) [] E0 (tCons (tVar 0) (tCons (tLst (tCons (tC .non) (tCons (tCall (sp_of K) [] E0 (tCons (tVar 0) (tCons (tVar 1) tNil))) tNil))) tNil))) tNil)))
  (t_stretch_2 K))
def t_stretch (K : PySem.W.Frag) : TS :=
  (tSeq (tIfS (tTest (tOp (gEq K) (tCall (sp_draw K) [] E0 (tCons (tVar 0) (tCons (tC (.int 4)) tNil))) (tC (.int 0)))) (tRet (tC .non)) tNext)
  (t_stretch_1 K))
theorem read_side {K : PySem.W.Frag} {b a : Addr} {ns : List Int} {G H : Hp} {L : List (Addr × HO)} {Q : VK} {σ : L2.St} (hσ0 : σ[0]? = some (some (.ref b))) (hσ1 : σ[1]? = some (some (.ref a))) (B : Bag K G H b L) (ha : SqL K G a (ns.map V.int)) (h0 : 0 < ns.length) (h1 : ns.length < 1000000)
    (q : ∀ o G' H', Ex G G' → Bag K G' H' b L → (∀ x, o = some x → x ∈ ns) → Q (oV o) H') :
    tCall (sp_of K) [] E0 (tCons (tVar 0) (tCons (tLst (tCons (tC .non) (tCons (tCall (sp_of K) [] E0 (tCons (tVar 0) (tCons (tVar 1) tNil))) tNil))) tNil)) σ H Q := by
  refine rd_call (rd_cons (rd_var hσ0 (rd_cons (rd_lst (rd_cons (rd_c (rd_cons (rd_call (rd_cons (rd_var hσ0 (rd_cons (rd_var hσ1 (rd_nil ?_)))))))))))))
  refine ⟨b, a, _, G, L, rfl, B, fun H' B' => .inl (ex_l B'.ex ha), by rw [List.length_map]; exact h0, by rw [List.length_map]; exact h1, fun x H1 hx B1 => ?_⟩
  obtain ⟨n, hn, rfl⟩ := List.mem_map.mp hx
  refine rd_nil (mk_lst (bag_world K b) B1 (by show 2 ≤ _; decide) fun z G2 e2 B2 hz => rd_nil ?_)
  refine ⟨b, z, [.non, .int n], G2, L, rfl, B2, fun H' B' => .inl (ex_l B'.ex (sq_of hz)), by show 0 < 2; decide, by show 2 < _; decide, fun x H3 hx B3 => ?_⟩
  rcases in_two hx with rfl | hx
  · exact q none G2 H3 e2 B3 (fun _ h => nomatch h)
  · rw [List.mem_singleton.mp hx]
    exact q (some n) G2 H3 e2 B3 (fun x e => by cases e; exact hn)
theorem read_stretch {K : PySem.W.Frag} {b a : Addr} {ns : List Int} {G H : Hp} {L : List (Addr × HO)} {D : Ends} {a2 a3 : Option V} (B : Bag K G H b L) (ha : SqL K G a (ns.map V.int)) (h0 : 0 < ns.length) (h1 : ns.length < 1000000)
    (q : ∀ v s G' H', Ex G G' → Bag K G' H' b L → StV K G' v s → SOk ns s → D.rt v H') : t_stretch K D [some (.ref b), some (.ref a), a2, a3] H := by
  unfold t_stretch
  walk_at "gc"
  refine ⟨b, 4, G, L, rfl, by decide, by decide, B, fun d H1 d0 d1 B1 => ?_⟩
  walk_at "gc"
  refine rd_dec (fun e => ?_) (fun e => ?_)
  · walk_at "gc"
    exact q .non none G H1 (Ex.refl G) B1 rfl True.intro
  · walk_at "gc"
    unfold t_stretch_1
    refine rd_seq (rd_par (rd_cons ?_))
    refine read_side rfl rfl B1 ha h0 h1 fun o1 G2 H2 e2 B2 ho1 => rd_cons ?_
    refine read_side rfl rfl B2 (ex_l e2 ha) h0 h1 fun o2 G3 H3 e3 B3 ho2 => rd_nil (rd_two ?_)
    have eG := e2.trans e3
    change t_stretch_2 K D [some (.ref b), some (.ref a), some (oV o1), some (oV o2)] H3
    unfold t_stretch_2
    have fin : (o1 = none ∨ o2 = none) → [oV o1, oV o2].length ≤ sizeLine ∧ ∀ p, H3 p = none → D.rt (.ref p) (upd H3 p (.tup [oV o1, oV o2])) := by
      intro ho
      refine mk_tup (bag_world K b) B3 (by show 2 ≤ _; decide) fun z G4 e4 B4 hz => ?_
      exact q _ (some (o1, o2)) G4 _ (eG.trans e4) B4 ⟨z, rfl, st_of hz⟩ ⟨ho1, ho2, fun x y e1 e2 => by
        rcases ho with h | h
        · rw [h] at e1; cases e1
        · rw [h] at e2; cases e2⟩
    rcases o1 with _ | x
    · dsimp only [oV] at fin ⊢
      walk_at "gc"
      exact fin (.inl rfl)
    · rcases o2 with _ | y
      · dsimp only [oV] at fin ⊢
        walk_at "gc"
        exact fin (.inr rfl)
      · dsimp only [oV]
        walk_at "gc"
        refine ⟨x, y, rfl, ?_⟩
        walk_at "gc"
        refine ⟨x, y, rfl, ?_⟩
        walk_at "gc"
        refine mk_tup (bag_world K b) B3 (by show 2 ≤ _; decide) fun z G4 e4 B4 hz => ?_
        refine q _ (some (some (if y < x then y else x), some (if y > x then y else x))) G4 _ (eG.trans e4) B4 ⟨z, rfl, st_of hz⟩ ⟨fun u e => ?_, fun u e => ?_, fun u w e1 e2 => ?_⟩
        · injection e with e
          rw [← e]
          split
          · exact ho2 _ rfl
          · exact ho1 _ rfl
        · injection e with e
          rw [← e]
          split
          · exact ho2 _ rfl
          · exact ho1 _ rfl
        · injection e1 with e1
          injection e2 with e2
          rw [← e1, ← e2]
          split <;> split <;> omega
theorem sat_stretch {K : PySem.W.Frag} {vs : List V} {H : Hp} {Q : VK} {E : XK} (h : sp_stretch K vs H Q E) : vs.length = 2 ∧ t_stretch K { nx := fun _ H' => Q .non H', rt := Q } (vs.map some ++ List.replicate (4 - vs.length) none) H := by
  obtain ⟨b, a, ns, G, L, rfl, B, ha, h0, h1, q⟩ := h
  exact ⟨rfl, read_stretch B ha h0 h1 q⟩
def unV : V → Option Int
  | .int i => some i
  | _ => none
theorem unV_oV (o : Option Int) : unV (oV o) = o := by cases o <;> rfl
theorem map_bl (os : List (Option Int)) (f : Option Int → Bool) : ((os.map oV).map fun x => V.bl (f (unV x))) = (os.map f).map V.bl := by
  simp only [List.map_map]
  exact List.map_congr_left fun o _ => by show V.bl (f (unV (oV o))) = V.bl (f o); rw [unV_oV]

/-! sorted(set(xs)) of a list or a tuple of ints. -/
section
variable {s : Shared} {w : World} {P : Program} {A : Around} {E : Value → Shared → Prop}
theorem in2 {α : Type} {a b c : α} (h : a ∈ [b, c]) : a = b ∨ a = c := by simpa using h
/-- a set with nothing in it -/
abbrev bare (w : World) : Obj := { cls := .type "set", dict := none, data := .set #[] 0 (.fresh 0 0 (!w.params.followText "set-order")) }
/-- the heap and the tokens alone changed, all that stood stays -/
def Grown (s s2 : Shared) (R : Heap → Prop) : Prop := ∃ h2 t2, s2 = { s with heap := h2, toks := t2 } ∧ R h2 ∧ ∀ b o, s.heap.get? b = some o → h2.get? b = some o
theorem fill_list {l : Addr} {vs : Array Value} (ns : List Int) (calm : A.handled = none) (hl : s.heap.IsList l vs) (isI : IntsAre vs.toList ns) (few : ns.length + 1 < scanBound) :
    codeAny (model P w) A (.call (.builtin "set.__init__") ⟨[.ref s.heap.objs.size, .ref l], []⟩)
      (wants (fun r s2 => r = .none ∧ Grown s s2 fun h2 => ∃ c, c ≤ ns.length ∧ SetR w h2 s.heap.objs.size (fun j => decide (j ∈ ns)) c) E) { s with heap := s.heap.push (bare w) } := by
  have size : vs.size = ns.length := (Array.length_toList ..).symm.trans (IntsAre.length isI)
  have stands : (s.heap.push (bare w)).get? s.heap.objs.size = some (bare w) := Heap.get?_push_size _ rfl
  have typed : Shared.TypeIs { s with heap := s.heap.push (bare w) } (.ref s.heap.objs.size) "set" := ⟨_, stands, rfl⟩
  apply codeAny_call_builtin F.called_set.init.plain F.entry_set_init (check_set_init_1 typed ?_)
  have low : l < s.heap.objs.size := have ⟨_, e, _⟩ := hl; Heap.lt_size e
  have hl1 := hl.push (bare w)
  have ⟨ob, e0, e1, n0, e2⟩ := hl1
  obtain ⟨k1, k2, k3, k4⟩ := ob
  simp only at e1 e2
  subst e1 e2
  have t1 := F.sub_list_set
  have t2 := F.sub_list_frozenset
  have t3 : (Value.type "list" == Value.type "dict") = false := rfl
  unfold Builtin.«set.__init__»
  unfold noKeywords
  unfold Builtin.Frozenset.updateFrom
  generalize gen : pyIter = PI
  wp_walk
  subst gen
  apply wpAny_pyIter_list hl1
  apply wpAny_bind
  apply wpAny_runValue
  have new : (s.heap.push (bare w)).objs.size = s.heap.objs.size + 1 := Heap.size_push ..
  have ne : l ≠ (s.heap.push (bare w)).objs.size := by rw [new]; exact Nat.ne_of_lt (Nat.lt_succ_of_lt low)
  have apart : s.heap.objs.size ∉ [(s.heap.push (bare w)).objs.size, l] := fun z => by
    rw [new] at z
    rcases in2 z with z | z
    · exact absurd z (Nat.ne_of_lt (Nat.lt_succ_self _))
    · exact absurd z (Nat.ne_of_gt low)
  have each : ∀ (i : Nat) (v : Value), vs[i]? = some v → ∃ k t, ns[i]? = some k ∧ v = .int k t := fun i v hv => by
    have hi : i < ns.length := by rw [← size]; exact (Array.getElem?_eq_some_iff.mp hv).1
    have ⟨t, e⟩ := IntsAre.int_at isI i v (by rw [Array.getElem?_toList]; exact hv)
    exact ⟨ns[i], t, List.getElem?_eq_getElem hi, by rw [e]; simp [hi]⟩
  apply set_update_ints (Walks.list (by simp [calm]) _ l ne vs).toS s.heap.objs.size apart ns size few each (vs.size - 0) 0 _ (by omega) (Nat.zero_le _) ⟨⟨_, Heap.get?_push_size _ rfl, rfl, rfl⟩, hl1.push _⟩
  · exact ⟨0, Nat.le_refl 0, setR_new_at (Heap.get?_push_of_some _ stands)⟩
  · intro s3 c hm hc hR
    obtain ⟨h3, g3, d3, t3, o3⟩ := s3
    cases (hm.gens : g3 = s.gens)
    cases (hm.drawn : d3 = s.drawn)
    cases (hm.os : o3 = s.os)
    apply wpAny_pure
    apply wpAny_pure
    refine ⟨rfl, h3, t3, rfl, ⟨c, by omega, hR⟩, fun b o e => hm.heap b o ?_ (Heap.get?_push_of_some _ (Heap.get?_push_of_some _ e))⟩
    have hlt := Heap.lt_size e
    intro z
    rw [new] at z
    rcases in2 z with z | z
    · exact absurd z (Nat.ne_of_lt hlt)
    · exact absurd z (Nat.ne_of_lt (Nat.lt_succ_of_lt hlt))
/-- set(xs), xs a list of ints -/
theorem set_of_list {l : Addr} {vs : Array Value} (ns : List Int) {Q : Value → Shared → Prop} (calm : A.handled = none) (hl : s.heap.IsList l vs) (isI : IntsAre vs.toList ns) (few : ns.length + 1 < scanBound)
    (h : ∀ (h2 : Heap) (t2 c : Nat), SetR w h2 s.heap.objs.size (fun j => decide (j ∈ ns)) c → c ≤ ns.length → (∀ b o, s.heap.get? b = some o → h2.get? b = some o) → Q (.ref s.heap.objs.size) { s with heap := h2, toks := t2 }) : wpAny (model P w) A (call (.type "set") [.ref l]) Q E s := by
  have ⟨_, _, line⟩ := F.called_set.mro
  have b1 := F.called_set.made
  have b2 := F.called_set.sub
  have b3 := F.called_set.notType
  have b4 := F.called_set.canCreate
  have b5 := F.typeCall_set_1 (.ref l)
  apply wpAny_call
  apply codeAny_of_tree
  change wpAny _ _ (callAny (.type "set") _) _ _ _
  apply wpAny_pure
  refine ⟨Code.quiet_builtin _ (by decide +kernel), ?_⟩
  apply codeAny_builtin F.entry_type_call
  rewrite [Around.under_plain (weight_type_call_type "set" [.ref l] []) rfl]
  repeat any_goals first | assumption | wp_step
  apply codeAny_mono (code_set_led1 (.ref l) (E := E) (Q₁ := fun ob s2 => ob = .ref s.heap.objs.size ∧ s2 = { s with heap := s.heap.push (bare w) }) ⟨rfl, rfl⟩)
  intro r s2 hr
  match r, hr with
  | .error _, hr => exact hr
  | .ok (.ret ob), hr =>
    obtain ⟨e1, e2⟩ := hr
    subst e1 e2
    have stands : (s.heap.push (bare w)).get? s.heap.objs.size = some (bare w) := Heap.get?_push_size _ rfl
    have typed : Shared.TypeIs { s with heap := s.heap.push (bare w) } (.ref s.heap.objs.size) "set" := ⟨_, stands, rfl⟩
    have c1 := F.called_set.init.lookup
    have c2 := F.called_set.init.bind (.ref s.heap.objs.size)
    repeat any_goals first | assumption | wp_step
    apply codeAny_mono (fill_list ns (E := E) (by simp [calm]) hl isI few)
    intro r2 s3 hr2
    match r2, hr2 with
    | .error _, hr2 => exact hr2
    | .ok (.ret ob2), hr2 =>
      obtain ⟨e3, h2, t2, e4, ⟨c, hc, hR⟩, hk⟩ := hr2
      subst e3 e4
      repeat any_goals first | assumption | wp_step
      exact h h2 t2 c hR hc hk
end
section
variable {X : Cx}
/-- set(xs) -/
def rSetI (K : PySem.W.Frag) (w : World) : List V → Hp → VK → Prop := fun xs H Q => ∃ (a : Addr) (ns : List Int), xs = [.ref a] ∧ (SqL K H a (ns.map V.int) ∨ SqT K H a (ns.map V.int)) ∧ ns.length < 64 ∧
  ∀ p c, c ≤ ns.length → H p = none → Q (.ref p) (upd H p (SetO w p (fun j => decide (j ∈ ns)) c))
theorem few64 {n : Nat} (h : n < 64) : n + 1 < scanBound := by unfold scanBound; omega
theorem cg_set (hc : X.calm = true) : CallR X (.type "set") (rSetI X.K X.w) := by
  rintro pins s σ H xs us Q hI hr ⟨a, ns, rfl, hs, hn, q⟩
  rw [Vals.ref1 hr]
  have fin : ∀ (h2 : Heap) (t2 c : Nat), SetR X.w h2 s.heap.objs.size (fun j => decide (j ∈ ns)) c → c ≤ ns.length → (∀ b o, s.heap.get? b = some o → h2.get? b = some o) →
      EP X pins σ Q (.ref s.heap.objs.size) { s with heap := h2, toks := t2 } := fun h2 t2 c hR hle hk =>
    ⟨.ref _, _, hI.laid hk (Nat.le_refl _) (setO_new hR), rfl, q _ c hle (hI.hok.fresh (Nat.le_refl _))⟩
  rcases hs with hs | hs
  · have ⟨its, rv, hl, _⟩ := hI.list hs
    exact set_of_list ns (hI.ok.hd hc) hl.isList (ints_of_vals rv) (few64 hn) fin
  · have ⟨its, rv, ht, _⟩ := hI.tuple hs
    exact call_set_tupI ns (hI.ok.hd hc) (show s.heap.IsTuple a its.toArray from ht) (ints_of_vals rv) (few64 hn) fin
/-- what is read of sorted(set(xs)) -/
def SrtG (K : PySem.W.Frag) (x : V) (H : Hp) (Q : VK) : Prop := ∃ (a : Addr) (ns : List Int), x = .ref a ∧ (SqL K H a (ns.map V.int) ∨ SqT K H a (ns.map V.int)) ∧ ns.length < 64 ∧
  ∀ (ms : List Int) (o : HO) (p r : Addr), ms.Pairwise (· < ·) → (∀ k, k ∈ ms ↔ k ∈ ns) → ms.length ≤ ns.length → H p = none → upd H p o r = none → Q (.ref r) (upd (upd H p o) r (.lst (ms.map V.int)))
def tSrt (K : PySem.W.Frag) (te : TE) : TE := fun σ H Q => te σ H fun x H1 => SrtG K x H1 Q
theorem rd_srt {K : PySem.W.Frag} {te : TE} {σ : L2.St} {H : Hp} {Q : VK} (q : te σ H fun x H1 => SrtG K x H1 Q) : tSrt K te σ H Q := q
theorem pe_srt {e : Expr} {te : TE} {p1 p2 q1 q2 : Pos} (hc : X.calm = true) (g1 : Gl X "sorted") (m1 : X.mg "sorted" = none) (g2 : Gl X "set") (m2 : X.mg "set" = none) (he : PE X e te)
    (hs : starEach [e] X.env = (false, eval e X.env) :: starEach [] X.env := by rfl) :
    PE X (.Call (.Name "sorted" p1) [.Call (.Name "set" p2) [e] [] q2] [] q1) (tSrt X.K te) := by
  have pset := pe_callTy (p := p2) (pos := q2) (cg_set hc) g2 m2 (by decide +kernel) (pa_cons (pe_up he) pa_nil hs) (by decide) (by decide) hs
  have psrt := pe_callB (p := p1) (pos := q1) (cr_sortedSet hc) g1 m1 (by decide +kernel) (pa_cons pset pa_nil)
  refine pe_weak psrt fun σ H Q h => ⟨_, h, ?_⟩
  rintro x H1 ⟨a, ns, rfl, hm, hn, q⟩
  refine ⟨a, ns, rfl, hm, hn, fun p c hle hp => ?_⟩
  refine ⟨p, _, c, rfl, upd_same, by omega, fun ms r up hmem hlen hr => ?_⟩
  exact q ms _ p r up (fun k => (hmem k).trans decide_eq_true_iff) (by omega) hp hr
end



def cmLo (a b : Option Int) : Option Int := foldMax ([a, b].filterMap id)
def cmHi (a b : Option Int) : Option Int := foldMin ([a, b].filterMap id)
def cm : SD → SD → Option SD
  | none, none => some none
  | none, some _ => none
  | some _, none => none
  | some (a, b), some (c, d) => match cmLo a c, cmHi b d with
    | some x, some y => if y < x then none else some (some (some x, some y))
    | x, y => some (some (x, y))
theorem fm_map (a b : Option Int) : (([oV a, oV b].filter fun x => !decide (x = V.non)).map fun x => x) = ([a, b].filterMap id).map V.int := by
  rcases a with _ | a <;> rcases b with _ | b <;> rfl
theorem elim_oV (o : Option Int) : o.elim V.non V.int = oV o := by cases o <;> rfl
/-- the list that common tells -/
def CmV (K : PySem.W.Frag) (G : Hp) (vs : List V) : Option SD → Prop
  | none => vs = []
  | some s => ∃ v, vs = [v] ∧ StV K G v s
def sp_common (K : PySem.W.Frag) : Sp := fun vs H Q _ => ∃ (x y : V) (s t : SD) (G : Hp) (L : List (Addr × HO)), vs = [x, y] ∧ Stt G H L ∧ StV K G x s ∧ StV K G y t ∧
  (∀ p us G' H', Ex G G' → Stt G' H' ((p, .lst us) :: L) → CmV K G' us (cm s t) → Q (.ref p) H')
def t_common_5 (K : PySem.W.Frag) : TS :=
  (tRet (tLst (tCons (tTup (tCons (tVar 4) (tCons (tVar 5) tNil))) tNil)))
def t_common_4 (K : PySem.W.Frag) : TS :=
  (tSeq (tIfS (tAnd (tTest (tOp rNotN (tVar 4) (tC .non))) (tAnd (tTest (tOp rNotN (tVar 5) (tC .non))) (tTest (tOp (rI0 fun i j => .bl (decide (j < i))) (tVar 4) (tVar 5))))) (tRet (tLst tNil)) tNext)
  (t_common_5 K))
def t_common_3 (K : PySem.W.Frag) : TS :=
  (tSeq (tPar 4 5 (tCons (tBK (rMaxD K) (tCons (tVar 2) tNil) (tCons (tC .non) tNil)) (tCons (tBK (rMinD K) (tCons (tVar 3) tNil) (tCons (tC .non) tNil)) tNil)))
  (t_common_4 K))
def t_common_2 (K : PySem.W.Frag) : TS :=
  (tSeq (tAsg (tLc (iTup K (tTup (tCons (tOp (rIx K) (tVar 0) (tC (.int 1))) (tCons (tOp (rIx K) (tVar 1) (tC (.int 1))) tNil)))) (gName 5) (tTest (tOp rNotN (tVar 5) (tC .non))) (tVar 5) [5]) (gName 3))
  (t_common_3 K))
def t_common_1 (K : PySem.W.Frag) : TS :=
  (tSeq (tAsg (tLc (iTup K (tTup (tCons (tOp (rIx K) (tVar 0) (tC (.int 0))) (tCons (tOp (rIx K) (tVar 1) (tC (.int 0))) tNil)))) (gName 4) (tTest (tOp rNotN (tVar 4) (tC .non))) (tVar 4) [4]) (gName 2))
  (t_common_2 K))
def t_common (K : PySem.W.Frag) : TS :=
  (tSeq (tIfS (tOr (tTest (tOp rIsN (tVar 0) (tC .non))) (tTest (tOp rIsN (tVar 1) (tC .non)))) (tRet (tIf (tAnd (tTest (tOp rIsN (tVar 0) (tC .non))) (tTest (tOp rIsN (tVar 1) (tC .non)))) (tLst (tCons (tC .non) tNil)) (tLst tNil))) tNext)
  (t_common_1 K))
theorem read_common_3 {K : PySem.W.Frag} {x y : V} {a b c d : Option Int} {l h : Addr} {G H : Hp} {L : List (Addr × HO)} {D : Ends} {a4 a5 : Option V} (S : Stt G H L) (hl : SqL K G l (([a, c].filterMap id).map V.int)) (hh : SqL K G h (([b, d].filterMap id).map V.int))
    (q : ∀ p us G' H', Ex G G' → Stt G' H' ((p, .lst us) :: L) → CmV K G' us (cm (some (a, b)) (some (c, d))) → D.rt (.ref p) H') : t_common_3 K D [some x, some y, some (.ref l), some (.ref h), a4, a5] H := by
  unfold t_common_3
  walk_at "gc"
  refine rd_bk ?_
  walk_at "gc"
  refine rd_bk1 ⟨l, _, rfl, ex_l S.ex hl, ?_⟩
  rw [elim_oV]
  walk_at "gc"
  refine rd_bk ?_
  walk_at "gc"
  refine rd_bk1 ⟨h, _, rfl, ex_l S.ex hh, ?_⟩
  rw [elim_oV]
  walk_at "gc"
  have e : cm (some (a, b)) (some (c, d)) = match cmLo a c, cmHi b d with
    | some x, some y => if y < x then none else some (some (some x, some y))
    | x, y => some (some (x, y)) := rfl
  rw [e] at q
  change t_common_4 K D [some x, some y, some (.ref l), some (.ref h), some (oV (cmLo a c)), some (oV (cmHi b d))] H
  generalize cmLo a c = lo at q ⊢
  generalize cmHi b d = hi at q ⊢
  have fin : ∀ (D' : Ends), (∀ v H', D.rt v H' → D'.rt v H') → (∀ p us G' H', Ex G G' → Stt G' H' ((p, .lst us) :: L) → CmV K G' us (some (some (lo, hi))) → D'.rt (.ref p) H') → t_common_5 K D' [some x, some y, some (.ref l), some (.ref h), some (oV lo), some (oV hi)] H := by
    intro D' hD q
    unfold t_common_5
    walk_at "gc"
    refine mk_tup stt_world S (by show 2 ≤ _; decide) fun z G1 e1 S1 hz => ?_
    walk_at "gc"
    refine mk_lstM stt_world S1 (by show 1 ≤ _; decide) fun p S2 => ?_
    exact q p _ G1 _ e1 S2 ⟨.ref z, rfl, z, rfl, st_of hz⟩
  unfold t_common_4
  rcases lo with _ | lo
  · dsimp only [oV]
    walk_at "gc"
    exact fin D (fun _ _ h => h) q
  · rcases hi with _ | hi
    · dsimp only [oV]
      walk_at "gc"
      exact fin D (fun _ _ h => h) q
    · dsimp only [oV] at q ⊢
      walk_at "gc"
      refine rd_dec (fun e => ?_) (fun e => ?_)
      · walk_at "gc"
        refine mk_lstM stt_world S (by show 0 ≤ _; decide) fun p S2 => ?_
        refine q p _ G _ (Ex.refl G) S2 ?_
        rw [if_pos e]
        rfl
      · walk_at "gc"
        rw [if_neg e] at q
        exact fin D (fun _ _ h => h) q
theorem read_common {K : PySem.W.Frag} {x y : V} {s t : SD} {G H : Hp} {L : List (Addr × HO)} {D : Ends} {a2 a3 a4 a5 : Option V} (S : Stt G H L) (hx : StV K G x s) (hy : StV K G y t)
    (q : ∀ p us G' H', Ex G G' → Stt G' H' ((p, .lst us) :: L) → CmV K G' us (cm s t) → D.rt (.ref p) H') : t_common K D [some x, some y, a2, a3, a4, a5] H := by
  unfold t_common
  rcases s with _ | ⟨a, b⟩
  · cases hx
    rcases t with _ | ⟨c, d⟩
    · cases hy
      walk_at "gc"
      refine mk_lstM stt_world S (by show 1 ≤ _; decide) fun p S2 => ?_
      exact q p _ G _ (Ex.refl G) S2 ⟨_, rfl, rfl⟩
    · obtain ⟨r, rfl, hr⟩ := hy
      walk_at "gc"
      refine mk_lstM stt_world S (by show 0 ≤ _; decide) fun p S2 => ?_
      exact q p _ G _ (Ex.refl G) S2 rfl
  · obtain ⟨m, rfl, hm⟩ := hx
    rcases t with _ | ⟨c, d⟩
    · cases hy
      walk_at "gc"
      refine mk_lstM stt_world S (by show 0 ≤ _; decide) fun p S2 => ?_
      exact q p _ G _ (Ex.refl G) S2 rfl
    · obtain ⟨r, rfl, hr⟩ := hy
      walk_at "gc"
      try dsimp only
      unfold t_common_1
      refine rd_seq (rd_asg (rd_lc (rd_it ?_)))
      walk_at "gc"
      refine mk_tup stt_world S (by show 2 ≤ _; decide) fun z G1 e1 S1 hz => ?_
      refine ⟨z, rfl, ⟨_, ex_t S1.ex (st_of hz)⟩, ?_⟩
      refine lc_filterJ stt_world (walk_tup (xs := [oV a, oV c])) S1 (fun H' e' => ex_t e' (st_of hz)) (by show 2 < _; decide) (fun _ => rfl) (fun x => x) (fun x => !decide (x = .non)) (fun x acc D1 G2 H2 hx e2 S2 Kt kt => ?_) (fun x acc D1 G2 H2 hx hp e2 S2 Kp kp => ?_) (fun D1 G2 H2 e2 S2 => ?_)
      · walk_at "gc"
        exact kt _ S2
      · walk_at "gc"
        exact kp _ S2
      rw [fm_map] at S2
      have e3 := S2.frzE
      have S3 := S2.frz
      have hl : SqL K (upd G2 D1 (.lst (([a, c].filterMap id).map V.int))) D1 (([a, c].filterMap id).map V.int) := sq_of upd_same
      generalize upd G2 D1 (.lst (([a, c].filterMap id).map V.int)) = G3 at *
      have eG := e1.trans (e2.trans e3)
      have hm3 := ex_t eG hm
      have hr3 := ex_t eG hr
      walk_at "gc"
      unfold t_common_2
      refine rd_seq (rd_asg (rd_lc (rd_it ?_)))
      walk_at "gc"
      refine mk_tup stt_world S3 (by show 2 ≤ _; decide) fun z G4 e4 S4 hz => ?_
      refine ⟨z, rfl, ⟨_, ex_t S4.ex (st_of hz)⟩, ?_⟩
      refine lc_filterJ stt_world (walk_tup (xs := [oV b, oV d])) S4 (fun H' e' => ex_t e' (st_of hz)) (by show 2 < _; decide) (fun _ => rfl) (fun x => x) (fun x => !decide (x = .non)) (fun x acc D1 G2 H2 hx e2 S2 Kt kt => ?_) (fun x acc D1 G2 H2 hx hp e2 S2 Kp kp => ?_) (fun D2 G5 H5 e5 S5 => ?_)
      · walk_at "gc"
        exact kt _ S2
      · walk_at "gc"
        exact kp _ S2
      rw [fm_map] at S5
      have e6 := S5.frzE
      have hh : SqL K (upd G5 D2 (.lst (([b, d].filterMap id).map V.int))) D2 (([b, d].filterMap id).map V.int) := sq_of upd_same
      walk_at "gc"
      refine read_common_3 S5.frz (ex_l (e4.trans (e5.trans e6)) hl) hh fun p us G' H' e' S' h' => q p us G' H' (eG.trans (e4.trans (e5.trans (e6.trans e')))) S' h'
theorem sat_common {K : PySem.W.Frag} {vs : List V} {H : Hp} {Q : VK} {E : XK} (h : sp_common K vs H Q E) : vs.length = 2 ∧ t_common K { nx := fun _ H' => Q .non H', rt := Q } (vs.map some ++ List.replicate (6 - vs.length) none) H := by
  obtain ⟨x, y, s, t, G, L, rfl, S, hx, hy, q⟩ := h
  exact ⟨rfl, read_common S hx hy q⟩

/-! What any law with lists of lambdas wants. -/
section
variable {K : PySem.W.Frag} {σ : L2.St} {G H : Hp} {L : List (Addr × HO)} {Q : VK} {D : Ends} {E : XK} {lw : LamW} {b : Addr} {pt : Array Value}
theorem LamW.codes.ex {G' : Hp} (e : Ex G G') (hc : lw.codes G pt) : lw.codes G' pt := ⟨hc.1, fun pos cv z => have ⟨c, h1, h2⟩ := hc.2 pos cv z; ⟨c, h1, e _ _ h2⟩⟩
theorem Bag.lam {i : Nat} {H1 : Hp} {f : Addr} (B : Bag K G H b [(lw.P, .tbl pt)]) (hc : lw.codes G pt) (n : LamNew lw i H pt f H1) : ∃ G1 ps', Ex G G1 ∧ Bag K G1 H1 b [(lw.P, .tbl ps')] ∧ lw.codes G1 ps' ∧ LamAt lw i G1 f := by
  obtain ⟨c, i0, r, x, n0, ns, S, hcs, rest⟩ := B
  obtain ⟨G1, ps', e1, S1, k1, a1⟩ := LamNew.stt S (j := 1) rfl hc n
  exact ⟨G1, ps', e1, ⟨c, i0, r, x, n0, ns, S1, ex_l e1 hcs, rest⟩, k1, a1⟩
theorem Bag.tab (B : Bag K G H b [(lw.P, .tbl pt)]) : H lw.P = some (.tbl pt) := have ⟨_, _, _, _, _, _, S, _⟩ := B; S.at 1 rfl
/-- a lambda made -/
theorem rd_lamB {i : Nat} (B : Bag K G H b [(lw.P, .tbl pt)]) (hc : lw.codes G pt) (q : ∀ f G1 H1 ps1, Ex G G1 → Bag K G1 H1 b [(lw.P, .tbl ps1)] → lw.codes G1 ps1 → LamAt lw i G1 f → Q (.ref f) H1) : tLamE lw i σ H Q :=
  ⟨pt, B.tab, hc.ex B.ex, fun f H1 n => have ⟨G1, ps1, e1, B1, k1, a1⟩ := B.lam hc n; q f G1 H1 ps1 e1 B1 k1 a1⟩
theorem lk_same {x : V} {d : PyData} (h : Dp K G x d) : lk d d = true := lk_refl d (Dp.plain _ _ h)
theorem rd_like {n : Nat} {x y : V} {d : PyData} (B : Bag K G H b L) (hx : Dp K G x d) (hy : Dp K G y d) (hf : fit n d) (q : ∀ H', Bag K G H' b L → Q (.bl true) H') : sp_like K n [x, y] H Q E := by
  obtain ⟨M, S, hB⟩ := B.stt
  refine ⟨G, M, x, y, d, d, rfl, S, hx, hy, hf, fun H' S' => ?_⟩
  rw [lk_same hx]
  exact q H' (hB G H' (Ex.refl G) S')
theorem rd_triesV {mk : List Nat} {n j : Nat} {tbs : Nat → XK → TE} {σ : L2.St} {a : Addr} {fs : List Addr} {os : List Out} (hj : σ[j]? = some (some (.ref a))) (S : Stt G H L) (ha : SqL K G a (fs.map V.ref)) (hn : fs.length = n) (ho : os.length = n) (h9 : n < 1000) (hla : ∀ i f, fs[i]? = some f → LamAt lw i G f)
    (hb : ∀ i o, os[i]? = some o → BodyIs K G (wipe σ mk) (tbs i) o) (q : ∀ p G' H', Ex G G' → Stt G' H' L → Dp K G' (.ref p) (.list (os.map Out.data)) → Q (.ref p) H') : tTriesC K lw n tbs mk (tCons (tVar j) tNil) σ H Q :=
  rd_cons (QA := fun vs H1 => ∀ (Cn : CnT) (l : Cells), NoC l H1 → (∀ i, i < n → ∀ f, Cn f (lamTl lw l i (tbs i) (wipe σ mk) f)) → sp_tries K Cn (vs ++ []) (onC l H1) (fun v H2 => InC l H2 ∧ Q v (offC l H2)) E0) (rd_var hj (rd_nil fun Cn l nc cn => rd_triesC S ha hn ho h9 hla hb q Cn l nc cn))
/-- for a while, what may change is held as what stays -/
theorem Stt.lend {a : Addr} {o : HO} (S : Stt G H L) (hm : (a, o) ∈ L) : Stt (upd G a o) H (L.filter fun q => decide (q.1 ≠ a)) ∧ ∀ H', Stt (upd G a o) H' (L.filter fun q => decide (q.1 ≠ a)) → Stt G H' L := by
  have ga : G a = none := S.out _ hm
  have one : ∀ q, q ∈ L → q.1 = a → q = (a, o) := fun q hq e => by
    have h1 := S.has q hq
    have h2 := S.has _ hm
    rw [e, h2] at h1
    exact Prod.ext e (Option.some.inj h1).symm
  refine ⟨⟨fun b u e => ?_, fun q hq => S.has q (List.mem_filter.mp hq).1, fun q hq => ?_, ?_⟩, fun H' S' => ⟨fun b u e => S'.ex b u ?_, fun q hq => ?_, S.out, S.nd⟩⟩
  · unfold upd at e
    by_cases c : b = a
    · rw [if_pos c] at e
      rw [c, ← e]
      exact S.has _ hm
    · rw [if_neg c] at e; exact S.ex b u e
  · have h := List.mem_filter.mp hq
    rw [upd_ne (of_decide_eq_true h.2)]
    exact S.out q h.1
  · exact List.Nodup.sublist (List.Sublist.map _ List.filter_sublist) S.nd
  · by_cases c : b = a
    · rw [c, ga] at e; cases e
    · rw [upd_ne c]; exact e
  · by_cases c : q.1 = a
    · rw [one q hq c]
      exact S'.ex a o upd_same
    · exact S'.has q (List.mem_filter.mpr ⟨hq, decide_eq_true c⟩)
end
/-- a heap without one of its objects -/
def del (H : Hp) (p : Addr) : Hp := fun a => if a = p then none else H a
theorem Stt.out1 {H : Hp} {p : Addr} {o : HO} (h : H p = some o) : Stt (del H p) H [(p, o)] where
  ex := fun a u ha => by
    unfold del at ha
    by_cases c : a = p
    · rw [if_pos c] at ha; cases ha
    · rw [if_neg c] at ha; exact ha
  has := fun q hq => by rw [List.mem_singleton.mp hq]; exact h
  out := fun q hq => by rw [List.mem_singleton.mp hq]; exact if_pos rfl
  nd := by simp
theorem del_sq {K : PySem.W.Frag} {H : Hp} {p a : Addr} {ps : Array Value} {xs : List V} (h : H p = some (.tbl ps)) (s : SqL K H a xs) : SqL K (del H p) a xs := by
  rcases s with r | k
  · have ne : a ≠ p := fun z => by
      subst z
      rcases r with r | ⟨o, r⟩ <;> (rw [h] at r; cases r)
    have e : del H p a = H a := if_neg ne
    exact .inl (by unfold Rd at r ⊢; rw [e]; exact r)
  · exact .inr k

/-! The boxes that two bounds share. -/
open PySem PySem.Spec PyProof.Rows L2 Evl RZ NumText



theorem lo_cm (a c : Option Int) (v : Int) : loV (cmLo a c) v = (loV a v && loV c v) := by
  rcases a with _ | a <;> rcases c with _ | c
  · rfl
  · rfl
  · exact (Bool.and_true _).symm
  · show decide (max a c ≤ v) = (decide (a ≤ v) && decide (c ≤ v))
    rw [← Bool.decide_and]; exact decide_eq_decide.mpr (by omega)
theorem hi_cm (b d : Option Int) (v : Int) : hiV (cmHi b d) v = (hiV b v && hiV d v) := by
  rcases b with _ | a <;> rcases d with _ | b
  · rfl
  · rfl
  · exact (Bool.and_true _).symm
  · show decide (v ≤ min a b) = (decide (v ≤ a) && decide (v ≤ b))
    rw [← Bool.decide_and]; exact decide_eq_decide.mpr (by omega)
/-- what two stretches share, told by values -/
theorem cm_val : ∀ (s t : SD) (v : Option Int), (match cm s t with | some u => inS u v | none => false) = (inS s v && inS t v)
  | none, none, v => by cases v <;> rfl
  | none, some (c, d), v => by cases v <;> rfl
  | some (a, b), none, v => by cases v <;> simp [inS, cm]
  | some (a, b), some (c, d), v => by
    show (match (match cmLo a c, cmHi b d with
      | some x, some y => if y < x then none else some (some (some x, some y))
      | x, y => some (some (x, y))) with | some u => inS u v | none => false) = _
    cases v with
    | none =>
      generalize cmLo a c = lo
      generalize cmHi b d = hi
      rcases lo with _ | lo <;> rcases hi with _ | hi
      · rfl
      · rfl
      · rfl
      · by_cases e : hi < lo
        · simp only [if_pos e]; rfl
        · simp only [if_neg e]; rfl
    | some v =>
      have e : (inS (some (a, b)) (some v) && inS (some (c, d)) (some v)) = (loV (cmLo a c) v && hiV (cmHi b d) v) := by
        show ((loV a v && hiV b v) && (loV c v && hiV d v)) = _
        rw [lo_cm, hi_cm]
        cases loV a v <;> cases hiV b v <;> cases loV c v <;> rfl
      rw [e]
      generalize cmLo a c = lo
      generalize cmHi b d = hi
      rcases lo with _ | lo <;> rcases hi with _ | hi
      · rfl
      · rfl
      · rfl
      · by_cases e : hi < lo
        · simp only [if_pos e]
          show false = (decide (lo ≤ v) && decide (v ≤ hi))
          rw [← Bool.decide_and]
          exact (decide_eq_false (fun z => by omega)).symm
        · simp only [if_neg e]; rfl
theorem isSt_cm : ∀ {s t u : SD}, cm s t = some u → isSt (sD u) = true
  | none, none, u, h => by cases h; rfl
  | none, some _, u, h => by cases h
  | some _, none, u, h => by cases h
  | some (a, b), some (c, d), u, h => by
    refine isSt_ok u fun p q x y e ep eq => ?_
    subst e ep eq
    have h : (match cmLo a c, cmHi b d with
      | some x, some y => if y < x then none else some (some (some x, some y))
      | x, y => some (some (x, y))) = some (some (some x, some y)) := h
    generalize cmLo a c = lo at h
    generalize cmHi b d = hi at h
    rcases lo with _ | lo <;> rcases hi with _ | hi
    · cases h
    · cases h
    · cases h
    · by_cases e : hi < lo
      · simp only [if_pos e] at h; cases h
      · simp only [if_neg e] at h
        cases h
        omega
/-- what two boxes share, column by column -/
def bc (a b : BX) : List SD := (a.zip b).filterMap fun p => cm p.1 p.2
def bcs (a b : BX) : List BX := if (bc a b).length = a.length then [bc a b] else []
theorem bc_cons (s t : SD) (a b : BX) : bc (s :: a) (t :: b) = (cm s t).toList ++ bc a b := by
  show ((s, t) :: a.zip b).filterMap _ = _
  rw [List.filterMap_cons]
  cases cm s t <;> rfl
theorem bc_le : ∀ a b : BX, (bc a b).length ≤ a.length
  | [], _ => Nat.le_refl _
  | _ :: _, [] => Nat.zero_le _
  | s :: a, t :: b => by
    rw [bc_cons, List.length_append, List.length_cons]
    have := bc_le a b
    cases cm s t <;> simp <;> omega
theorem bc_in : ∀ (a b : BX) (os : List (Option Int)), a.length = os.length → b.length = os.length → (decide ((bc a b).length = a.length) && inBx (bc a b) os) = (inBx a os && inBx b os)
  | [], [], [], _, _ => rfl
  | s :: a, t :: b, o :: os, h1, h2 => by
    have ih := bc_in a b os (Nat.succ.inj h1) (Nat.succ.inj h2)
    have le := bc_le a b
    have hv := cm_val s t o
    show _ = ((inS s o && inBx a os) && (inS t o && inBx b os))
    have e : ((inS s o && inBx a os) && (inS t o && inBx b os)) = ((inS s o && inS t o) && (inBx a os && inBx b os)) := by
      cases inS s o <;> cases inBx a os <;> cases inS t o <;> rfl
    rw [e, ← hv, ← ih, bc_cons]
    cases cm s t with
    | none =>
      rw [decide_eq_false (by show ¬ ([] ++ bc a b).length = (s :: a).length; rw [List.nil_append, List.length_cons]; omega)]
      rfl
    | some u =>
      show (decide ((u :: bc a b).length = (s :: a).length) && (inS u o && inBx (bc a b) os)) = (inS u o && _)
      rw [List.length_cons, List.length_cons, show decide ((bc a b).length + 1 = a.length + 1) = decide ((bc a b).length = a.length) from decide_eq_decide.mpr (by omega)]
      cases decide ((bc a b).length = a.length) <;> cases inS u o <;> rfl
  | [], _ :: _, [], _, h => by cases h
  | _ :: _, _, [], h, _ => by cases h
  | [], _, _ :: _, h, _ => by cases h
  | _ :: _, [], _ :: _, _, h => by cases h
theorem bcs_in {a b : BX} {os : List (Option Int)} (h1 : a.length = os.length) (h2 : b.length = os.length) : inBd (bcs a b) os = (inBx a os && inBx b os) := by
  rw [← bc_in a b os h1 h2]
  unfold bcs inBd
  by_cases h : (bc a b).length = a.length
  · rw [if_pos h, decide_eq_true h]
    show (inBx (bc a b) os || false) = _
    rw [Bool.or_false, Bool.true_and]
  · rw [if_neg h, decide_eq_false h]; rfl
theorem bcs_ok {a b x : BX} {w : Nat} (h1 : a.length = w) (h : x ∈ bcs a b) : x.length = w ∧ ∀ s, s ∈ x → isSt (sD s) = true := by
  unfold bcs at h
  by_cases e : (bc a b).length = a.length
  · rw [if_pos e] at h
    rw [List.mem_singleton.mp h]
    refine ⟨e.trans h1, fun s hs => ?_⟩
    obtain ⟨p, _, hp⟩ := List.mem_filterMap.mp hs
    exact isSt_cm hp
  · rw [if_neg e] at h; cases h
theorem bcs_le (a b : BX) : (bcs a b).length ≤ 1 := by
  unfold bcs
  split
  · exact Nat.le_refl _
  · exact Nat.zero_le _
/-- the boxes of the keys that both have -/
def both (as bs : List BX) : List BX := as.flatMap fun a => bs.flatMap fun b => bcs a b
theorem both_in {as bs : List BX} {os : List (Option Int)} (h1 : ∀ a, a ∈ as → a.length = os.length) (h2 : ∀ b, b ∈ bs → b.length = os.length) : inBd (both as bs) os = (inBd as os && inBd bs os) := by
  have inner : ∀ (a : BX), a.length = os.length → ∀ bs : List BX, (∀ b, b ∈ bs → b.length = os.length) → inBd (bs.flatMap fun b => bcs a b) os = (inBx a os && inBd bs os) := fun a ha bs => by
    induction bs with
    | nil => intro _; show false = (_ && false); rw [Bool.and_false]
    | cons b bs ih =>
      intro hb
      show ((bcs a b ++ bs.flatMap fun b => bcs a b).any fun x => inBx x os) = (inBx a os && (inBx b os || inBd bs os))
      rw [List.any_append]
      show (inBd (bcs a b) os || inBd (bs.flatMap fun b => bcs a b) os) = _
      rw [bcs_in ha (hb b (List.mem_cons_self ..)), ih fun x hx => hb x (List.mem_cons_of_mem _ hx), Bool.and_or_distrib_left]
  induction as with
  | nil => rfl
  | cons a as ih =>
    show (((bs.flatMap fun b => bcs a b) ++ both as bs).any fun x => inBx x os) = ((inBx a os || inBd as os) && inBd bs os)
    rw [List.any_append]
    show (inBd (bs.flatMap fun b => bcs a b) os || inBd (both as bs) os) = _
    rw [inner a (h1 a (List.mem_cons_self ..)) bs h2, ih fun x hx => h1 x (List.mem_cons_of_mem _ hx), Bool.and_or_distrib_right]
theorem both_ok {as bs : List BX} {w : Nat} (h1 : ∀ a, a ∈ as → a.length = w) {x : BX} (h : x ∈ both as bs) : x.length = w ∧ ∀ s, s ∈ x → isSt (sD s) = true := by
  obtain ⟨a, ha, h⟩ := List.mem_flatMap.mp h
  obtain ⟨b, _, h⟩ := List.mem_flatMap.mp h
  exact bcs_ok (h1 a ha) h
theorem any_or (as bs : List BX) (os : List (Option Int)) : inBd (as ++ bs) os = (inBd as os || inBd bs os) := List.any_append

/-! The law's own texts, boxes, keys, values. -/
open PySem PySem.Spec PyProof.Rows L2 Evl RZ NumText



/-! ### signs of the texts -/
theorem intL_low (i : Int) : ∀ c, c ∈ intL i → c < 256 := fun c hc => by
  have dig : ∀ n : Nat, ∀ c, c ∈ TL.numL n → c < 256 := fun n c h => by
    have := TL.numL_digits n c h
    omega
  unfold intL at hc
  split at hc
  · exact dig _ c hc
  · rcases List.mem_cons.mp hc with h | h
    · omega
    · exact dig _ c h
theorem sideL_low (o : Option Int) : ∀ c, c ∈ sideL o → c < 256 := by
  cases o with
  | none => intro c h; cases h
  | some i => exact intL_low i
theorem stL_low (s : SD) : ∀ c, c ∈ stL s → c < 256 := by
  cases s with
  | none => intro c h; rw [List.mem_singleton.mp h]; decide
  | some ab =>
    obtain ⟨a, b⟩ := ab
    intro c h
    have h : c ∈ sideL a ++ ([46, 46] ++ sideL b) := h
    rcases List.mem_append.mp h with h1 | h
    · exact sideL_low a c h1
    · rcases List.mem_append.mp h with h1 | h2
      · have : c = 46 := by simpa using h1
        omega
      · exact sideL_low b c h2
theorem joinL_low (z : List Nat) (hz : ∀ c, c ∈ z → c < 256) : ∀ ws : List (List Nat), (∀ w, w ∈ ws → ∀ c, c ∈ w → c < 256) → ∀ c, c ∈ TL.joinL z ws → c < 256
  | [], _, c, h => by cases h
  | [w], hw, c, h => hw w (List.mem_cons_self ..) c h
  | w :: v :: ws, hw, c, h => by
    have h : c ∈ w ++ (z ++ TL.joinL z (v :: ws)) := h
    rcases List.mem_append.mp h with h1 | h
    · exact hw w (List.mem_cons_self ..) c h1
    · rcases List.mem_append.mp h with h1 | h2
      · exact hz c h1
      · exact joinL_low z hz (v :: ws) (fun x hx => hw x (List.mem_cons_of_mem _ hx)) c h2
theorem boxL_ok (b : BX) : PyData.strOk (SX.S (boxL b)) = true := by
  unfold PyData.strOk
  rw [← Array.all_toList]
  refine List.all_eq_true.mpr fun c hc => ?_
  have := joinL_low [32] (fun c h => by rw [List.mem_singleton.mp h]; decide) (b.map stL) (fun w hw => by
    obtain ⟨s, _, rfl⟩ := List.mem_map.mp hw
    exact stL_low s) c hc
  exact (decide_eq_true (by omega))
theorem rows_shaped (bs : List BX) : SeqAt.shaped (.list ((bs.map fun b => SX.S (boxL b)).map PyData.str)) = true := by
  have lay : ∀ bs : List BX, PyData.canLayAll0 ((bs.map fun b => SX.S (boxL b)).map PyData.str) = true := fun bs => by
    induction bs with
    | nil => rfl
    | cons b bs ih =>
      show (PyData.strOk (SX.S (boxL b)) && PyData.canLayAll0 ((bs.map fun b => SX.S (boxL b)).map PyData.str)) = true
      rw [boxL_ok, ih]; rfl
  have dep : ∀ zs : List Str, PyData.depthAll (zs.map PyData.str) = 0 := fun zs => by
    induction zs with
    | nil => rfl
    | cons z zs ih =>
      show max (PyData.depth (.str z)) (PyData.depthAll (zs.map PyData.str)) = 0
      rw [ih]; rfl
  unfold SeqAt.shaped
  rw [show PyData.canLay0 (.list ((bs.map fun b => SX.S (boxL b)).map PyData.str)) = PyData.canLayAll0 ((bs.map fun b => SX.S (boxL b)).map PyData.str) from rfl, lay, show PyData.depth (.list ((bs.map fun b => SX.S (boxL b)).map PyData.str)) = PyData.depthAll ((bs.map fun b => SX.S (boxL b)).map PyData.str) + 1 from rfl, dep]
  rfl
theorem rows_ne (bs : List BX) : PyData.eqv (.list ((bs.map fun b => SX.S (boxL b)).map PyData.str)) (.list []) = decide (bs = []) := by
  cases bs with
  | nil => rw [List.map_nil, List.map_nil, PyData.eqv, PyData.eqvAll, decide_eq_true rfl]
  | cons b bs => rw [List.map_cons, List.map_cons, PyData.eqv, PyData.eqvAll, decide_eq_false (by intro h; cases h)]
section
variable {K : PySem.W.Frag} [SB : BndK K] {σ : L2.St} {G H : Hp} {L : List (Addr × HO)} {Q : VK} {E : XK} {D : Ends} {b : Addr}
theorem dpStrs : ∀ fs : List Str, DpAll K H (fs.map V.str) (fs.map PyData.str)
  | [] => .nil
  | f :: fs => .cons (.str f) (dpStrs fs)
/-! ### one side -/
def sp_side (K : PySem.W.Frag) : Sp := fun vs H Q _ => ∃ o : Option Int, vs = [oV o] ∧ (∀ i, o = some i → i.natAbs < 10 ^ 20) ∧ Q (.str (SX.S (sideL o))) H
def t_side (K : PySem.W.Frag) : TS :=
  (tRet (tIf (tTest (tOp rIsN (tVar 0) (tC .non))) (tC (.str "")) (tCB gStr (tCons (tVar 0) tNil))))
theorem sat_side {vs : List V} (h : sp_side K vs H Q E) : vs.length = 1 ∧ t_side K { nx := fun _ H' => Q .non H', rt := Q } (vs.map some ++ List.replicate (1 - vs.length) none) H := by
  obtain ⟨o, rfl, hb, q⟩ := h
  refine ⟨rfl, ?_⟩
  unfold t_side
  cases o with
  | none =>
    walk_at "gc"
    exact q
  | some i =>
    walk_at "gc"
    exact rd_str (log_20 (hb i rfl)) q
/-! ### the text of boxes -/
def sp_bound_text (K : PySem.W.Frag) : Sp := fun vs H Q _ => ∃ (p : Addr) (us : List V) (bs : List BX) (G : Hp) (L : List (Addr × HO)), vs = [.ref p] ∧ Stt G H L ∧ SqL K G p us ∧ DpAll K G us (bs.map boxD) ∧ bs.length ≤ 10 ∧ (∀ b, b ∈ bs → smallB b) ∧
  ∀ G' H', Ex G G' → Stt G' H' L → Q (.str (SX.S (bndL bs))) H'
def t_bound_text_1 (K : PySem.W.Frag) : TS :=
  (tRet (tIf (tTest (tOp (gNe K) (tVar 1) (tLst tNil))) (tJoinS K " | " (tVar 1)) (tC (.str "none"))))
def t_bound_text (K : PySem.W.Frag) : TS :=
  (tSeq (tAsg (tLc (iList K (tVar 0)) (gName 2) tYes (tJoinS K " " (tLc (iTup K (tVar 2)) (gName 3) tYes (tIf (tTest (tOp rIsN (tVar 3) (tC .non))) (tC (.str "_")) (tOp (gAdd K) (tOp (gAdd K) (tCall (sp_side K) [] E0 (tCons (tOp (rIx K) (tVar 3) (tC (.int 0))) tNil)) (tC (.str ".."))) (tCall (sp_side K) [] E0 (tCons (tOp (rIx K) (tVar 3) (tC (.int 1))) tNil)))) [3])) [2]) (gName 1))
  (t_bound_text_1 K))
theorem rd_oneT {i : Nat} {x : V} {s : SD} (hx : StV K H x s) (hb : stBd s) (hi : σ[i]? = some (some x)) (q : Q (.str (SX.S (stL s))) H) :
    tIf (tTest (tOp rIsN (tVar i) (tC .non))) (tC (.str "_")) (tOp (gAdd K) (tOp (gAdd K) (tCall (sp_side K) [] E0 (tCons (tOp (rIx K) (tVar i) (tC (.int 0))) tNil)) (tC (.str ".."))) (tCall (sp_side K) [] E0 (tCons (tOp (rIx K) (tVar i) (tC (.int 1))) tNil))) σ H Q := by
  cases s with
  | none =>
    cases hx
    refine rd_if (rd_test (rd_op (rd_var hi (rd_c (rd_isN (rd_bl ?_))))))
    rw [decide_eq_true rfl]
    exact rd_iT (rd_c q)
  | some ab =>
    obtain ⟨a, b⟩ := ab
    obtain ⟨p, rfl, hp⟩ := hx
    have ⟨h1, h2⟩ := hb a b rfl
    have l1 := sideL_len h1
    have l2 := sideL_len h2
    refine rd_if (rd_test (rd_op (rd_var hi (rd_c (rd_isN (rd_bl ?_))))))
    rw [decide_eq_false (by intro h; cases h)]
    refine rd_iF (rd_op (rd_op (rd_call (rd_cons (rd_op (rd_var hi (rd_c (rd_ixT hp rfl (rd_nil ⟨a, rfl, h1, rd_c ?_⟩)))))))))
    refine rd_addS ?_ ?_
    · show (SX.S (sideL a)).length + 2 ≤ _
      rw [SX.S_len]
      exact sz_of (by omega)
    refine rd_call (rd_cons (rd_op (rd_var hi (rd_c (rd_ixT hp rfl (rd_nil ⟨b, rfl, h2, rd_addS ?_ ?_⟩))))))
    · show (SX.S (sideL a) ++ SX.S [46, 46]).length + _ ≤ _
      rw [SX.S_cat, SX.S_len, SX.S_len, List.length_append]
      exact sz_of (by show _ + 2 + _ ≤ _; omega)
    · have e : SX.S (sideL a) ++ (".." : Str) ++ SX.S (sideL b) = SX.S (stL (some (a, b))) := by
        show SX.S (sideL a) ++ SX.S [46, 46] ++ SX.S (sideL b) = _
        rw [SX.S_cat, SX.S_cat, List.append_assoc]
        rfl
      rw [e]
      exact q
theorem sat_bound_text {vs : List V} (h : sp_bound_text K vs H Q E) : vs.length = 1 ∧ t_bound_text K { nx := fun _ H' => Q .non H', rt := Q } (vs.map some ++ List.replicate (4 - vs.length) none) H := by
  obtain ⟨p, us, bs, G, L, rfl, S, hp, hA, h3, hb, q⟩ := h
  refine ⟨rfl, ?_⟩
  have hl := DpAll.length hA
  rw [List.length_map] at hl
  unfold t_bound_text
  refine rd_seq (rd_asg (rd_lc (rd_il (rd_var rfl ⟨p, rfl, ⟨_, ex_l S.ex hp⟩, ?_⟩))))
  refine lc_go stt_world (walk_list (K := K) (a := p) (xs := us)) S (by omega) (fun i v _ => us[i]? = some v) (fun i acc _ => acc = ((bs.take i).map fun b => SX.S (boxL b)).map V.str) (fun H' e' => ex_l e' hp)
    (fun i x G1 H1 H2 L1 _ e1 S1 y => item_at S1 y) rfl (fun _ _ _ _ _ h => h) ?_ ?_
  · intro D1 i u acc G2 H2 hi _ e2 S2 I2 it Kp Sk kp sk
    obtain ⟨d, hd, dp⟩ := DpAll.get hA it
    obtain ⟨b, hbi, rfl⟩ := get_map hd
    obtain ⟨a, xs, rfl, ha, hxs⟩ := box_inv (Dp.ex e2 _ _ dp)
    refine rd_name ⟨rfl, rd_yes (rd_iT (rd_boxT (j := 2) rfl S2 ha hxs (hb b (List.mem_of_getElem? hbi)) (fun _ => rfl) (fun y s G3 H3 L3 Kp2 e3 S3 hy hs kp2 => ?_) fun G3 H3 e3 S3 => kp _ G3 H3 e3 S3 ?_))⟩
    · exact rd_oneT hy ((hb b (List.mem_of_getElem? hbi)).2 s hs) rfl (kp2 G3 H3 (Ex.refl _) S3)
    · rw [I2, List.take_add_one, hbi, List.map_append, List.map_append]
      rfl
  · intro D1 acc G2 H2 e2 S2 I2 _
    have ha : acc = (bs.map fun b => SX.S (boxL b)).map V.str := by rw [I2, List.take_of_length_le (by omega)]
    subst ha
    have S3 := S2.frz
    have e3 := S2.frzE
    have hD : SqL K (upd G2 D1 (.lst ((bs.map fun b => SX.S (boxL b)).map V.str))) D1 ((bs.map fun b => SX.S (boxL b)).map V.str) := sq_of upd_same
    refine rd_name ?_
    show t_bound_text_1 K _ _ _
    unfold t_bound_text_1
    refine rd_ret (rd_if (rd_test (rd_op (rd_var rfl (rd_lst (rd_nil ?_))))))
    refine mk_lst stt_world S3 (Nat.zero_le _) fun p1 G4 e4 S4 h4 => ?_
    refine rd_neD (d := .list ((bs.map fun b => SX.S (boxL b)).map PyData.str)) (e := .list []) (.lst (ex_l (e4.trans S4.ex) hD) (dpStrs _)) (.lst (sq_of (S4.ex _ _ h4)) .nil) (rows_shaped bs) rfl (rd_bl ?_)
    rw [rows_ne]
    refine rd_decN (fun e => ?_) (fun ne => ?_)
    · exact rd_c (by
        have := q G4 _ (e2.trans (e3.trans e4)) S4
        rw [e] at this
        exact this)
    · refine rd_joinS (rd_var rfl ?_)
      refine ⟨D1, _, rfl, ex_l (e4.trans S4.ex) hD, ?_, ?_⟩
      · have := sum_le 135 (bs.map fun b => SX.S (boxL b)) fun z hz => by
          obtain ⟨b, hb1, rfl⟩ := List.mem_map.mp hz
          rw [SX.S_len]
          exact boxL_len (hb b hb1)
        rw [List.length_map] at this ⊢
        have k1 : (" | " : Str).length = 3 := rfl
        have : bs.length * 135 ≤ 10 * 135 := Nat.mul_le_mul_right _ h3
        rw [k1]
        omega
      · have e : Txt.join " | " (bs.map fun b => SX.S (boxL b)) = SX.S (bndL bs) := by
          have h := SX.join_S [32, 124, 32] (bs.map boxL)
          rw [List.map_map] at h
          unfold bndL
          rw [if_neg ne]
          exact h
        rw [e]
        exact q G4 _ (e2.trans (e3.trans e4)) S4
/-! ### a key in boxes -/
def sp_key_in (K : PySem.W.Frag) : Sp := fun vs H Q _ => ∃ (p k : Addr) (us : List V) (bs : List BX) (os : List (Option Int)) (G : Hp) (L : List (Addr × HO)), vs = [.ref p, .ref k] ∧ Stt G H L ∧ SqL K G p us ∧ DpAll K G us (bs.map boxD) ∧ SqT K G k (os.map oV) ∧ bs.length ≤ 100 ∧ (∀ b, b ∈ bs → b.length ≤ 100) ∧
  ∀ G' H', Ex G G' → Stt G' H' L → Q (.bl (inBd bs os)) H'
def t_key_in (K : PySem.W.Frag) : TS :=
  (tRet (tCB (rAny K) (tCons (tLc (iList K (tVar 0)) (gName 2) tYes (tCB (rAll K) (tCons (tLc (iZipA K (tCons (tVar 2) (tCons (tVar 1) tNil))) (gTup K 2 (gCons (gName 3) (gCons (gName 4) gNil))) tYes (tCall (sp_in K) [] E0 (tCons (tVar 3) (tCons (tVar 4) tNil))) [3, 4]) tNil)) [2]) tNil)))
theorem sat_key_in {vs : List V} (h : sp_key_in K vs H Q E) : vs.length = 2 ∧ t_key_in K { nx := fun _ H' => Q .non H', rt := Q } (vs.map some ++ List.replicate (5 - vs.length) none) H := by
  obtain ⟨p, k, us, bs, os, G, L, rfl, S, hp, hub, hk, h100, hb, q⟩ := h
  refine ⟨rfl, ?_⟩
  have hul := DpAll.length hub
  rw [List.length_map] at hul
  unfold t_key_in
  refine rd_ret (rd_cb (rd_cons (rd_lc (rd_il (rd_var rfl ⟨p, rfl, ⟨_, ex_l S.ex hp⟩, ?_⟩)))))
  refine lc_go stt_world (walk_list (K := K) (a := p) (xs := us)) S (by omega) (fun i v _ => us[i]? = some v) (fun i acc _ => acc = ((bs.take i).map fun b => inBx b os).map V.bl) (fun H' e' => ex_l e' hp)
    (fun i x G1 H1 H2 L1 _ e1 S1 y => item_at S1 y) rfl (fun _ _ _ _ _ h => h) ?_ ?_
  · intro D2 i u acc G4 H4 hi _ e4 S4 I4 it Kp Sk kp sk
    obtain ⟨d, hd, dp⟩ := DpAll.get hub it
    obtain ⟨b, hbi, rfl⟩ := get_map hd
    obtain ⟨a, zs, rfl, ha, hzs⟩ := box_inv (Dp.ex e4 _ _ dp)
    refine rd_name ⟨rfl, rd_yes (rd_iT (rd_zipB (i := 2) (j := 1) rfl rfl S4 ha hzs (ex_t e4 hk) (by have := hb b (List.mem_of_getElem? hbi); omega) (fun _ _ => rfl) (fun z s o H5 Kp2 hz q2 => ?_) fun G5 H5 e5 S5 => kp _ G5 H5 e5 S5 ?_))⟩
    · exact rd_call (rd_cons (rd_var rfl (rd_cons (rd_var rfl (rd_nil ⟨z, s, o, rfl, hz, q2⟩)))))
    · rw [I4, List.take_add_one, hbi, List.map_append, List.map_append]
      rfl
  · intro D2 acc G4 H4 e4 S4 I4 _
    have ha : acc = (bs.map fun b => inBx b os).map V.bl := by rw [I4, List.take_of_length_le (by omega)]
    subst ha
    refine rd_nil (rd_any (sq_of (S4.at 0 rfl)) ?_)
    rw [List.any_map]
    exact q G4 H4 e4 S4.drop
end

/-! The law's own values, boxes, bounds. -/
open PySem PySem.Spec PyProof.Rows L2 Evl RZ NumText



section
variable {K : PySem.W.Frag} [SB : BndK K] {σ : L2.St} {G H : Hp} {L : List (Addr × HO)} {Q : VK} {E : XK} {D : Ends} {b : Addr}
theorem flat_oVs (os : List (Option Int)) : (os.map oV).all flatV = true := by
  rw [List.all_map]
  exact List.all_eq_true.mpr fun o _ => by cases o <;> rfl
theorem inV_int (m : Int) : ∀ os : List (Option Int), inV (.int m) (os.map oV) = decide (some m ∈ os)
  | [] => rfl
  | o :: os => by
    have ih := inV_int m os
    unfold inV at ih ⊢
    rw [List.map_cons, List.any_cons, ih]
    have e : eqV (oV o) (V.int m) = decide (o = some m) := by
      cases o with
      | none => rw [decide_eq_false (by intro z; cases z)]; rfl
      | some i =>
        rw [show decide (some i = some m) = decide (i = m) from decide_eq_decide.mpr ⟨Option.some.inj, fun z => by rw [z]⟩]
        show (i == m) = decide (i = m)
        by_cases h : i = m
        · rw [decide_eq_true h, h]; exact beq_self_eq_true m
        · rw [decide_eq_false h]; exact beq_eq_false_iff_ne.mpr h
    rw [e, ← Bool.decide_or]
    exact decide_eq_decide.mpr (by rw [List.mem_cons]; exact or_congr eq_comm Iff.rfl)
/-- None, and each number with what is beside it -/
def SidesOf (ns : List Int) (os : List (Option Int)) : Prop := none ∈ os ∧ ∀ n, n ∈ ns → some (n - 1) ∈ os ∧ some n ∈ os ∧ some (n + 1) ∈ os
def sp_sides (K : PySem.W.Frag) : Sp := fun vs H Q _ => ∃ (a : Addr) (ns : List Int) (G : Hp) (L : List (Addr × HO)), vs = [.ref a] ∧ Stt G H L ∧ SqL K G a (ns.map V.int) ∧ ns.length < 60 ∧
  ∀ (p : Addr) (os : List (Option Int)) (G' H' : Hp), Ex G G' → Stt G' H' L → SqL K G' p (os.map oV) → SidesOf ns os → os.length ≤ 1 + 3 * ns.length → Q (.ref p) H'
def t_sides_1b (K : PySem.W.Frag) : TS :=
  (tAsg (tOp (gAdd K) (tVar 1) (tLc (iList K (tLst (tCons (tOp (rI0 fun i j => .int (i - j)) (tVar 2) (tC (.int 1))) (tCons (tVar 2) (tCons (tOp (gAdd K) (tVar 2) (tC (.int 1))) tNil))))) (gName 3) (tTest (tOp (gNotIn K) (tVar 3) (tVar 1))) (tVar 3) [3])) (gName 1))
def t_sides_2 (K : PySem.W.Frag) : TS :=
  (tRet (tVar 1))
def t_sides_1 (K : PySem.W.Frag) : TS :=
  (tSeq (tFor (iList K (tSrt K (tVar 0))) (gName 2) (t_sides_1b K))
  (t_sides_2 K))
def t_sides (K : PySem.W.Frag) : TS :=
  (tSeq (tAsg (tLst (tCons (tC .non) tNil)) (gName 1))
  (t_sides_1 K))
theorem sat_sides {vs : List V} (h : sp_sides K vs H Q E) : vs.length = 1 ∧ t_sides K { nx := fun _ H' => Q .non H', rt := Q } (vs.map some ++ List.replicate (4 - vs.length) none) H := by
  obtain ⟨a, ns, G, L, rfl, S, ha, hl, q⟩ := h
  refine ⟨rfl, ?_⟩
  unfold t_sides
  refine rd_seq (rd_asg (rd_lst (rd_cons (rd_c (rd_nil ?_)))))
  refine mk_lst stt_world S (by show 1 ≤ _; decide) fun p0 G1 e1 S1 h1 => rd_name ?_
  show t_sides_1 K _ _ _
  unfold t_sides_1
  refine rd_seq (rd_for (rd_il (rd_srt (rd_var rfl ⟨a, ns, rfl, .inl (ex_l (e1.trans S1.ex) ha), by omega, fun ms o p r up mem few hp hr => ?_⟩))))
  have S2 := S1.new (o := o) hp
  have e2 := S1.newE (o := o) hp
  have S3 := S2.new (o := .lst (ms.map V.int)) hr
  have e3 := S2.newE (o := .lst (ms.map V.int)) hr
  have hr3 : SqL K (upd (upd G1 p o) r (.lst (ms.map V.int))) r (ms.map V.int) := sq_of upd_same
  have e13 := e2.trans e3
  generalize upd (upd G1 p o) r (.lst (ms.map V.int)) = G3 at *
  refine ⟨r, rfl, ⟨_, ex_l S3.ex hr3⟩, ?_⟩
  refine for_go (walk_list (K := K) (a := r) (xs := ms.map V.int)) (G := G3)
    (fun i σ1 G4 H4 => ∃ (p : Addr) (os : List (Option Int)) (x2 x3 : Option V), σ1 = [some (.ref a), some (.ref p), x2, x3] ∧ Ex G3 G4 ∧ Stt G4 H4 L ∧ G4 p = some (.lst (os.map oV)) ∧ SidesOf (ms.take i) os ∧ os.length ≤ 1 + 3 * i)
    ⟨p0, [none], _, _, rfl, Ex.refl _, S3, e13 _ _ h1, ⟨List.mem_singleton.mpr rfl, fun n hn => by rw [List.take_zero] at hn; cases hn⟩, Nat.le_refl _⟩ (fun i σ1 G2 H2 _ ⟨_, _, _, _, _, e2, S2, _⟩ => ex_l (e2.trans S2.ex) hr3) ?_ ?_
  · rintro i v σ1 G4 H4 H5 hi ⟨p, os, x2, x3, rfl, e4, S4, hp, h0, hos⟩ y N hN
    obtain ⟨rfl, hv⟩ := y
    rw [List.length_map] at hi
    rw [List.getElem?_map] at hv
    obtain ⟨n, hmn, rfl⟩ : ∃ n, ms[i]? = some n ∧ v = .int n := by
      cases e : ms[i]? with
      | none => rw [e] at hv; cases hv
      | some n => rw [e] at hv; exact ⟨n, rfl, (Option.some.inj hv).symm⟩
    refine rd_name ?_
    show t_sides_1b K _ _ _
    unfold t_sides_1b
    refine rd_asg (rd_op (rd_var rfl (rd_lc (rd_il (rd_lst (rd_cons (rd_op (rd_var rfl (rd_c ?_)))))))))
    walk_at "gs"
    refine mk_lst stt_world S4 (by show 3 ≤ _; decide) fun t G5 e5 S5 h5 => ?_
    refine ⟨t, rfl, ⟨_, sq_of (S5.ex _ _ h5)⟩, ?_⟩
    refine lc_go stt_world (walk_list (K := K) (a := t) (xs := [.int (n - 1), .int n, .int (n + 1)])) S5 (by show 3 < 1000000; decide) (fun i v _ => ([n - 1, n, n + 1].map V.int : List V)[i]? = some v) (fun i acc _ => ∃ os' : List (Option Int), acc = os'.map oV ∧ os'.length ≤ i ∧ ∀ m, m ∈ [n - 1, n, n + 1].take i → some m ∈ os ∨ some m ∈ os') (fun H' e' => ex_l e' (sq_of h5))
      (fun i x G1 H1 H2 L1 _ e1 S1 y => item_at S1 y) ⟨[], rfl, Nat.le_refl _, fun m hm => by rw [List.take_zero] at hm; cases hm⟩ (fun _ _ _ _ _ h => h) ?_ ?_
    · intro D1 j x acc G6 H6 hj _ e6 S6 ⟨os', hacc, hol, hin⟩ it Kp Sk kp sk
      rw [List.getElem?_map] at it
      obtain ⟨m, hm, rfl⟩ := Option.map_eq_some_iff.mp it
      refine rd_name ⟨rfl, rd_test (rd_op (rd_var rfl (rd_var rfl (.inr ⟨p, os.map oV, rfl, .inl (sq_of (S6.ex _ _ (e6 _ _ (e5 _ _ hp)))), rfl, flat_oVs os, ?_⟩))))⟩
      refine rd_bl ?_
      rw [show (if true = true then !inV (V.int m) (os.map oV) else inV (V.int m) (os.map oV)) = !decide (some m ∈ os) from by rw [inV_int]; rfl]
      by_cases c : some m ∈ os
      · rw [decide_eq_true c]
        refine (if_neg (by decide)).mpr (sk G6 H6 (Ex.refl _) S6 ⟨os', hacc, Nat.le_succ_of_le hol, fun k hk => ?_⟩)
        rw [List.take_add_one, hm] at hk
        rcases List.mem_append.mp hk with h | h
        · exact hin k h
        · rw [List.mem_singleton.mp h]; exact .inl c
      · rw [decide_eq_false c]
        refine (if_pos rfl).mpr (rd_var rfl (kp _ G6 H6 (Ex.refl _) S6 ⟨os' ++ [some m], by rw [hacc, List.map_append]; rfl, by rw [List.length_append]; exact Nat.succ_le_succ hol, fun k hk => ?_⟩))
        rw [List.take_add_one, hm] at hk
        rcases List.mem_append.mp hk with h | h
        · exact (hin k h).imp id fun z => List.mem_append_left _ z
        · rw [List.mem_singleton.mp h]; exact .inr (List.mem_append_right _ (List.mem_singleton.mpr rfl))
    · intro D1 acc G6 H6 e6 S6 ⟨os', hacc, hol, hin⟩ _
      subst hacc
      have hol3 : os'.length ≤ 3 := hol
      refine rd_addL (S6.ex _ _ (e6 _ _ (e5 _ _ hp))) (S6.at 0 rfl) (sz_of (by rw [List.length_map, List.length_map]; omega)) ?_
      refine mk_im (o := .lst (os.map oV ++ os'.map oV)) stt_world S6.drop fun p2 G7 e7 S7 h7 => rd_name ?_
      refine hN _ G7 _ ⟨p2, os ++ os', _, _, rfl, e4.trans (e5.trans (e6.trans e7)), S7, by rw [List.map_append]; exact h7, ⟨List.mem_append_left _ h0.1, fun k hk => ?_⟩, by rw [List.length_append]; omega⟩
      rw [List.take_add_one, hmn] at hk
      rcases List.mem_append.mp hk with h | h
      · have ⟨a1, a2, a3⟩ := h0.2 k h
        exact ⟨List.mem_append_left _ a1, List.mem_append_left _ a2, List.mem_append_left _ a3⟩
      · rw [List.mem_singleton.mp h]
        have f : ∀ m, m ∈ [n - 1, n, n + 1] → some m ∈ os ++ os' := fun m hm => List.mem_append.mpr (hin m hm)
        exact ⟨f _ (List.mem_cons_self ..), f _ (List.mem_cons_of_mem _ (List.mem_cons_self ..)), f _ (List.mem_cons_of_mem _ (List.mem_cons_of_mem _ (List.mem_cons_self ..)))⟩
  · rintro σ1 G4 H4 ⟨p, os, x2, x3, rfl, e4, S4, hp, h0, hos⟩
    rw [List.length_map] at hos h0
    rw [List.take_length] at h0
    show t_sides_2 K _ _ _
    unfold t_sides_2
    exact rd_ret (rd_var rfl (q p os G4 H4 (e1.trans (e13.trans e4)) S4 (sq_of hp) ⟨h0.1, fun n hn => h0.2 n ((mem n).mpr hn)⟩ (by omega)))
/-! ### drawn boxes -/
def sp_boxes (K : PySem.W.Frag) : Sp := fun vs H Q _ => ∃ (b a : Addr) (w m : Nat) (ns : List Int) (G : Hp) (L : List (Addr × HO)), vs = [.ref b, .int (w : Nat), .ref a, .int (m : Nat)] ∧ w ≤ 3 ∧ m ≤ 9 ∧ Bag K G H b L ∧ SqL K G a (ns.map V.int) ∧ 0 < ns.length ∧ ns.length < 1000 ∧
  ∀ p us (bs : List BX) G' H', Ex G G' → Bag K G' H' b L → G' p = some (.lst us) → DpAll K G' us (bs.map boxD) → bs.length ≤ m → (∀ x, x ∈ bs → x.length = w ∧ ∀ s, s ∈ x → SOk ns s) → Q (.ref p) H'
def t_boxes (K : PySem.W.Frag) : TS :=
  (tRet (tLc (iRng1 (tCons (tCall (sp_draw K) [] E0 (tCons (tVar 0) (tCons (tOp (gAdd K) (tVar 3) (tC (.int 1))) tNil))) tNil)) (gName 4) tYes (tCB (gTuple K) (tCons (tLc (iRng1 (tCons (tVar 1) tNil)) (gName 5) tYes (tCall (sp_stretch K) [] E0 (tCons (tVar 0) (tCons (tVar 2) tNil))) [5]) tNil)) [4]))
theorem sat_boxes {vs : List V} (h : sp_boxes K vs H Q E) : vs.length = 4 ∧ t_boxes K { nx := fun _ H' => Q .non H', rt := Q } (vs.map some ++ List.replicate (6 - vs.length) none) H := by
  obtain ⟨b, a, w, m, ns, G, L, rfl, w3, m9, B, ha, n0, n1, q⟩ := h
  refine ⟨rfl, ?_⟩
  have W := bag_world K b
  unfold t_boxes
  refine rd_ret (rd_lc (rd_rng1 (rd_cons (rd_call (rd_cons (rd_var rfl (rd_cons (rd_op (rd_var rfl (rd_c ?_))))))))))
  walk_at "gs"
  refine ⟨b, (m : Int) + 1, G, L, rfl, by omega, by omega, B, fun d H1 d0 d4 B1 => ?_⟩
  walk_at "gs"
  refine ⟨d, rfl, by omega, by omega, ?_⟩
  refine lc_go W (walk_range (lo := 0) (n := d.toNat)) B1 (by omega) (fun _ _ _ => True) (fun i acc G2 => ∃ bs : List BX, DpAll K G2 acc (bs.map boxD) ∧ bs.length = i ∧ ∀ x, x ∈ bs → x.length = w ∧ ∀ s, s ∈ x → SOk ns s)
    (fun _ _ => True.intro) (fun i x G1 H1 H2 L1 _ e1 S1 y => by
      obtain ⟨rfl, _⟩ := y
      exact ⟨G1, Ex.refl _, S1, True.intro⟩) ⟨[], .nil, rfl, fun x hx => by cases hx⟩ (fun i acc Ga Gb e ⟨bs, h1, h2, h3⟩ => ⟨bs, DpAll.ex e _ _ h1, h2, h3⟩) ?_ ?_
  · intro D1 i x acc G2 H2 hi _ e2 B2 ⟨bs, hacc, hbl, hbs⟩ _ Kp Sk kp sk
    refine rd_name ⟨rfl, rd_yes (rd_iT (rd_cb (rd_cons (rd_lc (rd_rng1 (rd_cons (rd_var rfl (rd_nil ⟨(w : Nat), rfl, by omega, by omega, ?_⟩))))))))⟩
    refine lc_go W (walk_range (lo := 0) (n := ((w : Nat) : Int).toNat)) B2 (by show w < 1000000; omega) (fun _ _ _ => True) (fun j acc2 G3 => ∃ ss : BX, DpAll K G3 acc2 (ss.map sD) ∧ ss.length = j ∧ ∀ s, s ∈ ss → SOk ns s)
      (fun _ _ => True.intro) (fun i x G1 H1 H2 L1 _ e1 S1 y => by
        obtain ⟨rfl, _⟩ := y
        exact ⟨G1, Ex.refl _, S1, True.intro⟩) ⟨[], .nil, rfl, fun x hx => by cases hx⟩ (fun i acc Ga Gb e ⟨bs, h1, h2, h3⟩ => ⟨bs, DpAll.ex e _ _ h1, h2, h3⟩) ?_ ?_
    · intro D2 j y acc2 G3 H3 hj _ e3 B3 ⟨ss, hss, hsl, hsk⟩ _ Kp2 Sk2 kp2 sk2
      refine rd_name ⟨rfl, rd_yes (rd_iT (rd_call (rd_cons (rd_var rfl (rd_cons (rd_var rfl (rd_nil ⟨b, a, ns, G3, _, rfl, B3, ex_l (e2.trans e3) ha, n0, by omega, fun v s G4 H4 e4 B4 hv hs => kp2 v G4 H4 e4 B4 ?_⟩)))))))⟩
      refine ⟨ss ++ [s], ?_, by rw [List.length_append, hsl]; rfl, fun z hz => ?_⟩
      · rw [List.map_append]
        exact dp_snoc (DpAll.ex e4 _ _ hss) hv.dp
      · rcases List.mem_append.mp hz with h1 | h1
        · exact hsk z h1
        · rw [List.mem_singleton.mp h1]; exact hs
    · intro D2 acc2 G3 H3 e3 B3 ⟨ss, hss, hsl, hsk⟩ _
      refine rd_nil ⟨D2, acc2, rfl, .inl ⟨sq_of (W.get B3), ?_⟩⟩
      refine mk_im (o := .tup acc2) W (W.drop B3) fun t G4 e4 B4 h4 => kp _ G4 _ (e3.trans e4) B4 ?_
      refine ⟨bs ++ [ss], ?_, by rw [List.length_append, hbl]; rfl, fun z hz => ?_⟩
      · rw [List.map_append]
        exact dp_snoc (DpAll.ex (e3.trans e4) _ _ hacc) (.tup (st_of h4) (DpAll.ex e4 _ _ hss))
      · rcases List.mem_append.mp hz with h1 | h1
        · exact hbs z h1
        · rw [List.mem_singleton.mp h1]; exact ⟨hsl, hsk⟩
  · intro D1 acc G2 H2 e2 B2 ⟨bs, hacc, hbl, hbs⟩ _
    obtain ⟨B3, e3⟩ := W.frz B2
    exact q D1 acc bs _ H2 (e2.trans e3) B3 upd_same (DpAll.ex e3 _ _ hacc) (by omega) hbs
/-! ### a bound of boxes -/
theorem mkB {P : Addr → Hp → Prop} {w : Int} {rest : List V} {ds : List PyData} (S : Stt G H L) (hA : DpAll K G rest ds) (h100 : ds.length ≤ 100) (hw : ∀ d, d ∈ ds → wideB d) (hg : ∀ d, d ∈ ds → isBox w d = true)
    (q : ∀ x dx tb G' H', Ex G G' → Stt G' H' L → G' x = some (.ins (cls_at K "Bound") dx (bndF w tb)) → SqT K G' tb rest → P x H') :
    ∀ x dx, H x = none → H dx = none → dx ≠ x → sp_Bound_init K (.ref x :: .int w :: rest) (upd (upd H dx (.own x)) x (.ins (cls_at K "Bound") dx [])) (fun v H2 => v = .non ∧ P x H2) E := by
  intro x dx hx hdx ne
  have S6 := S.new (o := .own x) hdx
  have e6 := S.newE (o := .own x) hdx
  have S7 := S6.mkL (p := x) (o := .ins (cls_at K "Bound") dx []) (by rw [upd_ne (Ne.symm ne)]; exact hx)
  exact ⟨x, dx, w, rest, ds, [], _, _, rfl, S7, by rw [List.append_nil]; exact DpAll.ex e6 _ _ hA, by rw [List.append_nil]; exact h100, by rw [List.append_nil]; exact hw, hg, .inl ⟨rfl, fun tb G8 H8 e8 S8 h8 h9 => ⟨rfl, q x dx tb G8 H8 (e6.trans e8) S8 h8 h9⟩⟩⟩
end

/-! a + b of any two lists, also such as the text holds. -/
def rCatS (K : PySem.W.Frag) : R2 := fun x y H Q => ∃ a b xs ys, x = .ref a ∧ y = .ref b ∧ SqL K H a xs ∧ SqL K H b ys ∧ xs.length + ys.length ≤ sizeLine ∧ ∀ p, H p = none → Q (.ref p) (upd H p (.lst (xs ++ ys)))
theorem op_catS {X : Cx} : OpR X (binaryOp .Add) (rCatS X.K) := by
  intro pins s σ H x y v u Q I rx ry h; obtain ⟨a, b, xs, ys, rfl, rfl, ha, hb, hz, q⟩ := h
  cases rx
  cases ry
  obtain ⟨its, r1, ⟨⟨c1, d1, t1, s1⟩, n1, e1, h1, h2, h3⟩, _⟩ := I.list ha
  obtain ⟨jts, r2, ⟨⟨c2, d2, t2, s2⟩, n2, e2, k1, k2, k3⟩, _⟩ := I.list hb
  simp only at h1 h2 h3 k1 k2 k3
  subst h1 h2 h3 k1 k2 k3
  have l1 := r1.length
  have l2 := r2.length
  refine concat_meets ⟨_, e1, rfl⟩ ⟨_, e2, rfl⟩ noFill_list_add seq_list_add PySem.F.slot_list_add PySem.F.entry_list_add (PySem.F.args_list_add_2 _ _) (GE.meets_addS a b its.toArray jts.toArray n1 n2 s1 s2 (by rw [List.size_toArray, List.size_toArray]; omega)) ⟨e1, e2, ?_⟩
  have ea : its.toArray ++ jts.toArray = (its ++ jts).toArray := by simp
  rw [ea]
  exact ⟨.ref _, _, I.lnew (t' := s.toks) (r1.append r2) (by rw [List.length_append]; omega), rfl, q _ I.fresh⟩
theorem rd_catS {K : PySem.W.Frag} {H : Hp} {Q : VK} {a b : Addr} {xs ys : List V} (h1 : SqL K H a xs) (h2 : SqL K H b ys) (hz : xs.length + ys.length ≤ 100000) (q : ∀ p, H p = none → Q (.ref p) (upd H p (.lst (xs ++ ys)))) : rCatS K (.ref a) (.ref b) H Q := ⟨a, b, xs, ys, rfl, rfl, h1, h2, sz_of hz, q⟩

/-! Bounds joined. -/
open PySem PySem.Spec PyProof.Rows L2 Evl RZ NumText



/-- a bound of some boxes -/
def BdAt (K : PySem.W.Frag) (G : Hp) (x : Addr) (w : Nat) (bs : List BX) : Prop := (∃ dx tb us, G x = some (.ins (cls_at K "Bound") dx (bndF (w : Nat) tb)) ∧ SqT K G tb us ∧ DpAll K G us (bs.map boxD)) ∧ ∀ b, b ∈ bs → b.length = w ∧ ∀ s, s ∈ b → isSt (sD s) = true
theorem BdAt.ex {K : PySem.W.Frag} {G G' : Hp} {x : Addr} {w : Nat} {bs : List BX} (e : Ex G G') (h : BdAt K G x w bs) : BdAt K G' x w bs := by
  obtain ⟨⟨dx, tb, us, h1, h2, h3⟩, h4⟩ := h
  exact ⟨⟨dx, tb, us, e _ _ h1, ex_t e h2, DpAll.ex e _ _ h3⟩, h4⟩
theorem box_good {w : Nat} {b : BX} (h : b.length = w ∧ ∀ s, s ∈ b → isSt (sD s) = true) : isBox (w : Nat) (boxD b) = true := by
  show (decide (((b.map sD).length : Int) = (w : Nat)) && (b.map sD).all isSt) = true
  rw [List.length_map, h.1, decide_eq_true rfl, Bool.true_and]
  refine List.all_eq_true.mpr fun e he => ?_
  obtain ⟨s, hs, rfl⟩ := List.mem_map.mp he
  exact h.2 s hs
theorem dp_app2 {K : PySem.W.Frag} {H : Hp} : ∀ {ds es : List PyData} {us ws : List V}, DpAll K H us ds → DpAll K H ws es → DpAll K H (us ++ ws) (ds ++ es)
  | [], _, _, _, .nil, h => h
  | _ :: _, _, _, _, .cons h1 h2, h => .cons h1 (dp_app2 h2 h)
section
variable {K : PySem.W.Frag} [SB : BndK K] {σ : L2.St} {G H : Hp} {L : List (Addr × HO)} {Q : VK} {E : XK} {D : Ends}
/-- Bound(w, *boxes) -/
theorem mkBd {P : Addr → Hp → Prop} {w : Nat} {us : List V} {bs : List BX} (S : Stt G H L) (hA : DpAll K G us (bs.map boxD)) (h100 : bs.length ≤ 100) (w3 : w ≤ 3) (hg : ∀ b, b ∈ bs → b.length = w ∧ ∀ s, s ∈ b → isSt (sD s) = true)
    (q : ∀ x G' H', Ex G G' → Stt G' H' L → BdAt K G' x w bs → P x H') :
    ∀ x dx, H x = none → H dx = none → dx ≠ x → sp_Bound_init K (.ref x :: .int (w : Nat) :: us) (upd (upd H dx (.own x)) x (.ins (cls_at K "Bound") dx [])) (fun v H2 => v = .non ∧ P x H2) E := by
  refine mkB (w := (w : Nat)) S hA (by rw [List.length_map]; exact h100) (fun d hd => ?_) (fun d hd => ?_) fun x dx tb G' H' e' S' h1 h2 => q x G' H' e' S' ⟨⟨dx, tb, us, h1, h2, DpAll.ex e' _ _ hA⟩, hg⟩
  · obtain ⟨b, hb, rfl⟩ := List.mem_map.mp hd
    show (b.map sD).length < 1000
    rw [List.length_map, (hg b hb).1]; omega
  · obtain ⟨b, hb, rfl⟩ := List.mem_map.mp hd
    exact box_good (hg b hb)
def sp_need_width (K : PySem.W.Frag) : Sp := fun vs H Q E => ∃ a b : Int, vs = [.int a, .int b] ∧ (a = b → Q .non H) ∧ (a ≠ b → ∀ d, H d = none → E (.ref (cls_at K "OtherWidth")) (some d) (upd H d (.xd (excZ "OtherWidth"))))
def t_need_width (K : PySem.W.Frag) (E : XK) : TS :=
  (tIfS (tTest (tOp (gNe K) (tVar 0) (tVar 1))) (tRaiseZ (cls_at K "OtherWidth") "OtherWidth" E) tNext)
theorem sat_need_width {vs : List V} (h : sp_need_width K vs H Q E) : vs.length = 2 ∧ t_need_width K E { nx := fun _ H' => Q .non H', rt := Q } (vs.map some ++ List.replicate (2 - vs.length) none) H := by
  obtain ⟨a, b, rfl, q1, q2⟩ := h
  refine ⟨rfl, ?_⟩
  unfold t_need_width
  refine rd_ifs (rd_test (rd_op (rd_var rfl (rd_var rfl (rd_neI (rd_bl ?_))))))
  by_cases e : a = b
  · rw [decide_eq_true e]
    exact q1 e
  · rw [decide_eq_false e]
    refine (if_pos (show (!false) = true from rfl)).mpr ?_
    intro d hd
    exact q2 e d hd
def sp_box_common (K : PySem.W.Frag) : Sp := fun vs H Q _ => ∃ (a b : Addr) (xs ys : List V) (A B : BX) (G : Hp) (L : List (Addr × HO)), vs = [.ref a, .ref b] ∧ Stt G H L ∧ SqT K G a xs ∧ DpAll K G xs (A.map sD) ∧ SqT K G b ys ∧ DpAll K G ys (B.map sD) ∧ A.length = B.length ∧ A.length ≤ 100 ∧
  ∀ p us G' H', Ex G G' → Stt G' H' L → SqL K G' p us → DpAll K G' us ((bcs A B).map boxD) → Q (.ref p) H'
def t_box_common_1b (K : PySem.W.Frag) : TS :=
  (tAsg (tOp (gAdd K) (tVar 2) (tCall (sp_common K) [] E0 (tCons (tVar 3) (tCons (tVar 4) tNil)))) (gName 2))
def t_box_common_2 (K : PySem.W.Frag) : TS :=
  (tRet (tIf (tTest (tOp (gEq K) (tCB (gLen K) (tCons (tVar 2) tNil)) (tCB (gLen K) (tCons (tVar 0) tNil)))) (tLst (tCons (tCB (gTuple K) (tCons (tVar 2) tNil)) tNil)) (tLst tNil)))
def t_box_common_1 (K : PySem.W.Frag) : TS :=
  (tSeq (tFor (iZipA K (tCons (tVar 0) (tCons (tVar 1) tNil))) (gTup K 2 (gCons (gName 3) (gCons (gName 4) gNil))) (t_box_common_1b K))
  (t_box_common_2 K))
def t_box_common (K : PySem.W.Frag) : TS :=
  (tSeq (tAsg (tLst tNil) (gName 2))
  (t_box_common_1 K))
theorem sat_box_common {vs : List V} (h : sp_box_common K vs H Q E) : vs.length = 2 ∧ t_box_common K { nx := fun _ H' => Q .non H', rt := Q } (vs.map some ++ List.replicate (5 - vs.length) none) H := by
  obtain ⟨a, b, xs, ys, A, B, G, L, rfl, S, ha, hA, hb, hB, hAB, h100, q⟩ := h
  refine ⟨rfl, ?_⟩
  have hxl := DpAll.length hA
  have hyl := DpAll.length hB
  rw [List.length_map] at hxl hyl
  unfold t_box_common
  refine rd_seq (rd_asg (rd_lst (rd_nil ?_)))
  refine mk_lst stt_world S (Nat.zero_le _) fun p0 G1 e1 S1 h1 => rd_name ?_
  show t_box_common_1 K _ _ _
  unfold t_box_common_1
  refine rd_seq (rd_for (rd_zipA (rd_cons (rd_var rfl (rd_cons (rd_var rfl (rd_nil ⟨a, b, xs, ys, rfl, .inr ⟨ex_t (e1.trans S1.ex) ha, ex_t (e1.trans S1.ex) hb, ?_⟩⟩)))))))
  refine for_go (walk_zipT (K := K) (a := a) (b := b) (xs := xs) (ys := ys) (n := min xs.length ys.length) rfl) (G := G1)
    (fun i σ1 G4 H4 => ∃ (p : Addr) (us : List V) (x3 x4 : Option V), σ1 = [some (.ref a), some (.ref b), some (.ref p), x3, x4] ∧ Ex G1 G4 ∧ Stt G4 H4 L ∧ G4 p = some (.lst us) ∧ DpAll K G4 us ((((A.zip B).take i).filterMap fun p => cm p.1 p.2).map sD))
    ⟨p0, [], _, _, rfl, Ex.refl _, S1, h1, .nil⟩ (fun i σ1 G2 H2 _ ⟨_, _, _, _, _, e2, S2, _⟩ => ⟨ex_t (e1.trans (e2.trans S2.ex)) ha, ex_t (e1.trans (e2.trans S2.ex)) hb⟩) ?_ ?_
  · rintro i z σ1 G4 H4 H5 hi ⟨p, us, x3, x4, rfl, e4, S4, hp, hus⟩ y N hN
    obtain ⟨G5, e5, S5, T, u, v, rfl, hT, hu, hv⟩ := item_pair stt_world S4 y
    have hu : xs[i]? = some u := hu
    have hv : ys[i]? = some v := hv
    obtain ⟨d, hd, dp⟩ := DpAll.get hA hu
    obtain ⟨s, hs, rfl⟩ := get_map hd
    obtain ⟨d2, hd2, dp2⟩ := DpAll.get hB hv
    obtain ⟨t, ht, rfl⟩ := get_map hd2
    have e15 := e1.trans (e4.trans e5)
    refine rd_gtup2 (ex_t S5.ex hT) ?_
    show t_box_common_1b K _ _ _
    unfold t_box_common_1b
    refine rd_asg (rd_op (rd_var rfl (rd_call (rd_cons (rd_var rfl (rd_cons (rd_var rfl (rd_nil ?_))))))))
    refine ⟨u, v, s, t, G5, L, rfl, S5, stv_of (Dp.ex e15 _ _ dp), stv_of (Dp.ex e15 _ _ dp2), fun p2 ws G6 H6 e6 S6 hws => ?_⟩
    have hul := DpAll.length hus
    have hz : (A.zip B)[i]? = some (s, t) := by rw [List.getElem?_zip_eq_some]; exact ⟨hs, ht⟩
    have hwd : DpAll K G6 ws (((cm s t).toList).map sD) ∧ ws.length ≤ 1 := by
      cases ec : cm s t with
      | none => rw [ec] at hws; cases hws; exact ⟨.nil, Nat.zero_le _⟩
      | some r => rw [ec] at hws; obtain ⟨v2, rfl, h2⟩ := hws; exact ⟨.cons h2.dp .nil, Nat.le_refl _⟩
    refine rd_addL (S6.ex _ _ (e6 _ _ (e5 _ _ hp))) (S6.at 0 rfl) (sz_of (by
      have l1 : us.length ≤ i := by rw [hul, List.length_map]; exact Nat.le_trans (List.length_filterMap_le ..) (by rw [List.length_take]; omega)
      have l2 := hwd.2
      have l3 : i < 100 := by omega
      omega)) ?_
    refine mk_im (o := .lst (us ++ ws)) stt_world S6.drop fun p3 G7 e7 S7 h7 => rd_name ?_
    refine hN _ G7 _ ⟨p3, us ++ ws, _, _, rfl, e4.trans (e5.trans (e6.trans e7)), S7, h7, ?_⟩
    rw [List.take_add_one, hz, List.filterMap_append, List.map_append]
    have e67 := e6.trans e7
    have en : (Option.some (s, t)).toList.filterMap (fun p : SD × SD => cm p.1 p.2) = (cm s t).toList := by
      show [(s, t)].filterMap _ = _
      rw [List.filterMap_cons]
      cases cm s t <;> rfl
    rw [en]
    exact dp_app2 (DpAll.ex (e5.trans e67) _ _ hus) (DpAll.ex e7 _ _ hwd.1)
  · rintro σ1 G4 H4 ⟨p, us, x3, x4, rfl, e4, S4, hp, hus⟩
    have hz : (A.zip B).length = min xs.length ys.length := by rw [List.length_zip]; omega
    rw [← hz, List.take_length] at hus
    have hul := DpAll.length hus
    rw [List.length_map] at hul
    have hul : us.length = (bc A B).length := hul
    have le := bc_le A B
    show t_box_common_2 K _ _ _
    unfold t_box_common_2
    refine rd_ret (rd_if (rd_test (rd_op (rd_cb (rd_cons (rd_var rfl (rd_nil (rd_lenL (sq_of (S4.ex _ _ hp)) (rd_cb (rd_cons (rd_var rfl (rd_nil (rd_lenT (ex_t (e1.trans (e4.trans S4.ex)) ha) (rd_eqI (rd_bl ?_)))))))))))))))
    have edec : decide ((us.length : Int) = (xs.length : Int)) = decide ((bc A B).length = A.length) := decide_eq_decide.mpr (by omega)
    rw [edec]
    unfold bcs at q
    by_cases c : (bc A B).length = A.length
    · rw [decide_eq_true c]
      rw [if_pos c] at q
      refine rd_iT (rd_lst (rd_cons (rd_cb (rd_cons (rd_var rfl (rd_nil ⟨p, us, rfl, .inl ⟨sq_of (S4.ex _ _ hp), ?_⟩⟩))))))
      refine mk_im (o := .tup us) stt_world S4 fun t5 G5 e5 S5 h5 => rd_nil ?_
      refine mk_lst stt_world S5 (by show 1 ≤ _; decide) fun p6 G6 e6 S6 h6 => ?_
      exact q p6 [.ref t5] G6 _ (e1.trans (e4.trans (e5.trans e6))) S6 (sq_of h6) (.cons (.tup (ex_t e6 (st_of h5)) (DpAll.ex (e5.trans e6) _ _ hus)) .nil)
    · rw [decide_eq_false c]
      rw [if_neg c] at q
      refine rd_iF (rd_lst (rd_nil ?_))
      refine mk_lst stt_world S4 (Nat.zero_le _) fun p6 G6 e6 S6 h6 => ?_
      exact q p6 [] G6 _ (e1.trans (e4.trans e6)) S6 (sq_of h6) .nil
end

/-! o | o, o & o. -/
open PySem PySem.Spec PyProof.Rows L2 Evl RZ NumText LCN



theorem bcsF_len (a : BX) : ∀ bs : List BX, (bs.flatMap fun b => bcs a b).length ≤ bs.length
  | [] => Nat.le_refl _
  | b :: bs => by
    rw [List.flatMap_cons, List.length_append]
    have h1 := bcs_le a b
    have h2 := bcsF_len a bs
    show _ ≤ bs.length + 1
    omega
theorem both_len : ∀ (as bs : List BX), (both as bs).length ≤ as.length * bs.length
  | [], bs => Nat.zero_le _
  | a :: as, bs => by
    show ((bs.flatMap fun b => bcs a b) ++ both as bs).length ≤ (as.length + 1) * bs.length
    rw [List.length_append, Nat.succ_mul]
    have h1 := bcsF_len a bs
    have h2 := both_len as bs
    omega
theorem both_take {as bs : List BX} {i : Nat} {a : BX} (h : as[i]? = some a) : both (as.take (i + 1)) bs = both (as.take i) bs ++ bs.flatMap fun b => bcs a b := by
  unfold both
  rw [List.take_add_one, h, List.flatMap_append]
  show _ ++ ((bs.flatMap fun b => bcs a b) ++ []) = _
  rw [List.append_nil]
theorem bcsF_take {a b : BX} {bs : List BX} {j : Nat} (h : bs[j]? = some b) : ((bs.take (j + 1)).flatMap fun b => bcs a b) = ((bs.take j).flatMap fun b => bcs a b) ++ bcs a b := by
  rw [List.take_add_one, h, List.flatMap_append]
  show _ ++ (bcs a b ++ []) = _
  rw [List.append_nil]
section
variable {K : PySem.W.Frag} [SB : BndK K] {σ : L2.St} {G H : Hp} {L : List (Addr × HO)} {Q : VK} {E : XK} {D : Ends}
/-- what joining two bounds comes to -/
def Joins (K : PySem.W.Frag) (jo : List BX → List BX → List BX) : Sp := fun vs H Q E => ∃ (x y : Addr) (w w2 : Nat) (as bs : List BX) (G : Hp) (L : List (Addr × HO)), vs = [.ref x, .ref y] ∧ Stt G H L ∧ BdAt K G x w as ∧ BdAt K G y w2 bs ∧ w ≤ 3 ∧ as.length ≤ 9 ∧ bs.length ≤ 9 ∧
  (w = w2 → ∀ z G' H', Ex G G' → Stt G' H' L → BdAt K G' z w (jo as bs) → Q (.ref z) H') ∧
  (w ≠ w2 → ∀ dd G' H', Ex G G' → Stt G' H' L → H' dd = some (.xd (excZ "OtherWidth")) → E (.ref (cls_at K "OtherWidth")) (some dd) H')
def sp_Bound_or (K : PySem.W.Frag) : Sp := Joins K (· ++ ·)
def sp_Bound_and (K : PySem.W.Frag) : Sp := Joins K both
/-- need_width(self.width, other.width) -/
theorem rd_needW {x y dx dy tx ty : Addr} {w w2 : Nat} {σ : L2.St} {D : Ends} (h0 : σ[0]? = some (some (.ref x))) (h1 : σ[1]? = some (some (.ref y))) (S : Stt G H L) (ob : G x = some (.ins (cls_at K "Bound") dx (bndF (w : Nat) tx))) (ob2 : G y = some (.ins (cls_at K "Bound") dy (bndF (w2 : Nat) ty)))
    (qe : w ≠ w2 → ∀ dd G' H', Ex G G' → Stt G' H' L → H' dd = some (.xd (excZ "OtherWidth")) → E (.ref (cls_at K "OtherWidth")) (some dd) H') (q : w = w2 → D.nx σ H) :
    tDrop (tCall (sp_need_width K) [] E (tCons (tFld K (tVar 0) "width") (tCons (tFld K (tVar 1) "width") tNil))) D σ H := by
  refine rd_drop (rd_call (rd_cons (rd_fld (rd_var h0 (rd_Bw (S.ex _ _ ob) (rd_cons (rd_fld (rd_var h1 (rd_Bw (S.ex _ _ ob2) (rd_nil ⟨_, _, rfl, fun e => q (by omega), fun ne d hd => ?_⟩))))))))))
  exact qe (by omega) d _ _ (S.newE hd) (S.new hd) upd_same
def t_Bound_or_2 (K : PySem.W.Frag) (E : XK) : TS :=
  (tRet (StX.tMakeR (cls_at K "Bound") (sp_Bound_init K) E (tCons (tFld K (tVar 0) "width") (StX.tStar K (tVar 2) tNil))))
def t_Bound_or_1 (K : PySem.W.Frag) (E : XK) : TS :=
  (tSeq (tAsg (tOp (gAdd K) (tMeth (cls_at K "Bound") "boxes" (sp_Bound_boxes K) [] E0 (tVar 0) tNil) (tMeth (cls_at K "Bound") "boxes" (sp_Bound_boxes K) [] E0 (tVar 1) tNil)) (gName 2))
  (t_Bound_or_2 K E))
def t_Bound_or (K : PySem.W.Frag) (E : XK) : TS :=
  (tSeq (tDrop (tCall (sp_need_width K) [] E (tCons (tFld K (tVar 0) "width") (tCons (tFld K (tVar 1) "width") tNil))))
  (t_Bound_or_1 K E))
theorem sat_Bound_or {vs : List V} (h : sp_Bound_or K vs H Q E) : vs.length = 2 ∧ t_Bound_or K E { nx := fun _ H' => Q .non H', rt := Q } (vs.map some ++ List.replicate (3 - vs.length) none) H := by
  obtain ⟨x, y, w, w2, as, bs, G, L, rfl, S, ⟨⟨dx, tx, us, ob, hu, hA⟩, gA⟩, ⟨⟨dy, ty, vs, ob2, hv, hB⟩, gB⟩, w3, la, lb, q, qe⟩ := h
  refine ⟨rfl, ?_⟩
  have hul := DpAll.length hA
  have hvl := DpAll.length hB
  rw [List.length_map] at hul hvl
  unfold t_Bound_or
  refine rd_seq (rd_needW rfl rfl S ob ob2 qe fun e => ?_)
  subst e
  have q := q rfl
  show t_Bound_or_1 K E _ _ _
  unfold t_Bound_or_1
  refine rd_seq (rd_asg (rd_op (rd_meth (rd_var rfl ⟨x, _, _, rfl, S.ex _ _ ob, bndF_no _ _ (by decide +kernel) (by decide +kernel), rd_nil ⟨x, dx, tx, _, us, G, L, rfl, S, ob, hu, fun p1 H1 S1 => ?_⟩⟩))))
  refine rd_meth (rd_var rfl ⟨y, _, _, rfl, S1.ex _ _ ob2, bndF_no _ _ (by decide +kernel) (by decide +kernel), rd_nil ⟨y, dy, ty, _, vs, G, _, rfl, S1, ob2, hv, fun p2 H2 S2 => ?_⟩⟩)
  refine rd_addL (S2.at 1 rfl) (S2.at 0 rfl) (sz_of (by omega)) ?_
  refine mk_im (o := .lst (us ++ vs)) stt_world S2.drop.drop fun p3 G3 e3 S3 h3 => rd_name ?_
  show t_Bound_or_2 K E _ _ _
  unfold t_Bound_or_2
  refine rd_ret (rd_mkR ?_)
  refine rd_cons (rd_fld (rd_var rfl (rd_Bw (S3.ex _ _ (e3 _ _ ob)) ?_)))
  refine rd_var rfl ⟨p3, us ++ vs, rfl, .inr (sq_of (S3.ex _ _ h3)), rd_nil ?_⟩
  rw [List.append_nil]
  refine mkBd S3 (bs := as ++ bs) (by rw [List.map_append]; exact dp_app2 (DpAll.ex e3 _ _ hA) (DpAll.ex e3 _ _ hB)) (by rw [List.length_append]; omega) w3 (fun b hb => (List.mem_append.mp hb).elim (gA b) (gB b)) fun z G' H' e' S' hz => q z G' H' (e3.trans e') S' hz
def t_Bound_and_2 (K : PySem.W.Frag) (E : XK) : TS :=
  (tRet (StX.tMakeR (cls_at K "Bound") (sp_Bound_init K) E (tCons (tFld K (tVar 0) "width") (StX.tStar K (tVar 2) tNil))))
def t_Bound_and_1 (K : PySem.W.Frag) (E : XK) : TS :=
  (tSeq (tAsg (LCN.tLcN (iList K (tMeth (cls_at K "Bound") "boxes" (sp_Bound_boxes K) [] E0 (tVar 0) tNil)) (gName 3) tYes [⟨(iList K (tMeth (cls_at K "Bound") "boxes" (sp_Bound_boxes K) [] E0 (tVar 1) tNil)), (gName 4), tYes, [4, 5]⟩, ⟨(iList K (tCall (sp_box_common K) [] E0 (tCons (tVar 3) (tCons (tVar 4) tNil)))), (gName 5), tYes, [5]⟩] (tVar 5) [3, 4, 5]) (gName 2))
  (t_Bound_and_2 K E))
def t_Bound_and (K : PySem.W.Frag) (E : XK) : TS :=
  (tSeq (tDrop (tCall (sp_need_width K) [] E (tCons (tFld K (tVar 0) "width") (tCons (tFld K (tVar 1) "width") tNil))))
  (t_Bound_and_1 K E))
theorem sat_Bound_and {vs : List V} (h : sp_Bound_and K vs H Q E) : vs.length = 2 ∧ t_Bound_and K E { nx := fun _ H' => Q .non H', rt := Q } (vs.map some ++ List.replicate (6 - vs.length) none) H := by
  obtain ⟨x, y, w, w2, as, bs, G, L, rfl, S, ⟨⟨dx, tx, us, ob, hu, hA⟩, gA⟩, ⟨⟨dy, ty, vs, ob2, hv, hB⟩, gB⟩, w3, la, lb, q, qe⟩ := h
  refine ⟨rfl, ?_⟩
  have hul := DpAll.length hA
  have hvl := DpAll.length hB
  rw [List.length_map] at hul hvl
  unfold t_Bound_and
  refine rd_seq (rd_needW rfl rfl S ob ob2 qe fun e => ?_)
  subst e
  have q := q rfl
  show t_Bound_and_1 K E _ _ _
  unfold t_Bound_and_1
  refine rd_seq (rd_asg (rd_lcN (rd_il (rd_meth (rd_var rfl ⟨x, _, _, rfl, S.ex _ _ ob, bndF_no _ _ (by decide +kernel) (by decide +kernel), rd_nil ⟨x, dx, tx, _, us, G, L, rfl, S, ob, hu, fun p1 H1 S1 => ?_⟩⟩)))))
  have S1' := S1.frz
  have e1 := S1.frzE
  have hp1 : SqL K (upd G p1 (.lst us)) p1 us := sq_of upd_same
  refine ⟨p1, rfl, ⟨_, ex_l S1'.ex hp1⟩, ?_⟩
  refine lcN_go stt_world (walk_list (K := K) (a := p1) (xs := us)) S1' (fun i v _ => us[i]? = some v) (fun i acc G2 => DpAll K G2 acc ((both (as.take i) bs).map boxD)) (fun H' e' => ex_l e' hp1)
    (fun i x G1 H1 H2 L1 _ e1 S1 y => item_at S1 y) .nil (fun i acc Ga Gb e h => DpAll.ex e _ _ h) ?_ ?_
  · intro Dl i u acc G2 H2 hi e2 S2 hacc it Ny hNy
    have e12 := e1.trans e2
    obtain ⟨d, hd, dp⟩ := DpAll.get hA it
    obtain ⟨a, ha, rfl⟩ := get_map hd
    obtain ⟨a1, xs, rfl, ha1, hxs⟩ := box_inv (Dp.ex e12 _ _ dp)
    refine rd_name ⟨rfl, rd_yes (rd_iT ?_)⟩
    refine rd_inN (rd_il (rd_meth (rd_var rfl ⟨y, _, _, rfl, S2.ex _ _ (e12 _ _ ob2), bndF_no _ _ (by decide +kernel) (by decide +kernel), rd_nil ⟨y, dy, ty, _, vs, G2, _, rfl, S2, e12 _ _ ob2, ex_t e12 hv, fun p2 H3 S3 => ?_⟩⟩)))
    have S3' := S3.frz
    have e3 := S3.frzE
    have hp2 : SqL K (upd G2 p2 (.lst vs)) p2 vs := sq_of upd_same
    refine ⟨p2, rfl, ⟨_, ex_l S3'.ex hp2⟩, ?_⟩
    have hi9 : i < as.length := by omega
    have l1 : (both (as.take i) bs).length ≤ 81 := by
      have h := both_len (as.take i) bs
      rw [List.length_take] at h
      have h2 : min i as.length * bs.length ≤ 9 * 9 := Nat.mul_le_mul (by omega) lb
      omega
    refine inN_go stt_world (walk_list (K := K) (a := p2) (xs := vs)) S3' (fun j v _ => vs[j]? = some v) (fun j acc' G4 => DpAll K G4 acc' ((both (as.take i) bs ++ (bs.take j).flatMap fun b => bcs a b).map boxD)) (fun H' e' => ex_l e' hp2)
      (fun i x G1 H1 H2 L1 _ e1 S1 y => item_at S1 y) (by rw [List.take_zero, List.flatMap_nil, List.append_nil]; exact DpAll.ex e3 _ _ hacc) (fun i acc Ga Gb e h => DpAll.ex e _ _ h) ?_ ?_
    · intro j v acc' G4 H4 hj e4 S4 hacc' it2 Ny2 hNy2
      have e24 := e3.trans e4
      obtain ⟨d2, hd2, dp2⟩ := DpAll.get hB it2
      obtain ⟨b, hb, rfl⟩ := get_map hd2
      obtain ⟨b1, ys, rfl, hb1, hys⟩ := box_inv (Dp.ex (e12.trans e24) _ _ dp2)
      dsimp only
      refine rd_name ⟨rfl, rd_yes (rd_iT ?_)⟩
      refine rd_inN (rd_il (rd_call (rd_cons (rd_var rfl (rd_cons (rd_var rfl (rd_nil ?_)))))))
      have wa := (gA a (List.mem_of_getElem? ha)).1
      have wb := (gB b (List.mem_of_getElem? hb)).1
      refine ⟨a1, b1, xs, ys, a, b, G4, _, rfl, S4, ex_t e24 ha1, DpAll.ex e24 _ _ hxs, hb1, hys, by omega, by omega, fun p3 ws G5 H5 e5 S5 hp3 hws => ?_⟩
      refine ⟨p3, rfl, ⟨_, ex_l S5.ex hp3⟩, ?_⟩
      have hwl := DpAll.length hws
      rw [List.length_map] at hwl
      have hw1 := bcs_le a b
      refine inN_go stt_world (walk_list (K := K) (a := p3) (xs := ws)) S5 (fun k v _ => ws[k]? = some v) (fun k acc'' G6 => DpAll K G6 acc'' (((both (as.take i) bs ++ (bs.take j).flatMap fun b => bcs a b) ++ (bcs a b).take k).map boxD)) (fun H' e' => ex_l e' hp3)
        (fun i x G1 H1 H2 L1 _ e1 S1 y => item_at S1 y) (by rw [List.take_zero, List.append_nil]; exact DpAll.ex e5 _ _ hacc') (fun i acc Ga Gb e h => DpAll.ex e _ _ h) ?_ ?_
      · intro k z acc'' G6 H6 hk e6 S6 hacc'' it3 Ny3 hNy3
        obtain ⟨d3, hd3, dp3⟩ := DpAll.get hws it3
        obtain ⟨c, hc, rfl⟩ := get_map hd3
        have hal := DpAll.length hacc''
        dsimp only
        refine rd_name ⟨rfl, rd_yes (rd_iT (rd_emit (rd_var rfl ⟨acc'', S6.at 0 rfl, ?_, ?_⟩)))⟩
        · rw [hal, List.length_map, List.length_append, List.length_append, List.length_take]
          have l2 := bcsF_len a (bs.take j)
          rw [List.length_take] at l2
          rw [sizeLine_eq]
          omega
        · refine hNy3 _ G6 _ (Ex.refl _) (stt_world.set S6) ?_
          rw [List.take_add_one, hc, ← List.append_assoc, List.map_append]
          exact dp_snoc hacc'' (Dp.ex e6 _ _ dp3)
      · intro acc'' G6 H6 e6 S6 hacc''
        refine hNy2 acc'' G6 H6 (e5.trans e6) S6 ?_
        rw [bcsF_take hb, ← List.append_assoc]
        rw [show (bcs a b).take ws.length = bcs a b from List.take_of_length_le (by omega)] at hacc''
        exact hacc''
    · intro acc' G4 H4 e4 S4 hacc'
      refine hNy acc' G4 H4 (e3.trans e4) S4 ?_
      rw [both_take ha]
      rw [show bs.take vs.length = bs from List.take_of_length_le (by omega)] at hacc'
      exact hacc'
  · intro Dl acc G2 H2 e2 S2 hacc
    rw [show as.take us.length = as from List.take_of_length_le (by omega)] at hacc
    have S3 := S2.frz
    have e3 := S2.frzE
    have hDl : SqL K (upd G2 Dl (.lst acc)) Dl acc := sq_of upd_same
    have x0 := e1.trans (e2.trans e3)
    have l1 : (both as bs).length ≤ 81 := by
      have h := both_len as bs
      have h2 : as.length * bs.length ≤ 9 * 9 := Nat.mul_le_mul la lb
      omega
    refine rd_name ?_
    show t_Bound_and_2 K E _ _ _
    unfold t_Bound_and_2
    refine rd_ret (rd_mkR ?_)
    refine rd_cons (rd_fld (rd_var rfl (rd_Bw (S3.ex _ _ (x0 _ _ ob)) ?_)))
    refine rd_var rfl ⟨Dl, acc, rfl, .inr (ex_l S3.ex hDl), rd_nil ?_⟩
    rw [List.append_nil]
    exact mkBd S3 (bs := both as bs) (DpAll.ex e3 _ _ hacc) (by omega) w3 (fun b hb => both_ok (fun a ha => (gA a ha).1) hb) fun z G' H' e' S' hz => q z G' H' (x0.trans e') S' hz
end

/-! A bound read off its own text. -/
open PySem PySem.Spec PyProof.Rows L2 Evl RZ NumText



abbrev bar : List Nat := [32, 124, 32]
theorem free_bar : ∀ p : List Nat, 124 ∉ p → SX.free bar p = true
  | [], _ => rfl
  | [c], h => by
    show (!(TL.pre bar [c, 32, 124, 32]) && true) = true
    simp [TL.pre]
  | c :: d :: r, h => by
    show (!(TL.pre bar (c :: d :: (r ++ bar))) && SX.free bar (d :: r)) = true
    rw [free_bar (d :: r) fun z => h (List.mem_cons_of_mem _ z), Bool.and_true]
    have hd : d ≠ 124 := fun z => h (by rw [z]; exact List.mem_cons_of_mem _ (List.mem_cons_self ..))
    cases r with
    | nil => simp [TL.pre, hd]
    | cons e r => simp [TL.pre, hd]
theorem spl_last : ∀ (p acc : List Nat), 124 ∉ p → TL.spl bar 0 acc p = [acc ++ p]
  | [], acc, _ => by rw [TL.spl_nil, List.append_nil]
  | c :: r, acc, h => by
    have no : TL.pre bar (c :: r) = false := by
      cases e : TL.pre bar (c :: r) with
      | false => rfl
      | true =>
        have e := beq_iff_eq.mp (show ((c :: r).take 3 == bar) = true from e)
        have m : 124 ∈ (c :: r).take 3 := by rw [e]; decide
        exact absurd (List.mem_of_mem_take m) h
    rw [TL.spl_miss no, spl_last r (acc ++ [c]) fun z => h (List.mem_cons_of_mem _ z), List.append_assoc]
    rfl
theorem spl_rows : ∀ rows : List (List Nat), rows ≠ [] → (∀ p, p ∈ rows → 124 ∉ p) → TL.spl bar 0 [] (TL.joinL bar rows) = rows
  | [], h, _ => absurd rfl h
  | [p], _, h => spl_last p [] (h p (List.mem_cons_self ..))
  | p :: q :: rs, _, h => by
    show TL.spl bar 0 [] (p ++ (bar ++ TL.joinL bar (q :: rs))) = _
    rw [SX.spl_free _ (List.cons_ne_nil _ _) (free_bar p (h p (List.mem_cons_self ..))), spl_rows (q :: rs) (List.cons_ne_nil _ _) fun x hx => h x (List.mem_cons_of_mem _ hx)]
/-- signs that no stretch's text holds -/
theorem sideL_no {c : Nat} (h : c < 45 ∨ 57 < c) : ∀ o : Option Int, c ∉ sideL o
  | none => fun h => nomatch h
  | some i => intL_free (by omega)
theorem stL_no {c : Nat} (h : c < 45 ∨ 57 < c) (h2 : c ≠ 95) : ∀ s : SD, c ∉ stL s
  | none => fun z => h2 (List.mem_singleton.mp z)
  | some (a, b) => fun z => by
    have z : c ∈ sideL a ++ ([46, 46] ++ sideL b) := z
    rcases List.mem_append.mp z with z | z
    · exact sideL_no h a z
    · rcases List.mem_append.mp z with z | z
      · have : c = 46 := by simpa using z
        omega
      · exact sideL_no h b z
theorem joinL_no {c : Nat} {z : List Nat} (hz : c ∉ z) : ∀ ws : List (List Nat), (∀ w, w ∈ ws → c ∉ w) → c ∉ TL.joinL z ws
  | [], _ => fun h => nomatch h
  | [w], hw => hw w (List.mem_cons_self ..)
  | w :: v :: ws, hw => fun h => by
    have h : c ∈ w ++ (z ++ TL.joinL z (v :: ws)) := h
    rcases List.mem_append.mp h with g | g
    · exact hw w (List.mem_cons_self ..) g
    · rcases List.mem_append.mp g with g | g
      · exact hz g
      · exact joinL_no hz (v :: ws) (fun x hx => hw x (List.mem_cons_of_mem _ hx)) g
theorem boxL_no {c : Nat} (h : c < 45 ∨ 57 < c) (h2 : c ≠ 95) (h3 : c ≠ 32) (b : BX) : c ∉ boxL b := joinL_no (fun z => h3 (List.mem_singleton.mp z)) _ fun w hw => by
  obtain ⟨s, _, rfl⟩ := List.mem_map.mp hw
  exact stL_no h h2 s
theorem bnd_none {bs : List BX} : decide (bndL bs = [110, 111, 110, 101]) = decide (bs = []) := by
  refine decide_eq_decide.mpr ⟨fun h => ?_, fun h => by rw [h]; rfl⟩
  by_cases e : bs = []
  · exact e
  · exfalso
    have no : 110 ∉ bndL bs := by
      unfold bndL
      rw [if_neg e]
      refine joinL_no (by decide) _ fun w hw => ?_
      obtain ⟨b, _, rfl⟩ := List.mem_map.mp hw
      exact boxL_no (by omega) (by omega) (by omega) b
    rw [h] at no
    exact no (by decide)
/-- the text's rows, a row's words -/
theorem split_rows {bs : List BX} (h : bs ≠ []) : Txt.split (SX.S (bndL bs)) (" | " : Str) = (bs.map boxL).map SX.S := by
  have e : Txt.split (SX.S (bndL bs)) (" | " : Str) = (TL.spl bar 0 [] (bndL bs)).map SX.S := SX.split_S (b := bar) (List.cons_ne_nil _ _) rfl
  rw [e]
  unfold bndL
  rw [if_neg h, spl_rows _ (fun z => h (List.map_eq_nil_iff.mp z)) fun p hp => by
    obtain ⟨b, _, rfl⟩ := List.mem_map.mp hp
    exact boxL_no (by omega) (by omega) (by omega) b]
theorem split_words {b : BX} (h : b ≠ []) : Txt.split (SX.S (boxL b)) (" " : Str) = (b.map stL).map SX.S := by
  have e : Txt.split (SX.S (boxL b)) (" " : Str) = (TL.spl [32] 0 [] (boxL b)).map SX.S := SX.split_S (b := [32]) (List.cons_ne_nil _ _) rfl
  rw [e]
  unfold boxL
  rw [SX.spl_join (c := 32) (sep := []) (fun z => h (List.map_eq_nil_iff.mp z)) fun p hp => by
    obtain ⟨s, _, rfl⟩ := List.mem_map.mp hp
    exact stL_no (by omega) (by omega) s]
theorem rd_own {s : SD} (h : isSt (sD s) = true) : rdOf (.str (SX.S (stL s))) = some s := by
  have e : rdOf (.str (SX.S (stL s))) = rdSt (stL s) := rfl
  rw [e]
  refine rdSt_stL s fun a b es => ?_
  subst es
  have h : (isVal (oD a) && isVal (oD b) && leV (oD a) (oD b)) = true := h
  rw [Bool.and_eq_true] at h
  exact h.2
section
variable {K : PySem.W.Frag} [SB : BndK K] {σ : L2.St} {G H : Hp} {L : List (Addr × HO)} {Q : VK} {E : XK} {D : Ends}
/-- boxes that may be told and read again -/
def BxOk (w : Nat) (bs : List BX) : Prop := ∀ b, b ∈ bs → (b.length = w ∧ ∀ s, s ∈ b → isSt (sD s) = true) ∧ ∀ s, s ∈ b → stBd s
def sp_read_bound (K : PySem.W.Frag) : Sp := fun vs H Q _ => ∃ (w : Nat) (bs : List BX) (G : Hp) (L : List (Addr × HO)), vs = [.int (w : Nat), .str (SX.S (bndL bs))] ∧ Stt G H L ∧ 1 ≤ w ∧ w ≤ 3 ∧ bs.length ≤ 9 ∧ BxOk w bs ∧
  ∀ x G' H', Ex G G' → Stt G' H' L → BdAt K G' x w bs → Q (.ref x) H'
def t_read_bound_3b (K : PySem.W.Frag) : TS :=
  (tDrop (tCall (sp_need_width K) [] E0 (tCons (tVar 0) (tCons (tCB (gLen K) (tCons (tVar 3) tNil)) tNil))))
def t_read_bound_4 (K : PySem.W.Frag) : TS :=
  (tRet (StX.tMakeR (cls_at K "Bound") (sp_Bound_init K) E0 (tCons (tVar 0) (StX.tStar K (tVar 2) tNil))))
def t_read_bound_3 (K : PySem.W.Frag) : TS :=
  (tSeq (tFor (iList K (tVar 2)) (gName 3) (t_read_bound_3b K))
  (t_read_bound_4 K))
def t_read_bound_2 (K : PySem.W.Frag) : TS :=
  (tSeq (tAsg (tLc (iList K (tBM K "str" rSplit (tVar 1) (tCons (tC (.str " | ")) tNil))) (gName 4) tYes (tCB (gTuple K) (tCons (tLc (iList K (tBM K "str" rSplit (tVar 4) (tCons (tC (.str " ")) tNil))) (gName 5) tYes (tCall (sp_read_stretch K) [] E0 (tCons (tVar 5) tNil)) [5]) tNil)) [4]) (gName 2))
  (t_read_bound_3 K))
def t_read_bound_1 (K : PySem.W.Frag) : TS :=
  (tSeq (tIfS (tTest (tOp (gEq K) (tVar 1) (tC (.str "none")))) (tRet (StX.tMakeR (cls_at K "Bound") (sp_Bound_init K) E0 (tCons (tVar 0) tNil))) tNext)
  (t_read_bound_2 K))
def t_read_bound (K : PySem.W.Frag) : TS :=
  (tSeq (tIfS (tNot (tB (tCB (gIsi K) (tCons (tVar 1) (tCons (tC (.ty "str")) tNil))))) tNo tNext)
  (t_read_bound_1 K))
/-- row.split(" "), read word by word -/
theorem rd_words {b : BX} {w : Nat} (S : Stt G H L) (w1 : 1 ≤ w) (w3 : w ≤ 3) (hb : (b.length = w ∧ ∀ s, s ∈ b → isSt (sD s) = true) ∧ ∀ s, s ∈ b → stBd s) {a0 a1 a2 a3 a5 : Option V}
    (q : ∀ t G' H', Ex G G' → Stt G' H' L → Dp K G' (.ref t) (boxD b) → Q (.ref t) H') :
    tCB (gTuple K) (tCons (tLc (iList K (tBM K "str" rSplit (tVar 4) (tCons (tC (.str " ")) tNil))) (gName 5) tYes (tCall (sp_read_stretch K) [] E0 (tCons (tVar 5) tNil)) [5]) tNil) [a0, a1, a2, a3, some (.str (SX.S (boxL b))), a5] H Q := by
  have sl := boxL_len (b := b) ⟨by omega, hb.2⟩
  refine rd_cb (rd_cons (rd_lc (rd_il (rd_bm (rd_var rfl ⟨rfl, rd_cons (rd_c (rd_nil ⟨_, _, rfl, rfl, rfl, by rw [SX.S_len]; exact sz_of (by omega), ?_⟩))⟩)))))
  intro p hp
  rw [split_words (fun z => by rw [z] at hb; have := hb.1.1; simp at this; omega)]
  have S1 := stt_world.new (o := .lst (((b.map stL).map SX.S).map V.str)) S hp
  have e1 := stt_world.newE (o := .lst (((b.map stL).map SX.S).map V.str)) S hp
  have hp1 : SqL K (upd G p (.lst (((b.map stL).map SX.S).map V.str))) p (((b.map stL).map SX.S).map V.str) := sq_of upd_same
  refine ⟨p, rfl, ⟨_, ex_l S1.ex hp1⟩, ?_⟩
  refine lc_go stt_world (walk_list (K := K) (a := p) (xs := ((b.map stL).map SX.S).map V.str)) S1 (by rw [List.length_map, List.length_map, List.length_map]; omega) (fun i v _ => (((b.map stL).map SX.S).map V.str)[i]? = some v) (fun i acc G' => DpAll K G' acc ((b.take i).map sD)) (fun H' e' => ex_l e' hp1)
    (fun i x G1 H1 H2 L1 _ e1 S1 y => item_at S1 y) .nil (fun _ _ _ _ e' h => DpAll.ex e' _ _ h) ?_ ?_
  · intro D' i y acc G2 H2 hi _ e2 S2 I2 it Kp Sk kp sk
    rw [List.getElem?_map, List.getElem?_map, List.getElem?_map] at it
    cases hu : b[i]? with
    | none => rw [hu] at it; cases it
    | some s =>
      rw [hu] at it
      obtain rfl : V.str (SX.S (stL s)) = y := Option.some.inj it
      have hs := List.mem_of_getElem? hu
      have l1 := stL_len (hb.2 s hs)
      refine rd_name ⟨rfl, rd_yes (rd_iT (rd_call (rd_cons (rd_var rfl (rd_nil ?_)))))⟩
      refine ⟨_, .str (SX.S (stL s)), G2, _, rfl, S2, .str _, fun z ez => ?_, fun s' es v G3 H3 e3 S3 hv => kp v G3 H3 e3 S3 ?_, fun e => ?_⟩
      · injection ez with ez
        rw [← ez]
        show (stL s).length ≤ 300
        omega
      · rw [rd_own (hb.1.2 s hs)] at es
        cases es
        rw [List.take_add_one, hu, List.map_append]
        exact dp_snoc (DpAll.ex e3 _ _ I2) hv.dp
      · rw [rd_own (hb.1.2 s hs)] at e; cases e
  · intro D' acc G2 H2 e2 S2 I2 _
    rw [show b.take ((((b.map stL).map SX.S).map V.str).length) = b from List.take_of_length_le (by rw [List.length_map, List.length_map, List.length_map]; omega)] at I2
    refine rd_nil ⟨D', acc, rfl, .inl ⟨sq_of (S2.at 0 rfl), ?_⟩⟩
    exact mk_im (o := .tup acc) stt_world S2.drop fun t G4 e4 S4 h4 => q t G4 _ (e1.trans (e2.trans e4)) S4 (.tup (st_of h4) (DpAll.ex e4 _ _ I2))
theorem sat_read_bound {vs : List V} (h : sp_read_bound K vs H Q E) : vs.length = 2 ∧ t_read_bound K { nx := fun _ H' => Q .non H', rt := Q } (vs.map some ++ List.replicate (6 - vs.length) none) H := by
  obtain ⟨w, bs, G, L, rfl, S, w1, w3, l9, ok, q⟩ := h
  refine ⟨rfl, ?_⟩
  have sm : ∀ b, b ∈ bs → smallB b := fun b hb => ⟨by rw [(ok b hb).1.1]; exact w3, (ok b hb).2⟩
  have tl := bndL_len (by omega) sm
  unfold t_read_bound
  walk_at "gs"
  unfold t_read_bound_1
  refine rd_seq (rd_ifs (rd_test (rd_op (rd_var rfl (rd_c (rd_eqS (rd_bl ?_)))))))
  rw [S_dec]
  show if decide (bndL bs = [110, 111, 110, 101]) = true then _ else _
  rw [bnd_none]
  refine rd_dec (fun e => ?_) (fun ne => ?_)
  · subst e
    refine rd_ret (rd_mkR (rd_cons (rd_var rfl (rd_nil ?_))))
    exact mkBd S (us := []) (bs := []) .nil (Nat.zero_le _) w3 (fun b hb => by cases hb) fun x G' H' e' S' hx => q x G' H' e' S' hx
  refine rd_next ?_
  show t_read_bound_2 K _ _ _
  unfold t_read_bound_2
  refine rd_seq (rd_asg (rd_lc (rd_il (rd_bm (rd_var rfl ⟨rfl, rd_cons (rd_c (rd_nil ⟨_, _, rfl, rfl, rfl, by rw [SX.S_len]; exact sz_of (by omega), ?_⟩))⟩)))))
  intro p hp
  rw [split_rows ne]
  have S1 := stt_world.new (o := .lst (((bs.map boxL).map SX.S).map V.str)) S hp
  have e1 := stt_world.newE (o := .lst (((bs.map boxL).map SX.S).map V.str)) S hp
  have hp1 : SqL K (upd G p (.lst (((bs.map boxL).map SX.S).map V.str))) p (((bs.map boxL).map SX.S).map V.str) := sq_of upd_same
  refine ⟨p, rfl, ⟨_, ex_l S1.ex hp1⟩, ?_⟩
  refine lc_go stt_world (walk_list (K := K) (a := p) (xs := ((bs.map boxL).map SX.S).map V.str)) S1 (by rw [List.length_map, List.length_map, List.length_map]; omega) (fun i v _ => (((bs.map boxL).map SX.S).map V.str)[i]? = some v) (fun i acc G' => DpAll K G' acc ((bs.take i).map boxD)) (fun H' e' => ex_l e' hp1)
    (fun i x G1 H1 H2 L1 _ e1 S1 y => item_at S1 y) .nil (fun _ _ _ _ e' h => DpAll.ex e' _ _ h) ?_ ?_
  · intro D' i y acc G2 H2 hi _ e2 S2 I2 it Kp Sk kp sk
    rw [List.getElem?_map, List.getElem?_map, List.getElem?_map] at it
    cases hu : bs[i]? with
    | none => rw [hu] at it; cases it
    | some b =>
      rw [hu] at it
      obtain rfl : V.str (SX.S (boxL b)) = y := Option.some.inj it
      refine rd_name ⟨rfl, rd_yes (rd_iT ?_)⟩
      refine rd_words S2 w1 w3 (ok b (List.mem_of_getElem? hu)) fun t G3 H3 e3 S3 ht => kp _ G3 H3 e3 S3 ?_
      rw [List.take_add_one, hu, List.map_append]
      exact dp_snoc (DpAll.ex e3 _ _ I2) ht
  · intro D1 acc G2 H2 e2 S2 I2 _
    rw [show bs.take ((((bs.map boxL).map SX.S).map V.str).length) = bs from List.take_of_length_le (by rw [List.length_map, List.length_map, List.length_map]; omega)] at I2
    have S3 := S2.frz
    have e3 := S2.frzE
    have hD : SqL K (upd G2 D1 (.lst acc)) D1 acc := sq_of upd_same
    have hA := DpAll.ex e3 _ _ I2
    have hal := DpAll.length hA
    rw [List.length_map] at hal
    have x0 := e1.trans (e2.trans e3)
    generalize upd G2 D1 (.lst acc) = G3 at *
    refine rd_name ?_
    show t_read_bound_3 K _ _ _
    unfold t_read_bound_3
    refine rd_seq (rd_for (rd_il (rd_var rfl ⟨D1, rfl, ⟨_, ex_l S3.ex hD⟩, ?_⟩)))
    refine for_go (walk_list (K := K) (a := D1) (xs := acc)) (G := G3)
      (fun i σ1 G4 H4 => ∃ x3 x4 x5, σ1 = [some (.int (w : Nat)), some (.str (SX.S (bndL bs))), some (.ref D1), x3, x4, x5] ∧ G4 = G3 ∧ Stt G4 H4 L)
      ⟨_, _, _, rfl, rfl, S3⟩ (fun i σ1 G2 H2 _ ⟨_, _, _, _, e4, S4⟩ => by subst e4; exact ex_l S4.ex hD) ?_ ?_
    · rintro i v σ1 G4 H4 H5 hi ⟨x3, x4, x5, rfl, rfl, S4⟩ y N hN
      obtain ⟨rfl, hv⟩ := y
      obtain ⟨d, hd, dp⟩ := DpAll.get hA hv
      obtain ⟨b, hb, rfl⟩ := get_map hd
      obtain ⟨a, xs, rfl, ha, hxs⟩ := box_inv dp
      have hxl := DpAll.length hxs
      rw [List.length_map] at hxl
      have hw := (ok b (List.mem_of_getElem? hb)).1.1
      refine rd_name ?_
      show t_read_bound_3b K _ _ _
      unfold t_read_bound_3b
      refine rd_drop (rd_call (rd_cons (rd_var rfl (rd_cons (rd_cb (rd_cons (rd_var rfl (rd_nil (rd_lenT (ex_t S4.ex ha) (rd_nil ⟨_, _, rfl, fun e => ?_, fun z => absurd (show ((w : Nat) : Int) = (xs.length : Int) by omega) z⟩))))))))))
      exact hN _ _ _ ⟨_, _, _, rfl, rfl, S4⟩
    · rintro σ1 G4 H4 ⟨x3, x4, x5, rfl, rfl, S4⟩
      show t_read_bound_4 K _ _ _
      unfold t_read_bound_4
      refine rd_ret (rd_mkR ?_)
      refine rd_cons (rd_var rfl ?_)
      refine rd_var rfl ⟨D1, acc, rfl, .inr (ex_l S4.ex hD), rd_nil ?_⟩
      rw [List.append_nil]
      exact mkBd S4 (bs := bs) hA (by omega) w3 (fun b hb => (ok b hb).1) fun x G' H' e' S' hx => q x G' H' (x0.trans e') S' hx
def sp_Bound_read (K : PySem.W.Frag) : Sp := sp_read_bound K
def t_Bound_read (K : PySem.W.Frag) : TS :=
  (tRet (tCall (sp_read_bound K) [] E0 (tCons (tVar 0) (tCons (tVar 1) tNil))))
theorem sat_Bound_read {vs : List V} (h : sp_Bound_read K vs H Q E) : vs.length = 2 ∧ t_Bound_read K { nx := fun _ H' => Q .non H', rt := Q } (vs.map some ++ List.replicate (2 - vs.length) none) H := by
  obtain ⟨w, bs, G, L, rfl, rest⟩ := h
  refine ⟨rfl, ?_⟩
  unfold t_Bound_read
  exact rd_ret (rd_call (rd_cons (rd_var rfl (rd_cons (rd_var rfl (rd_nil ⟨w, bs, G, L, rfl, rest⟩))))))
end

/-! What boxes lose by others; keys told by few values. -/
open PySem PySem.Spec PyProof.Rows L2 Evl RZ NumText
def ltO (a : Option Int) (l : Int) : Bool := match a with
  | none => true
  | some x => decide (x < l)
def gtO (b : Option Int) (h : Int) : Bool := match b with
  | none => true
  | some y => decide (h < y)
def ptLo (a lo : Option Int) : List SD := match lo with
  | none => []
  | some l => if ltO a l = true then [some (a, some (l - 1))] else []
def ptHi (b hi : Option Int) : List SD := match hi with
  | none => []
  | some h => if gtO b h = true then [some (some (h + 1), b)] else []
/-- the parts of a stretch that another one has not -/
def stM (s t : SD) : List SD := match cm s t with
  | none => [s]
  | some u => match s, u with
    | some (a, b), some (lo, hi) => ptLo a lo ++ ptHi b hi
    | _, _ => []
theorem ptLo_val (a lo : Option Int) (v : Int) : (ptLo a lo).any (fun p => inS p (some v)) = (loV a v && !loV lo v) := by
  rcases lo with _ | l
  · show false = (loV a v && !true)
    rw [Bool.not_true, Bool.and_false]
  · show (if ltO a l = true then [(some (a, some (l - 1)) : SD)] else []).any _ = (loV a v && !decide (l ≤ v))
    rcases a with _ | x
    · show ((true && decide (v ≤ l - 1)) || false) = (true && !decide (l ≤ v))
      rw [Bool.or_false, Bool.true_and, Bool.true_and, ← decide_not]; exact decide_eq_decide.mpr (by omega)
    · by_cases e : x < l
      · rw [if_pos (show ltO (some x) l = true from decide_eq_true e)]
        show ((decide (x ≤ v) && decide (v ≤ l - 1)) || false) = (decide (x ≤ v) && !decide (l ≤ v))
        rw [Bool.or_false, ← decide_not, ← Bool.decide_and, ← Bool.decide_and]; exact decide_eq_decide.mpr (by omega)
      · rw [if_neg (show ¬ ltO (some x) l = true from fun z => e (of_decide_eq_true z))]
        show false = (decide (x ≤ v) && !decide (l ≤ v))
        rw [← decide_not, ← Bool.decide_and]; exact (decide_eq_false (by omega)).symm
theorem ptHi_val (b hi : Option Int) (v : Int) : (ptHi b hi).any (fun p => inS p (some v)) = (hiV b v && !hiV hi v) := by
  rcases hi with _ | h
  · show false = (hiV b v && !true)
    rw [Bool.not_true, Bool.and_false]
  · show (if gtO b h = true then [(some (some (h + 1), b) : SD)] else []).any _ = (hiV b v && !decide (v ≤ h))
    rcases b with _ | y
    · show ((decide (h + 1 ≤ v) && true) || false) = (true && !decide (v ≤ h))
      rw [Bool.or_false, Bool.and_true, Bool.true_and, ← decide_not]; exact decide_eq_decide.mpr (by omega)
    · by_cases e : h < y
      · rw [if_pos (show gtO (some y) h = true from decide_eq_true e)]
        show ((decide (h + 1 ≤ v) && decide (v ≤ y)) || false) = (decide (v ≤ y) && !decide (v ≤ h))
        rw [Bool.or_false, ← decide_not, ← Bool.decide_and, ← Bool.decide_and]; exact decide_eq_decide.mpr (by omega)
      · rw [if_neg (show ¬ gtO (some y) h = true from fun z => e (of_decide_eq_true z))]
        show false = (decide (v ≤ y) && !decide (v ≤ h))
        rw [← decide_not, ← Bool.decide_and]; exact (decide_eq_false (by omega)).symm
theorem ptLo_non (a lo : Option Int) : (ptLo a lo).any (fun p => inS p none) = false := by
  rcases lo with _ | l
  · rfl
  · show (if ltO a l = true then [(some (a, some (l - 1)) : SD)] else []).any _ = false
    split <;> rfl
theorem ptHi_non (b hi : Option Int) : (ptHi b hi).any (fun p => inS p none) = false := by
  rcases hi with _ | l
  · rfl
  · show (if gtO b l = true then [(some (some (l + 1), b) : SD)] else []).any _ = false
    split <;> rfl
/-- what two stretches with sides share -/
theorem cm_cases (a b c d : Option Int) : (cm (some (a, b)) (some (c, d)) = none) ∨ (cm (some (a, b)) (some (c, d)) = some (some (cmLo a c, cmHi b d)) ∧ ∀ v, (loV (cmLo a c) v || hiV (cmHi b d) v) = true) := by
  have e : cm (some (a, b)) (some (c, d)) = match cmLo a c, cmHi b d with
    | some x, some y => if y < x then none else some (some (some x, some y))
    | x, y => some (some (x, y)) := rfl
  rw [e]
  generalize cmLo a c = lo
  generalize cmHi b d = hi
  rcases lo with _ | lo <;> rcases hi with _ | hi
  · exact .inr ⟨rfl, fun v => rfl⟩
  · exact .inr ⟨rfl, fun v => rfl⟩
  · exact .inr ⟨rfl, fun v => Bool.or_true _⟩
  · by_cases h : hi < lo
    · exact .inl (by simp only [if_pos h])
    · refine .inr ⟨by simp only [if_neg h], fun v => ?_⟩
      show (decide (lo ≤ v) || decide (v ≤ hi)) = true
      rw [← Bool.decide_or]; exact decide_eq_true (by omega)
theorem stM_val (s t : SD) (v : Option Int) : (stM s t).any (fun p => inS p v) = (inS s v && !inS t v) := by
  rcases s with _ | ⟨a, b⟩
  · rcases t with _ | ⟨c, d⟩ <;> cases v <;> rfl
  · rcases t with _ | ⟨c, d⟩
    · cases v
      · rfl
      · show (inS (some (a, b)) (some _) || false) = (inS (some (a, b)) (some _) && !false)
        rw [Bool.or_false, Bool.not_false, Bool.and_true]
    · have hv := cm_val (some (a, b)) (some (c, d)) v
      rcases cm_cases a b c d with e | ⟨e, k⟩
      · unfold stM
        rw [e] at hv ⊢
        show (inS (some (a, b)) v || false) = _
        revert hv
        show false = _ → _
        cases inS (some (a, b)) v <;> cases inS (some (c, d)) v <;> decide
      · unfold stM
        rw [e]
        show (ptLo a (cmLo a c) ++ ptHi b (cmHi b d)).any _ = _
        rw [List.any_append]
        cases v with
        | none => rw [ptLo_non, ptHi_non]; rfl
        | some v =>
          rw [ptLo_val, ptHi_val]
          have k := k v
          rw [lo_cm, hi_cm] at k ⊢
          show _ = ((loV a v && hiV b v) && !(loV c v && hiV d v))
          revert k
          cases loV a v <;> cases hiV b v <;> cases loV c v <;> cases hiV d v <;> decide
theorem ptLo_good {a lo : Option Int} {p : SD} (h : p ∈ ptLo a lo) : isSt (sD p) = true := by
  rcases lo with _ | l
  · cases h
  · have h : p ∈ (if ltO a l = true then [(some (a, some (l - 1)) : SD)] else []) := h
    by_cases e : ltO a l = true
    · rw [if_pos e] at h
      rw [List.mem_singleton.mp h]
      refine isSt_ok _ fun a' b' x y es ea eb => ?_
      cases es; cases eb
      subst ea
      have : x < l := of_decide_eq_true e
      omega
    · rw [if_neg e] at h; cases h
theorem ptHi_good {b hi : Option Int} {p : SD} (h : p ∈ ptHi b hi) : isSt (sD p) = true := by
  rcases hi with _ | l
  · cases h
  · have h : p ∈ (if gtO b l = true then [(some (some (l + 1), b) : SD)] else []) := h
    by_cases e : gtO b l = true
    · rw [if_pos e] at h
      rw [List.mem_singleton.mp h]
      refine isSt_ok _ fun a' b' x y es ea eb => ?_
      cases es; cases ea
      subst eb
      have : l < y := of_decide_eq_true e
      omega
    · rw [if_neg e] at h; cases h
theorem ptLo_len (a lo : Option Int) : (ptLo a lo).length ≤ 1 := by
  rcases lo with _ | l
  · exact Nat.zero_le _
  · show (if ltO a l = true then [(some (a, some (l - 1)) : SD)] else []).length ≤ 1
    split
    · exact Nat.le_refl _
    · exact Nat.zero_le _
theorem ptHi_len (b hi : Option Int) : (ptHi b hi).length ≤ 1 := by
  rcases hi with _ | l
  · exact Nat.zero_le _
  · show (if gtO b l = true then [(some (some (l + 1), b) : SD)] else []).length ≤ 1
    split
    · exact Nat.le_refl _
    · exact Nat.zero_le _
theorem stM_good {s t p : SD} (hs : isSt (sD s) = true) (h : p ∈ stM s t) : isSt (sD p) = true := by
  unfold stM at h
  cases e : cm s t with
  | none =>
    rw [e] at h
    rw [List.mem_singleton.mp h]; exact hs
  | some u =>
    rw [e] at h
    rcases s with _ | ⟨a, b⟩
    · cases h
    · rcases u with _ | ⟨lo, hi⟩
      · cases h
      · exact (List.mem_append.mp h).elim ptLo_good ptHi_good
theorem stM_len (s t : SD) : (stM s t).length ≤ 2 := by
  unfold stM
  cases cm s t with
  | none => show 1 ≤ 2; decide
  | some u =>
    rcases s with _ | ⟨a, b⟩
    · exact Nat.zero_le _
    · rcases u with _ | ⟨lo, hi⟩
      · exact Nat.zero_le _
      · show (ptLo a lo ++ ptHi b hi).length ≤ 2
        have h1 := ptLo_len a lo
        have h2 := ptHi_len b hi
        rw [List.length_append]
        omega
/-! ### boxes -/
def cmD (s t : SD) : SD := (cm s t).getD none
def bxP : BX → BX → List BX
  | s :: a, t :: b => (stM s t).map (· :: a) ++ (bxP a b).map (cmD s t :: ·)
  | _, _ => []
/-- the boxes that a box keeps by another one -/
def bxM (a b : BX) : List BX := if bcs a b = [] then [a] else bxP a b
theorem bcs_nil {a b : BX} : bcs a b = [] ↔ ¬ (bc a b).length = a.length := by
  unfold bcs
  by_cases h : (bc a b).length = a.length
  · rw [if_pos h]
    exact ⟨fun z => (by cases z), fun z => absurd h z⟩
  · rw [if_neg h]
    exact ⟨fun _ => h, fun _ => rfl⟩
theorem bc_full {s t : SD} {a b : BX} (h : (bc (s :: a) (t :: b)).length = (s :: a).length) : (∃ u, cm s t = some u) ∧ (bc a b).length = a.length := by
  have le := bc_le a b
  rw [bc_cons, List.length_append, List.length_cons] at h
  cases e : cm s t with
  | none =>
    rw [e] at h
    have h : 0 + (bc a b).length = a.length + 1 := h
    omega
  | some u =>
    rw [e] at h
    have h : 1 + (bc a b).length = a.length + 1 := h
    exact ⟨⟨u, rfl⟩, by omega⟩
theorem any_and {α : Type} (c : Bool) (f : α → Bool) : ∀ l : List α, l.any (fun x => f x && c) = (l.any f && c)
  | [] => by cases c <;> rfl
  | x :: l => by rw [List.any_cons, List.any_cons, any_and c f l, Bool.and_or_distrib_right]
theorem any_andl {α : Type} (c : Bool) (f : α → Bool) : ∀ l : List α, l.any (fun x => c && f x) = (c && l.any f)
  | [] => by cases c <;> rfl
  | x :: l => by rw [List.any_cons, List.any_cons, any_andl c f l, Bool.and_or_distrib_left]
theorem bxP_val : ∀ (a b : BX) (os : List (Option Int)), a.length = os.length → b.length = os.length → (bc a b).length = a.length → (bxP a b).any (fun x => inBx x os) = (inBx a os && !inBx b os)
  | [], [], [], _, _, _ => rfl
  | s :: a, t :: b, o :: os, h1, h2, h => by
    obtain ⟨⟨u, hu⟩, hb⟩ := bc_full h
    have ih := bxP_val a b os (Nat.succ.inj h1) (Nat.succ.inj h2) hb
    have hv := cm_val s t o
    rw [hu] at hv
    have hv : inS u o = (inS s o && inS t o) := hv
    show ((stM s t).map (· :: a) ++ (bxP a b).map (cmD s t :: ·)).any _ = ((inS s o && inBx a os) && !(inS t o && inBx b os))
    rw [List.any_append, List.any_map, List.any_map]
    have e1 : (stM s t).any ((fun x => inBx x (o :: os)) ∘ (· :: a)) = ((stM s t).any (fun p => inS p o) && inBx a os) := any_and (inBx a os) (fun p => inS p o) (stM s t)
    have e2 : (bxP a b).any ((fun x => inBx x (o :: os)) ∘ (cmD s t :: ·)) = (inS (cmD s t) o && (bxP a b).any fun x => inBx x os) := any_andl (inS (cmD s t) o) (fun x => inBx x os) (bxP a b)
    rw [e1, e2, ih, stM_val, show cmD s t = u from by unfold cmD; rw [hu]; rfl, hv]
    cases inS s o <;> cases inS t o <;> cases inBx a os <;> cases inBx b os <;> decide
  | [], _ :: _, [], _, h, _ => by cases h
  | _ :: _, _, [], h, _, _ => by cases h
  | [], _, _ :: _, h, _, _ => by cases h
  | _ :: _, [], _ :: _, _, h, _ => by cases h
theorem bxM_val {a b : BX} {os : List (Option Int)} (h1 : a.length = os.length) (h2 : b.length = os.length) : (bxM a b).any (fun x => inBx x os) = (inBx a os && !inBx b os) := by
  unfold bxM
  by_cases e : bcs a b = []
  · rw [if_pos e]
    have h := bcs_in h1 h2
    rw [e] at h
    have h : false = (inBx a os && inBx b os) := h
    show (inBx a os || false) = _
    revert h
    cases inBx a os <;> cases inBx b os <;> decide
  · rw [if_neg e]
    exact bxP_val a b os h1 h2 (Decidable.not_not.mp fun z => e (bcs_nil.mpr z))
/-- a box of a width, no stretch of it empty -/
abbrev GB (w : Nat) (b : BX) : Prop := b.length = w ∧ ∀ s, s ∈ b → isSt (sD s) = true
theorem bxP_good : ∀ (a b : BX), (∀ s, s ∈ a → isSt (sD s) = true) → (bc a b).length = a.length → a.length = b.length → ∀ x, x ∈ bxP a b → GB a.length x
  | [], [], _, _, _, x, h => by cases h
  | s :: a, t :: b, hs, h, hl, x, hx => by
    obtain ⟨⟨u, hu⟩, hb⟩ := bc_full h
    have ih := bxP_good a b (fun z hz => hs z (List.mem_cons_of_mem _ hz)) hb (Nat.succ.inj hl)
    rcases List.mem_append.mp (show x ∈ (stM s t).map (· :: a) ++ (bxP a b).map (cmD s t :: ·) from hx) with h | h
    · obtain ⟨p, hp, rfl⟩ := List.mem_map.mp h
      refine ⟨rfl, fun z hz => ?_⟩; rcases List.mem_cons.mp hz with rfl | hz
      · exact stM_good (hs s (List.mem_cons_self ..)) hp
      · exact hs z (List.mem_cons_of_mem _ hz)
    · obtain ⟨y, hy, rfl⟩ := (List.mem_map.mp h)
      have ⟨i1, i2⟩ := ih y hy
      refine ⟨by rw [List.length_cons, List.length_cons, i1], fun z hz => ?_⟩; rcases List.mem_cons.mp hz with rfl | hz
      · refine isSt_cm (s := s) (t := t) ?_
        unfold cmD
        rw [hu]; rfl
      · exact i2 z hz
  | [], _ :: _, _, _, h, _, _ => by cases h
  | _ :: _, [], _, _, h, _, _ => by cases h
theorem bxM_good {w : Nat} {a b x : BX} (ha : GB w a) (hb : b.length = w) (h : x ∈ bxM a b) : GB w x := by
  unfold bxM at h
  by_cases e : bcs a b = []
  · rw [if_pos e] at h
    rw [List.mem_singleton.mp h]; exact ha
  · rw [if_neg e] at h
    have := bxP_good a b ha.2 (Decidable.not_not.mp fun z => e (bcs_nil.mpr z)) (ha.1.trans hb.symm) x h
    rw [ha.1] at this
    exact this
theorem bxP_len : ∀ a b : BX, (bxP a b).length ≤ 2 * a.length
  | [], _ => Nat.zero_le _
  | _ :: _, [] => Nat.zero_le _
  | s :: a, t :: b => by
    have ih := bxP_len a b
    have h := stM_len s t
    show ((stM s t).map (· :: a) ++ (bxP a b).map (cmD s t :: ·)).length ≤ _
    rw [List.length_append, List.length_map, List.length_map, List.length_cons]
    omega
theorem bxM_len {w : Nat} {a b : BX} (ha : a.length = w) (w1 : 1 ≤ w) (w3 : w ≤ 3) : (bxM a b).length ≤ 6 := by
  unfold bxM
  split
  · show 1 ≤ 6; decide
  · have := bxP_len a b
    omega
/-- what boxes keep by others -/
def minA (bd rest : List BX) : List BX := bd.foldl (fun r b => r.flatMap fun x => bxM x b) rest
theorem flat_val {w : Nat} {b : BX} {os : List (Option Int)} (ho : os.length = w) (hb : b.length = w) : ∀ rest : List BX, (∀ x, x ∈ rest → GB w x) → inBd (rest.flatMap fun x => bxM x b) os = (inBd rest os && !inBx b os)
  | [], _ => by show false = (false && _); rfl
  | x :: rest, h => by
    have ih := flat_val ho hb rest fun y hy => h y (List.mem_cons_of_mem _ hy)
    rw [List.flatMap_cons, any_or, ih]
    show ((bxM x b).any (fun z => inBx z os) || _) = ((inBx x os || inBd rest os) && _)
    rw [bxM_val ((h x (List.mem_cons_self ..)).1.trans ho.symm) (hb.trans ho.symm), Bool.and_or_distrib_right]
theorem flat_good {w : Nat} {b : BX} (hb : b.length = w) {rest : List BX} (h : ∀ x, x ∈ rest → GB w x) : ∀ x, x ∈ (rest.flatMap fun x => bxM x b) → GB w x := fun x hx => by
  obtain ⟨y, hy, hx⟩ := List.mem_flatMap.mp hx
  exact bxM_good (h y hy) hb hx
theorem flat_len {w : Nat} {b : BX} (w1 : 1 ≤ w) (w3 : w ≤ 3) : ∀ {rest : List BX}, (∀ x, x ∈ rest → GB w x) → (rest.flatMap fun x => bxM x b).length ≤ 6 * rest.length
  | [], _ => Nat.zero_le _
  | x :: rest, h => by
    have ih := flat_len (b := b) w1 w3 (rest := rest) fun y hy => h y (List.mem_cons_of_mem _ hy)
    have h1 := bxM_len (b := b) (h x (List.mem_cons_self ..)).1 w1 w3
    rw [List.flatMap_cons, List.length_append, List.length_cons]
    omega
theorem minA_val {w : Nat} {os : List (Option Int)} (ho : os.length = w) : ∀ (bd rest : List BX), (∀ x, x ∈ bd → x.length = w) → (∀ x, x ∈ rest → GB w x) → inBd (minA bd rest) os = (inBd rest os && !inBd bd os)
  | [], rest, _, _ => by show inBd rest os = (inBd rest os && !false); rw [Bool.not_false, Bool.and_true]
  | b :: bd, rest, hb, hr => by
    show inBd (minA bd (rest.flatMap fun x => bxM x b)) os = (inBd rest os && !(inBx b os || inBd bd os))
    rw [minA_val ho bd _ (fun x hx => hb x (List.mem_cons_of_mem _ hx)) (flat_good (hb b (List.mem_cons_self ..)) hr), flat_val ho (hb b (List.mem_cons_self ..)) rest hr]
    cases inBd rest os <;> cases inBx b os <;> cases inBd bd os <;> rfl
theorem minA_good {w : Nat} : ∀ (bd rest : List BX), (∀ x, x ∈ bd → x.length = w) → (∀ x, x ∈ rest → GB w x) → ∀ x, x ∈ minA bd rest → GB w x
  | [], rest, _, hr => hr
  | b :: bd, rest, hb, hr => minA_good bd (rest.flatMap fun x => bxM x b) (fun x hx => hb x (List.mem_cons_of_mem _ hx)) (flat_good (hb b (List.mem_cons_self ..)) hr)
theorem st_has : ∀ {s : SD}, isSt (sD s) = true → ∃ v, inS s v = true
  | none, _ => ⟨none, rfl⟩
  | some (none, none), _ => ⟨some 0, rfl⟩
  | some (some a, none), _ => ⟨some a, by show (decide (a ≤ a) && true) = true; rw [decide_eq_true (Int.le_refl a)]; rfl⟩
  | some (none, some b), _ => ⟨some b, by show (true && decide (b ≤ b)) = true; rw [decide_eq_true (Int.le_refl b)]; rfl⟩
  | some (some a, some b), h => by
    have h : (true && true && decide (a ≤ b)) = true := h
    have h : decide (a ≤ b) = true := h
    exact ⟨some a, by show (decide (a ≤ a) && decide (a ≤ b)) = true; rw [decide_eq_true (Int.le_refl a), h]; rfl⟩
theorem box_has : ∀ {b : BX}, (∀ s, s ∈ b → isSt (sD s) = true) → ∃ os : List (Option Int), os.length = b.length ∧ inBx b os = true
  | [], _ => ⟨[], rfl, rfl⟩
  | s :: b, h => by
    obtain ⟨v, hv⟩ := st_has (h s (List.mem_cons_self ..))
    obtain ⟨os, ho, hb⟩ := box_has fun z hz => h z (List.mem_cons_of_mem _ hz)
    exact ⟨v :: os, by rw [List.length_cons, List.length_cons, ho], by show (inS s v && inBx b os) = true; rw [hv, hb]; rfl⟩
/-- one bound has all keys of another one -/
def cvs (bd other : List BX) : Bool := decide (minA bd other = [])
theorem cvs_iff {w : Nat} {bd other : List BX} (hb : ∀ x, x ∈ bd → x.length = w) (hr : ∀ x, x ∈ other → GB w x) : cvs bd other = true ↔ ∀ os : List (Option Int), os.length = w → inBd other os = true → inBd bd os = true := by
  unfold cvs
  constructor
  · intro h os ho hi
    have v := minA_val ho bd other hb hr
    rw [of_decide_eq_true h, hi] at v
    have v : false = (true && !inBd bd os) := v
    revert v
    cases inBd bd os <;> decide
  · intro h
    refine decide_eq_true ?_
    cases e : minA bd other with
    | nil => rfl
    | cons x r =>
      exfalso
      have gx := minA_good bd other hb hr x (by rw [e]; exact List.mem_cons_self ..)
      obtain ⟨os, ho, hx⟩ := box_has gx.2
      have ho : os.length = w := ho.trans gx.1
      have v := minA_val ho bd other hb hr
      have t : inBd (minA bd other) os = true := by
        rw [e]
        show (inBx x os || _) = true
        rw [hx]; rfl
      rw [t] at v
      have h1 : inBd other os = true := by revert v; cases inBd other os <;> cases inBd bd os <;> decide
      rw [h1, h os ho h1] at v
      cases v
theorem cvs_self {w : Nat} {bd : List BX} (hr : ∀ x, x ∈ bd → GB w x) : cvs bd bd = true := (cvs_iff (fun x hx => (hr x hx).1) hr).mpr fun _ _ h => h
theorem cvs_nil {bd : List BX} : cvs bd [] = true := by
  unfold cvs
  refine decide_eq_true ?_
  induction bd with
  | nil => rfl
  | cons b bd ih => exact ih
/-! ### keys at and beside some numbers -/
def prods (ss : List (Option Int)) : Nat → List (List (Option Int))
  | 0 => [[]]
  | n + 1 => (prods ss n).flatMap fun k => ss.map fun o => k ++ [o]
theorem prods_mem (ss : List (Option Int)) : ∀ (n : Nat) (os : List (Option Int)), os ∈ prods ss n ↔ os.length = n ∧ ∀ o, o ∈ os → o ∈ ss
  | 0, os => by
    show os ∈ [[]] ↔ _
    rw [List.mem_singleton]
    exact ⟨fun e => by subst e; exact ⟨rfl, fun o h => by cases h⟩, fun h => List.length_eq_zero_iff.mp h.1⟩
  | n + 1, os => by
    show os ∈ (prods ss n).flatMap _ ↔ _
    rw [List.mem_flatMap]
    constructor
    · rintro ⟨k, hk, h⟩
      obtain ⟨o, ho, rfl⟩ := List.mem_map.mp h
      have ⟨h1, h2⟩ := (prods_mem ss n k).mp hk
      refine ⟨by rw [List.length_append, h1]; rfl, fun z hz => ?_⟩
      rcases List.mem_append.mp hz with h | h
      · exact h2 z h
      · rw [List.mem_singleton.mp h]; exact ho
    · rintro ⟨h1, h2⟩
      have ne : os ≠ [] := fun z => by rw [z] at h1; cases h1
      obtain ⟨i, o, rfl⟩ : ∃ i o, os = i ++ [o] := ⟨os.dropLast, os.getLast ne, (List.dropLast_concat_getLast ne).symm⟩
      rw [List.length_append] at h1
      exact ⟨i, (prods_mem ss n i).mpr ⟨Nat.succ.inj h1, fun z hz => h2 z (List.mem_append_left _ hz)⟩, List.mem_map.mpr ⟨o, h2 o (List.mem_append_right _ (List.mem_singleton.mpr rfl)), rfl⟩⟩
theorem prods_len (ss : List (Option Int)) : ∀ n, (prods ss n).length = ss.length ^ n
  | 0 => rfl
  | n + 1 => by
    have h : ∀ l : List (List (Option Int)), (l.flatMap fun k => ss.map fun o => k ++ [o]).length = l.length * ss.length := fun l => by
      induction l with
      | nil => exact (Nat.zero_mul _).symm
      | cons k l ih => rw [List.flatMap_cons, List.length_append, ih, List.length_map, List.length_cons, Nat.succ_mul, Nat.add_comm]
    show ((prods ss n).flatMap _).length = _
    rw [h, prods_len ss n, Nat.pow_succ]
/-- a stretch whose sides are among some numbers -/
def CutS (C : List Int) : SD → Prop
  | none => True
  | some (a, b) => (∀ x, a = some x → x ∈ C) ∧ (∀ y, b = some y → y ∈ C)
theorem least_of_l : ∀ {C : List Int}, C ≠ [] → ∃ m, m ∈ C ∧ ∀ c, c ∈ C → m ≤ c
  | [], h => absurd rfl h
  | [x], _ => ⟨x, List.mem_singleton.mpr rfl, fun c hc => by rw [List.mem_singleton.mp hc]; exact Int.le_refl _⟩
  | x :: y :: C, _ => by
    obtain ⟨m, hm, h⟩ := least_of_l (C := y :: C) (List.cons_ne_nil _ _)
    by_cases e : x ≤ m
    · exact ⟨x, List.mem_cons_self .., fun c hc => (List.mem_cons.mp hc).elim (fun z => by rw [z]; exact Int.le_refl _) fun z => Int.le_trans e (h c z)⟩
    · exact ⟨m, List.mem_cons_of_mem _ hm, fun c hc => (List.mem_cons.mp hc).elim (fun z => by rw [z]; omega) fun z => h c z⟩
theorem top_below (v : Int) : ∀ {C : List Int}, (∃ c, c ∈ C ∧ c ≤ v) → ∃ m, m ∈ C ∧ m ≤ v ∧ ∀ c, c ∈ C → c ≤ v → c ≤ m
  | [], ⟨c, h, _⟩ => by cases h
  | x :: C, h => by
    by_cases r : ∃ c, c ∈ C ∧ c ≤ v
    · obtain ⟨m, hm, hv, ht⟩ := top_below v r
      by_cases e : x ≤ v ∧ m < x
      · exact ⟨x, List.mem_cons_self .., e.1, fun c hc hcv => (List.mem_cons.mp hc).elim (fun z => by omega) fun z => by have := ht c z hcv; omega⟩
      · exact ⟨m, List.mem_cons_of_mem _ hm, hv, fun c hc hcv => (List.mem_cons.mp hc).elim (fun z => by subst z; omega) fun z => ht c z hcv⟩
    · obtain ⟨c, hc, hv⟩ := h
      rcases (List.mem_cons.mp hc) with rfl | hc
      · exact ⟨c, List.mem_cons_self .., hv, fun d hd hdv => (List.mem_cons.mp hd).elim (fun z => by omega) fun z => absurd ⟨d, z, hdv⟩ r⟩
      · exact absurd ⟨c, hc, hv⟩ r
/-- a value at or beside some numbers -/
def Beside (C : List Int) : Option Int → Prop
  | none => True
  | some v => ∃ c, c ∈ C ∧ (v = c - 1 ∨ v = c ∨ v = c + 1)
theorem rep_val {C : List Int} (h : C ≠ []) (o : Option Int) : ∃ r, Beside C r ∧ ∀ s, CutS C s → inS s r = inS s o := by
  cases o with
  | none => exact ⟨none, True.intro, fun _ _ => rfl⟩
  | some v =>
    obtain ⟨r, hr, hk⟩ : ∃ r : Int, Beside C (some r) ∧ ∀ c, c ∈ C → ((c ≤ r ↔ c ≤ v) ∧ (r ≤ c ↔ v ≤ c)) := by
      by_cases b : ∃ c, c ∈ C ∧ c ≤ v
      · obtain ⟨m, hm, hv, ht⟩ := top_below v b
        by_cases e : m = v
        · exact ⟨m, ⟨m, hm, .inr (.inl rfl)⟩, fun c _ => by omega⟩
        · refine ⟨m + 1, ⟨m, hm, .inr (.inr rfl)⟩, fun c hc => ?_⟩
          by_cases cv : c ≤ v
          · have := ht c hc cv
            omega
          · omega
      · obtain ⟨m, hm, hl⟩ := least_of_l h
        refine ⟨m - 1, ⟨m, hm, .inl rfl⟩, fun c hc => ?_⟩
        have h1 := hl c hc
        have h2 : ¬ c ≤ v := fun z => b ⟨c, hc, z⟩
        omega
    refine ⟨some r, hr, fun s hs => ?_⟩
    rcases s with _ | ⟨a, b⟩
    · rfl
    · show (loV a r && hiV b r) = (loV a v && hiV b v)
      have e1 : loV a r = loV a v := by
        rcases a with _ | a
        · rfl
        · exact decide_eq_decide.mpr (hk a (hs.1 a rfl)).1
      have e2 : hiV b r = hiV b v := by
        rcases b with _ | b
        · rfl
        · exact decide_eq_decide.mpr (hk b (hs.2 b rfl)).2
      rw [e1, e2]
theorem rep_key {C : List Int} (h : C ≠ []) : ∀ os : List (Option Int), ∃ rs : List (Option Int), rs.length = os.length ∧ (∀ r, r ∈ rs → Beside C r) ∧ ∀ b : BX, (∀ s, s ∈ b → CutS C s) → inBx b rs = inBx b os
  | [] => ⟨[], rfl, (fun _ z => by cases z), fun _ _ => rfl⟩
  | o :: os => by
    obtain ⟨rs, hl, hb, hk⟩ := rep_key h os
    obtain ⟨r, hr, hs⟩ := rep_val h o
    refine ⟨r :: rs, by rw [List.length_cons, List.length_cons, hl], fun z hz => (List.mem_cons.mp hz).elim (fun e => by rw [e]; exact hr) (hb z), fun b hc => ?_⟩
    cases b with
    | nil => rfl
    | cons s b =>
      show (inS s r && inBx b rs) = (inS s o && inBx b os)
      rw [hs s (hc s (List.mem_cons_self ..)), hk b fun z hz => hc z (List.mem_cons_of_mem _ hz)]
/-- boxes whose sides are among some numbers -/
abbrev CutB (C : List Int) (bs : List BX) : Prop := ∀ b, b ∈ bs → ∀ s, s ∈ b → CutS C s
theorem rep_bd {C : List Int} {rs os : List (Option Int)} (hk : ∀ b : BX, (∀ s, s ∈ b → CutS C s) → inBx b rs = inBx b os) : ∀ {bs : List BX}, CutB C bs → inBd bs rs = inBd bs os
  | [], _ => rfl
  | b :: bs, h => by
    show (inBx b rs || inBd bs rs) = (inBx b os || inBd bs os)
    rw [hk b (h b (List.mem_cons_self ..)), rep_bd hk fun z hz => h z (List.mem_cons_of_mem _ hz)]
/-- all keys at and beside the numbers tell all keys -/
theorem cvs_keys {C : List Int} {ss : List (Option Int)} {w : Nat} {as bs : List BX} (h : C ≠ []) (hss : ∀ o, Beside C o → o ∈ ss) (ca : CutB C as) (cb : CutB C bs) (ga : ∀ x, x ∈ as → GB w x) (gb : ∀ x, x ∈ bs → GB w x) :
    (prods ss w).all (fun k => inBd bs k || !inBd as k) = cvs bs as := by
  refine Bool.eq_iff_iff.mpr ?_
  rw [cvs_iff (fun x hx => (gb x hx).1) ga, List.all_eq_true]
  constructor
  · intro hk os ho hi
    obtain ⟨rs, hl, hr, e⟩ := rep_key h os
    have := hk rs ((prods_mem ss w rs).mpr ⟨hl.trans ho, fun o z => hss o (hr o z)⟩)
    rw [rep_bd e ca, rep_bd e cb, hi] at this
    rwa [Bool.not_true, Bool.or_false] at this
  · intro hk k hm
    have ⟨hl, _⟩ := (prods_mem ss w k).mp hm
    cases e : inBd as k with
    | false => rw [Bool.not_false, Bool.or_true]
    | true => rw [hk k hl e]; rfl
theorem all_keys {C : List Int} {ss : List (Option Int)} {w : Nat} {as : List BX} (h : C ≠ []) (hss : ∀ o, Beside C o → o ∈ ss) (ca : CutB C as) (ga : ∀ x, x ∈ as → GB w x) :
    (prods ss w).all (fun k => inBd as k) = cvs as (whB w) := by
  refine Bool.eq_iff_iff.mpr ?_
  rw [cvs_iff (w := w) (fun x hx => (ga x hx).1) (fun x hx => ⟨(whB_mem w x hx).1, whB_isSt hx⟩), List.all_eq_true]
  constructor
  · intro hk os ho _
    obtain ⟨rs, hl, hr, e⟩ := rep_key h os
    have := hk rs ((prods_mem ss w rs).mpr ⟨hl.trans ho, fun o z => hss o (hr o z)⟩)
    rwa [rep_bd e ca] at this
  · intro hk k hm
    have ⟨hl, _⟩ := (prods_mem ss w k).mp hm
    exact hk k hl (by have := whB_all k; rwa [hl] at this)
theorem cvs_whole {w : Nat} {as : List BX} (ga : ∀ x, x ∈ as → GB w x) : cvs (whB w) as = true :=
  (cvs_iff (fun x hx => (whB_mem w x hx).1) ga).mpr fun os ho _ => by have := whB_all os; rwa [ho] at this

/-! o.m(k=e, ..): a method called by keywords alone; list.insert. -/
/-- the receiver and n keyword values, put in the parameters' order -/
def gMV {α : Type} (n : Nat) (perm : List Nat) (vs zs : List α) : List α := if vs.length = 1 ∧ zs.length = n then vs ++ gPV n perm [] zs else []
theorem gMV_rel {n : Nat} {perm : List Nat} {vs zs : List V} {us ws : List Value} (r : Vals vs us) (q : Vals zs ws) : Vals (gMV n perm vs zs) (gMV n perm us ws) := by
  have h1 := r.length
  have h2 := q.length
  unfold gMV
  by_cases h : vs.length = 1 ∧ zs.length = n
  · rw [if_pos h, if_pos ⟨by omega, by omega⟩]
    exact r.append (gPV_rel .nil q)
  · rw [if_neg h, if_neg (fun z => h ⟨by omega, by omega⟩)]
    exact .nil
structure MetK (P : Program) (w : World) (K : PySem.W.Frag) (mg : Str → Option Value) (base : Heap) (CX : CXT) (k : Nat) (C : Addr) (m : Str) (sp : Sp) (ks : List Str) (perm : List Nat) : Prop where
  ex : ∃ (f : Addr) (fd : FuncData) (ps : List Str), Cls K C ∧ Meth K C m f ∧ FnOk P w K mg base CX k f fd ps sp ∧ KBinds K fd ps ks (gMV ks.length perm) (gMV ks.length perm)
def tMethK (C : Addr) (m : Str) (sp : Sp) (n : Nat) (perm : List Nat) (E : XK) (ta : TE) (tk : TA) : TE := fun σ H Q => ta σ H fun x H1 => ∃ a dx fs, x = .ref a ∧ H1 a = some (.ins C dx fs) ∧ fs.lookup m = none ∧ tk σ H1 fun zs H2 => sp (gMV n perm [.ref a] zs) H2 Q E
theorem rd_methK {C : Addr} {m : Str} {sp : Sp} {n : Nat} {perm : List Nat} {E : XK} {ta : TE} {tk : TA} {σ : L2.St} {H : Hp} {Q : VK} (q : ta σ H fun x H1 => ∃ a dx fs, x = .ref a ∧ H1 a = some (.ins C dx fs) ∧ fs.lookup m = none ∧ tk σ H1 fun zs H2 => sp (gMV n perm [.ref a] zs) H2 Q E) : tMethK C m sp n perm E ta tk σ H Q := q
theorem gMV1 (x v : V) : gMV 1 [0] [x] [v] = [x, v] := rfl
theorem kbindsM_of {K : PySem.W.Frag} {x qual : Str} {st : Stmt} {f : Addr} {fd : FuncData} {ps ks : List Str} {perm : List Nat} (F : Fun K x qual st f fd) (h0 : 0 < ps.length)
    (h : ∀ (kV doc pm : Value) (an : Option Addr) (cdv ct u : Value) (ws : List Value), ws.length = ks.length → bindArgs (PySem.W.fnOf x qual (defArgs st) (defBody st) (defScope st) .none kV doc pm an cdv ct) ⟨[u], ks.zip ws⟩ = pure (ps.zip (gMV ks.length perm [u] ws))) : KBinds K fd ps ks (gMV ks.length perm) (gMV ks.length perm) := by
  have ⟨_, _, kV, doc, pm, an, cdv, ct, _, hfd, _, _⟩ := F.ex
  subst hfd
  refine ⟨fun s us ws _ hl => ?_, gMV_rel⟩
  by_cases c : us.length = 1 ∧ ws.length = ks.length
  · match us, c.1 with
    | [u], _ => exact .of_eq (h kV doc pm an cdv ct u ws c.2)
  · unfold gMV at hl
    rw [if_neg c] at hl
    exact absurd hl (by simp; omega)
section
variable {X : Cx} {CX : CXT} {k j : Nat} {C : Addr} {sp : Sp} {m : Str} {ks : List Str} {perm : List Nat} {o : Expr} {kws : List Keyword} {ta : TE} {tk : TA} {apos pos : Pos} {E : XK}
theorem pe_mK {pl : Sem Bool} (c : MetK X.prog X.w X.K X.mg X.base CX k C m sp ks perm) (hr : Room j X.A) (hk : k ≤ j) (hx : Passes CX X E) (he : PE X o ta) (hkw : PK X kws tk)
    (named : (backToKw pos (keywordEach kws X.env)).all (·.1.isSome) = true := by rfl) (names : (backToKw pos (keywordEach kws X.env)).filterMap (·.1) = ks := by rfl)
    (noStar : ((backTo pos (starEach [] X.env)).any (·.1) || (backToKw pos (keywordEach kws X.env)).any (·.1.isNone)) = false := by rfl)
    (ht : eval (.Call (.Attribute o m apos) [] kws pos) X.env = (do let ov ← eval o X.env; standAt apos.atName; let (f, first) ← holding [ov] (getMethod ov m pl); callWith pos f first (backTo pos (starEach [] X.env)) (backToKw pos (keywordEach kws X.env))) := by rfl) :
    PE X (.Call (.Attribute o m apos) [] kws pos) (tMethK C m sp ks.length perm E ta tk) := by
  obtain ⟨f, fd, ps, hcl, hm, F, hb⟩ := c.ex
  refine ⟨fun pins s σ H Q I h => PySem.W.methodCall_KW (pl := pl) (thn (he.run pins s σ H _ I h) fun u s1 ⟨x, H1, I1, rx, a, dx, fs, ex, ea, l, q⟩ => ?_) ht⟩
  subst ex
  obtain rfl : u = Value.ref a := rx; refine getmeth_ok I1 ea hcl hm l ?_
  refine PySem.W.callWith_KW0 (first := [.ref a]) (h₀ := X.base) I1.ok.mod.kin hm.kp named (thn (hkw.run pos pins s1 σ H1 _ I1 q) ?_) noStar
  rintro ws s2 ⟨zs, H2, I3, rz, q2⟩
  refine ⟨I3.kIn, ?_⟩
  rw [names]
  exact run_fnk F (hr.mono hk) hb hx I3 (us := [.ref a]) (vs := [.ref a]) (.cons rfl .nil) rz q2
end
/-- xs.insert(i, y) -/
def rIns : V → List V → Hp → VK → Prop := fun x vs H Q => ∃ (l : Addr) (xs : List V) (i : Int) (y : V), x = .ref l ∧ vs = [.int i, y] ∧ H l = some (.lst xs) ∧ xs.length < sizeLine ∧ 0 ≤ i ∧ i < 2 ^ 63 ∧ Q .non (upd H l (.lst (xs.take i.toNat ++ [y] ++ xs.drop i.toNat)))
theorem mt_ins {X : Cx} : MtR X "list.insert" rIns := mt_insert

/-! stretch_minus, box_minus, covers. -/
open PySem PySem.Spec PyProof.Rows L2 Evl RZ NumText



theorem sds_lay : ∀ l : List SD, PyData.canLayAll0 (l.map sD) = true
  | [] => rfl
  | s :: l => by
    show (PyData.canLay0 (sD s) && PyData.canLayAll0 (l.map sD)) = true
    rw [sds_lay l, Bool.and_true]
    rcases s with _ | ⟨a, b⟩
    · rfl
    · cases a <;> cases b <;> rfl
theorem sds_dep : ∀ l : List SD, PyData.depthAll (l.map sD) ≤ 1
  | [] => Nat.zero_le _
  | s :: l => by
    show max (PyData.depth (sD s)) (PyData.depthAll (l.map sD)) ≤ 1
    refine Nat.max_le.mpr ⟨?_, sds_dep l⟩
    rcases s with _ | ⟨a, b⟩
    · exact Nat.zero_le _
    · cases a <;> cases b <;> exact Nat.le_refl _
theorem bxs_lay : ∀ l : List BX, PyData.canLayAll0 (l.map boxD) = true
  | [] => rfl
  | b :: l => by
    show (PyData.canLayAll0 (b.map sD) && PyData.canLayAll0 (l.map boxD)) = true
    rw [bxs_lay l, sds_lay]; rfl
theorem bxs_dep : ∀ l : List BX, PyData.depthAll (l.map boxD) ≤ 2
  | [] => Nat.zero_le _
  | b :: l => by
    show max (PyData.depthAll (b.map sD) + 1) (PyData.depthAll (l.map boxD)) ≤ 2
    exact Nat.max_le.mpr ⟨Nat.succ_le_succ (sds_dep b), bxs_dep l⟩
theorem sds_shaped (l : List SD) : SeqAt.shaped (.list (l.map sD)) = true := by
  unfold SeqAt.shaped
  rw [show PyData.canLay0 (.list (l.map sD)) = PyData.canLayAll0 (l.map sD) from rfl, sds_lay, Bool.true_and]
  have := sds_dep l
  exact decide_eq_true (show PyData.depthAll (l.map sD) + 1 ≤ 64 by omega)
theorem bxs_shaped (l : List BX) : SeqAt.shaped (.list (l.map boxD)) = true := by
  unfold SeqAt.shaped
  rw [show PyData.canLay0 (.list (l.map boxD)) = PyData.canLayAll0 (l.map boxD) from rfl, bxs_lay, Bool.true_and]
  have := bxs_dep l
  exact decide_eq_true (show PyData.depthAll (l.map boxD) + 1 ≤ 64 by omega)
theorem eqv_nil (l : List PyData) : PyData.eqv (.list l) (.list []) = decide (l = []) := by
  cases l with
  | nil => rw [PyData.eqv, PyData.eqvAll, decide_eq_true rfl]
  | cons b bs => rw [PyData.eqv, PyData.eqvAll, decide_eq_false (by intro h; cases h)]
section
variable {K : PySem.W.Frag} {σ : L2.St} {G H : Hp} {L M : List (Addr × HO)} {Q : VK} {E : XK} {D : Ends}
/-- p == [] -/
theorem rd_nilEq {p : Addr} {us : List V} {ds : List PyData} (S : Stt G H L) (hp : SqL K G p us) (hd : DpAll K G us ds) (sh : SeqAt.shaped (.list ds) = true) (q : ∀ G' H', Ex G G' → Stt G' H' L → Q (.bl (decide (ds = []))) H') :
    tLst tNil σ H fun y H2 => gEq K (.ref p) y H2 Q := by
  refine rd_lst (rd_nil ?_)
  refine mk_lst stt_world S (Nat.zero_le _) fun l G1 e1 S1 h1 => ?_
  refine rd_eqD (.lst (ex_l (e1.trans S1.ex) hp) (DpAll.ex (e1.trans S1.ex) _ _ hd)) (.lst (sq_of (S1.ex _ _ h1)) .nil) sh rfl ?_
  rw [eqv_nil]
  exact q G1 _ e1 S1
/-- t + u, of tuples -/
theorem rd_catTT {W : Hp → Hp → List (Addr × HO) → Prop} (hW : Wd W) (S : W G H L) {a b : Addr} {xs ys : List V} (hx : SqT K G a xs) (hy : SqT K G b ys) (hl : xs.length + ys.length ≤ 2000)
    (q : ∀ p G' H', Ex G G' → W G' H' L → SqT K G' p (xs ++ ys) → Q (.ref p) H') : gAdd K (.ref a) (.ref b) H Q := by
  refine .inr (.inr (.inr ⟨a, b, xs, ys, rfl, rfl, ex_t (hW.ex S) hx, ex_t (hW.ex S) hy, sz_of (by omega), fun e => ?_, fun _ e => ?_, fun _ _ => ?_⟩))
  · subst e
    exact q b G H (Ex.refl G) S hy
  · subst e
    rw [List.append_nil] at q
    exact q a G H (Ex.refl G) S hx
  · exact mk_im (o := .tup (xs ++ ys)) hW S fun p G2 e2 S2 h2 => q p G2 _ e2 S2 (st_of h2)
/-! ### stretch_minus -/
def sp_stretch_minus (K : PySem.W.Frag) : Sp := fun vs H Q _ => ∃ (x y : V) (s t : SD) (G : Hp) (L : List (Addr × HO)), vs = [x, y] ∧ Stt G H L ∧ StV K G x s ∧ StV K G y t ∧
  ∀ p us G' H', Ex G G' → Stt G' H' L → SqL K G' p us → DpAll K G' us ((stM s t).map sD) → Q (.ref p) H'
def t_stretch_minus_7 (K : PySem.W.Frag) : TS :=
  (tRet (tVar 5))
def t_stretch_minus_6 (K : PySem.W.Frag) : TS :=
  (tSeq (tIfS (tAnd (tTest (tOp rNotN (tVar 4) (tC .non))) (tOr (tTest (tOp rIsN (tOp (rIx K) (tVar 0) (tC (.int 1))) (tC .non))) (tTest (tOp (gLt K) (tVar 4) (tOp (rIx K) (tVar 0) (tC (.int 1))))))) (tAsg (tOp (gAdd K) (tVar 5) (tLst (tCons (tTup (tCons (tOp (gAdd K) (tVar 4) (tC (.int 1))) (tCons (tOp (rIx K) (tVar 0) (tC (.int 1))) tNil))) tNil))) (gName 5)) tNext)
  (t_stretch_minus_7 K))
def t_stretch_minus_5 (K : PySem.W.Frag) : TS :=
  (tSeq (tIfS (tAnd (tTest (tOp rNotN (tVar 3) (tC .non))) (tOr (tTest (tOp rIsN (tOp (rIx K) (tVar 0) (tC (.int 0))) (tC .non))) (tTest (tOp (gLt K) (tOp (rIx K) (tVar 0) (tC (.int 0))) (tVar 3))))) (tAsg (tLst (tCons (tTup (tCons (tOp (rIx K) (tVar 0) (tC (.int 0))) (tCons (tOp (rI0 fun i j => .int (i - j)) (tVar 3) (tC (.int 1))) tNil))) tNil)) (gName 5)) tNext)
  (t_stretch_minus_6 K))
def t_stretch_minus_4 (K : PySem.W.Frag) : TS :=
  (tSeq (tAsg (tLst tNil) (gName 5))
  (t_stretch_minus_5 K))
def t_stretch_minus_3 (K : PySem.W.Frag) : TS :=
  (tSeq (tAsg (tOp (rIx K) (tVar 2) (tC (.int 0))) (gTup K 2 (gCons (gName 3) (gCons (gName 4) gNil))))
  (t_stretch_minus_4 K))
def t_stretch_minus_2 (K : PySem.W.Frag) : TS :=
  (tSeq (tIfS (tTest (tOp rIsN (tVar 0) (tC .non))) (tRet (tLst tNil)) tNext)
  (t_stretch_minus_3 K))
def t_stretch_minus_1 (K : PySem.W.Frag) : TS :=
  (tSeq (tIfS (tTest (tOp (gEq K) (tVar 2) (tLst tNil))) (tRet (tLst (tCons (tVar 0) tNil))) tNext)
  (t_stretch_minus_2 K))
def t_stretch_minus (K : PySem.W.Frag) : TS :=
  (tSeq (tAsg (tCall (sp_common K) [] E0 (tCons (tVar 0) (tCons (tVar 1) tNil))) (gName 2))
  (t_stretch_minus_1 K))
theorem read_sm6 {x f : Addr} {a b hi : Option Int} {us : List V} {l0 : List SD} {a1 a2 a3 : Option V} (S : Stt G H L) (hx : SqT K G x [oV a, oV b]) (hf : G f = some (.lst us)) (hA : DpAll K G us (l0.map sD)) (hl : us.length ≤ 1)
    (q : ∀ p us G' H', Ex G G' → Stt G' H' L → SqL K G' p us → DpAll K G' us ((l0 ++ ptHi b hi).map sD) → D.rt (.ref p) H') :
    t_stretch_minus_6 K D [some (.ref x), a1, a2, a3, some (oV hi), some (.ref f)] H := by
  have no : ptHi b hi = [] → t_stretch_minus_7 K D [some (.ref x), a1, a2, a3, some (oV hi), some (.ref f)] H := fun e => by
    rw [e, List.append_nil] at q
    unfold t_stretch_minus_7
    exact rd_ret (rd_var rfl (q f us G H (Ex.refl G) S (sq_of hf) hA))
  have yes : ∀ h : Int, hi = some h → ptHi b hi = [some (some (h + 1), b)] → (tAsg (tOp (gAdd K) (tVar 5) (tLst (tCons (tTup (tCons (tOp (gAdd K) (tVar 4) (tC (.int 1))) (tCons (tOp (rIx K) (tVar 0) (tC (.int 1))) tNil))) tNil))) (gName 5)) { D with nx := t_stretch_minus_7 K D } [some (.ref x), a1, a2, a3, some (oV hi), some (.ref f)] H := fun h eh e => by
    subst eh
    rw [e] at q
    refine rd_asg (rd_op (rd_var rfl (rd_lst (rd_cons (rd_tup (rd_cons (rd_op (rd_var rfl (rd_c (rd_addI (rd_cons (rd_op (rd_var rfl (rd_c (rd_ixT (ex_t S.ex hx) rfl (rd_nil ?_))))))))))))))))
    refine mk_tup stt_world S (by show 2 ≤ _; decide) fun t G1 e1 S1 h1 => rd_nil ?_
    refine mk_lst stt_world S1 (by show 1 ≤ _; decide) fun l G2 e2 S2 h2 => ?_
    refine rd_addL (S2.ex _ _ (e2 _ _ (e1 _ _ hf))) (S2.ex _ _ h2) (sz_of (by show _ + 1 ≤ _; omega)) ?_
    refine mk_im (o := .lst (us ++ [.ref t])) stt_world S2 fun r G3 e3 S3 h3 => rd_name ?_
    show t_stretch_minus_7 K D _ _
    unfold t_stretch_minus_7
    have x0 := e1.trans (e2.trans e3)
    refine rd_ret (rd_var rfl (q r _ G3 _ x0 S3 (sq_of h3) ?_))
    rw [List.map_append]
    exact dp_app2 (DpAll.ex x0 _ _ hA) (.cons (.tup (ex_t (e2.trans e3) (st_of h1)) (.cons (.int _) (.cons (oDp b) .nil))) .nil)
  unfold t_stretch_minus_6
  refine rd_seq (rd_ifs (rd_and (rd_test (rd_op (rd_var rfl (rd_c (rd_notN (rd_bl ?_))))))))
  rcases hi with _ | h
  · rw [show (!decide (oV none = V.non)) = false from by rw [decide_eq_true (show oV none = V.non from rfl)]; rfl]
    exact no rfl
  · rw [show (!decide (oV (some h) = V.non)) = true from by rw [decide_eq_false (show ¬ oV (some h) = V.non from fun z => by cases z)]; rfl]
    refine rd_iT (rd_or (rd_test (rd_op (rd_op (rd_var rfl (rd_c (rd_ixT (ex_t S.ex hx) rfl (rd_c (rd_isN (rd_bl ?_))))))))))
    rcases b with _ | y
    · rw [decide_eq_true (show oV none = V.non from rfl)]
      exact rd_iT (rd_iT (yes h rfl rfl))
    · rw [decide_eq_false (show ¬ oV (some y) = V.non from fun z => by cases z)]
      refine rd_iF (rd_test (rd_op (rd_var rfl (rd_op (rd_var rfl (rd_c (rd_ixT (ex_t S.ex hx) rfl (rd_ltI (rd_bl ?_)))))))))
      by_cases c : h < y
      · rw [decide_eq_true c]
        exact rd_iT (yes h rfl (if_pos (decide_eq_true c)))
      · rw [decide_eq_false c]
        exact rd_iF (no (if_neg (fun z => c (of_decide_eq_true z))))
theorem read_sm5 {x f : Addr} {a b lo hi : Option Int} {a1 a2 : Option V} (S : Stt G H L) (hx : SqT K G x [oV a, oV b]) (hf : G f = some (.lst []))
    (q : ∀ p us G' H', Ex G G' → Stt G' H' L → SqL K G' p us → DpAll K G' us ((ptLo a lo ++ ptHi b hi).map sD) → D.rt (.ref p) H') :
    t_stretch_minus_5 K D [some (.ref x), a1, a2, some (oV lo), some (oV hi), some (.ref f)] H := by
  have no : ptLo a lo = [] → t_stretch_minus_6 K D [some (.ref x), a1, a2, some (oV lo), some (oV hi), some (.ref f)] H := fun e => by
    rw [e] at q
    exact read_sm6 (l0 := []) S hx hf .nil (Nat.zero_le _) q
  have yes : ∀ l : Int, lo = some l → ptLo a lo = [some (a, some (l - 1))] → (tAsg (tLst (tCons (tTup (tCons (tOp (rIx K) (tVar 0) (tC (.int 0))) (tCons (tOp (rI0 fun i j => .int (i - j)) (tVar 3) (tC (.int 1))) tNil))) tNil)) (gName 5)) { D with nx := t_stretch_minus_6 K D } [some (.ref x), a1, a2, some (oV lo), some (oV hi), some (.ref f)] H := fun l el e => by
    subst el
    rw [e] at q
    refine rd_asg (rd_lst (rd_cons (rd_tup (rd_cons (rd_op (rd_var rfl (rd_c (rd_ixT (ex_t S.ex hx) rfl (rd_cons (rd_op (rd_var rfl (rd_c (rd_I0 (rd_nil ?_))))))))))))))
    refine mk_tup stt_world S (by show 2 ≤ _; decide) fun t G1 e1 S1 h1 => rd_nil ?_
    refine mk_lst stt_world S1 (by show 1 ≤ _; decide) fun r G2 e2 S2 h2 => rd_name ?_
    show t_stretch_minus_6 K D [some (.ref x), a1, a2, some (oV (some l)), some (oV hi), some (.ref r)] _
    have x0 := e1.trans e2
    exact read_sm6 (l0 := [some (a, some (l - 1))]) S2 (ex_t x0 hx) h2 (.cons (.tup (ex_t e2 (st_of h1)) (.cons (oDp a) (.cons (.int _) .nil))) .nil) (Nat.le_refl _) fun p us G' H' e' S' hp hA => q p us G' H' (x0.trans e') S' hp hA
  unfold t_stretch_minus_5
  refine rd_seq (rd_ifs (rd_and (rd_test (rd_op (rd_var rfl (rd_c (rd_notN (rd_bl ?_))))))))
  rcases lo with _ | l
  · rw [show (!decide (oV none = V.non)) = false from by rw [decide_eq_true (show oV none = V.non from rfl)]; rfl]
    exact no rfl
  · rw [show (!decide (oV (some l) = V.non)) = true from by rw [decide_eq_false (show ¬ oV (some l) = V.non from fun z => by cases z)]; rfl]
    refine rd_iT (rd_or (rd_test (rd_op (rd_op (rd_var rfl (rd_c (rd_ixT (ex_t S.ex hx) rfl (rd_c (rd_isN (rd_bl ?_))))))))))
    rcases a with _ | y
    · rw [decide_eq_true (show oV none = V.non from rfl)]
      exact rd_iT (rd_iT (yes l rfl rfl))
    · rw [decide_eq_false (show ¬ oV (some y) = V.non from fun z => by cases z)]
      refine rd_iF (rd_test (rd_op (rd_op (rd_var rfl (rd_c (rd_ixT (ex_t S.ex hx) rfl (rd_var rfl (rd_ltI (rd_bl ?_)))))))))
      by_cases c : y < l
      · rw [decide_eq_true c]
        exact rd_iT (yes l rfl (if_pos (decide_eq_true c)))
      · rw [decide_eq_false c]
        exact rd_iF (no (if_neg (fun z => c (of_decide_eq_true z))))
theorem CmV.dp {vs : List V} : ∀ {o : Option SD}, CmV K G vs o → DpAll K G vs (o.toList.map sD)
  | none, h => by cases h; exact .nil
  | some s, ⟨v, h1, h2⟩ => by subst h1; exact .cons h2.dp .nil
theorem sat_stretch_minus {vs : List V} (h : sp_stretch_minus K vs H Q E) : vs.length = 2 ∧ t_stretch_minus K { nx := fun _ H' => Q .non H', rt := Q } (vs.map some ++ List.replicate (6 - vs.length) none) H := by
  obtain ⟨x, y, s, t, G, L, rfl, S, hx, hy, q⟩ := h
  refine ⟨rfl, ?_⟩
  unfold t_stretch_minus
  refine rd_seq (rd_asg (rd_call (rd_cons (rd_var rfl (rd_cons (rd_var rfl (rd_nil ⟨x, y, s, t, G, L, rfl, S, hx, hy, fun p us G1 H1 e1 S1 hc => rd_name ?_⟩)))))))
  have S2 := S1.frz
  have e2 := e1.trans S1.frzE
  have hp : SqL K (upd G1 p (.lst us)) p us := sq_of upd_same
  have hd := DpAll.ex S1.frzE _ _ hc.dp
  have hc2 : CmV K (upd G1 p (.lst us)) us (cm s t) := by
    cases e : cm s t with
    | none => rw [e] at hc; exact hc
    | some u => rw [e] at hc; obtain ⟨v, h1, h2⟩ := hc; exact ⟨v, h1, h2.ex S1.frzE⟩
  generalize upd G1 p (.lst us) = G2 at *
  show t_stretch_minus_1 K _ [some x, some y, some (.ref p), none, none, none] _
  unfold t_stretch_minus_1
  refine rd_seq (rd_ifs (rd_test (rd_op (rd_var rfl (rd_nilEq S2 hp hd (sds_shaped _) fun G3 H3 e3 S3 => rd_bl ?_)))))
  have e23 := e2.trans e3
  have hx3 := hx.ex e23
  have q2 : ∀ p us G' H', Ex G3 G' → Stt G' H' L → SqL K G' p us → DpAll K G' us ((stM s t).map sD) → Q (.ref p) H' := fun p us G' H' e' S' => q p us G' H' (e23.trans e') S'
  unfold stM at q2
  cases ec : cm s t with
  | none =>
    rw [ec] at q2
    rw [decide_eq_true (show List.map sD (none : Option SD).toList = [] from rfl)]
    refine rd_iT (rd_ret (rd_lst (rd_cons (rd_var rfl (rd_nil ?_)))))
    refine mk_lst stt_world S3 (by show 1 ≤ _; decide) fun l G4 e4 S4 h4 => ?_
    exact q2 l [x] G4 _ e4 S4 (sq_of h4) (.cons (Dp.ex e4 _ _ hx3.dp) .nil)
  | some u =>
    rw [ec] at q2 hc2
    obtain ⟨v, rfl, hv⟩ := hc2
    refine (if_neg (by rw [decide_eq_false (fun z => by cases z)]; exact Bool.false_ne_true)).mpr (rd_next ?_)
    show t_stretch_minus_2 K _ _ _
    unfold t_stretch_minus_2
    refine rd_seq (rd_ifs (rd_test (rd_op (rd_var rfl (rd_c (rd_isN (rd_bl ?_)))))))
    rcases s with _ | ⟨a, b⟩
    · cases hx3
      refine (if_pos (decide_eq_true rfl)).mpr (rd_ret (rd_lst (rd_nil ?_)))
      refine mk_lst stt_world S3 (Nat.zero_le _) fun l G4 e4 S4 h4 => ?_
      exact q2 l [] G4 _ e4 S4 (sq_of h4) .nil
    · obtain ⟨m, rfl, hm⟩ := hx3
      refine (if_neg (by rw [ref_non]; exact Bool.false_ne_true)).mpr (rd_next ?_)
      obtain ⟨lo, hi, rfl⟩ : ∃ lo hi, u = some (lo, hi) := by
        rcases t with _ | ⟨c, d⟩
        · cases ec
        · rcases cm_cases a b c d with e | ⟨e, _⟩
          · rw [e] at ec; cases ec
          · rw [e] at ec; exact ⟨_, _, (Option.some.inj ec).symm⟩
      obtain ⟨r, rfl, hr⟩ := hv
      show t_stretch_minus_3 K _ _ _
      unfold t_stretch_minus_3
      refine rd_seq (rd_asg (rd_op (rd_var rfl (rd_c (rd_ixL (ex_l (e3.trans S3.ex) hp) rfl (rd_gtup2 (ex_t (e3.trans S3.ex) hr) ?_))))))
      show t_stretch_minus_4 K _ [some (.ref m), some y, some (.ref p), some (oV lo), some (oV hi), none] _
      unfold t_stretch_minus_4
      refine rd_seq (rd_asg (rd_lst (rd_nil ?_)))
      refine mk_lst stt_world S3 (Nat.zero_le _) fun l G4 e4 S4 h4 => rd_name ?_
      show t_stretch_minus_5 K _ [some (.ref m), some y, some (.ref p), some (oV lo), some (oV hi), some (.ref l)] _
      exact read_sm5 S4 (ex_t e4 hm) h4 fun p us G' H' e' S' hp hA => q2 p us G' H' (e4.trans e') S' hp hA
end

/-! box_minus, covers, == and within. -/
open PySem PySem.Spec PyProof.Rows L2 Evl RZ NumText



theorem cutT_to {xs : List V} (k : Nat) : cutV xs none (some (k : Int)) = xs.take k := by
  unfold cutV; rw [HT.sIx_none, show HT.sIx xs.length xs.length (some (k : Int)) = min k xs.length from HT.sIx_nat _ _ k, List.drop_zero, Nat.sub_zero, ← List.take_take, List.take_length]
theorem cutT_from {xs : List V} (k : Nat) : cutV xs (some (k : Int)) none = xs.drop k := by
  unfold cutV; rw [HT.sIx_none, show HT.sIx xs.length 0 (some (k : Int)) = min k xs.length from HT.sIx_nat _ _ k]
  by_cases c : k ≤ xs.length
  · rw [Nat.min_eq_left c, List.take_of_length_le (by rw [List.length_drop]; exact Nat.le_refl _)]
  · rw [Nat.min_eq_right (by omega), List.drop_eq_nil_of_le (Nat.le_refl _), List.drop_eq_nil_of_le (by omega), List.take_nil]
theorem rd_slTT {W : Hp → Hp → List (Addr × HO) → Prop} {K : PySem.W.Frag} {G H : Hp} {L : List (Addr × HO)} {Q : VK} {a : Addr} {xs : List V} (hW : Wd W) (S : W G H L) {lo hi : Option Int} (h : SqT K G a xs) (q : ∀ p G' H', Ex G G' → W G' H' L → SqT K G' p (cutV xs lo hi) → Q (.ref p) H') : rSlA K (.ref a) lo hi H Q := by
  refine ⟨a, xs, rfl, ex_t (hW.ex S) h, fun ⟨h1, h2⟩ => q a G H (Ex.refl G) S ?_, fun _ => mk_im (o := .tup (cutV xs lo hi)) hW S fun p G1 e1 S1 h1 => q p G1 _ e1 S1 (st_of h1)⟩
  have e : cutV xs lo hi = xs := by
    unfold cutV
    rw [h1, h2, List.drop_zero, Nat.sub_zero, List.take_length]
  rw [e]
  exact h
theorem rd_gtup3 {K : PySem.W.Frag} {σ : L2.St} {H : Hp} {i j k : Nat} {T : Addr} {x y z : V} {N : L2.St → Hp → Prop} (h : SqT K H T [x, y, z]) (q : N (((σ.set i (some x)).set j (some y)).set k (some z)) H) : gTup K 3 (gCons (gName i) (gCons (gName j) (gCons (gName k) gNil))) (.ref T) σ H N :=
  ⟨T, [x, y, z], rfl, h, rfl, x, [y, z], rfl, y, [z], rfl, z, [], rfl, rfl, q⟩
/-- the boxes still to come, what was passed ahead of them -/
theorem bxP_cons {s t : SD} {a b ls : BX} : (bxP (s :: a) (t :: b)).map (ls ++ ·) = ((stM s t).map fun p => ls ++ [p] ++ a) ++ (bxP a b).map ((ls ++ [cmD s t]) ++ ·) := by
  show ((stM s t).map (· :: a) ++ (bxP a b).map (cmD s t :: ·)).map (ls ++ ·) = _
  rw [List.map_append, List.map_map, List.map_map]
  congr 1
  · exact List.map_congr_left fun p _ => by show ls ++ (p :: a) = ls ++ [p] ++ a; rw [List.append_assoc]; rfl
  · exact List.map_congr_left fun p _ => by show ls ++ (cmD s t :: p) = (ls ++ [cmD s t]) ++ p; rw [List.append_assoc]; rfl
section
variable {K : PySem.W.Frag} [SB : BndK K] {σ : L2.St} {G H : Hp} {L M : List (Addr × HO)} {Q : VK} {E : XK} {D : Ends}
def sp_box_minus (K : PySem.W.Frag) : Sp := fun vs H Q _ => ∃ (a b : Addr) (xs ys : List V) (A B : BX) (G : Hp) (L : List (Addr × HO)), vs = [.ref a, .ref b] ∧ Stt G H L ∧ SqT K G a xs ∧ DpAll K G xs (A.map sD) ∧ SqT K G b ys ∧ DpAll K G ys (B.map sD) ∧ A.length = B.length ∧ A.length ≤ 100 ∧
  ∀ p us G' H', Ex G G' → Stt G' H' L → SqL K G' p us → DpAll K G' us ((bxM A B).map boxD) → Q (.ref p) H'
def t_box_minus_2b_2 (K : PySem.W.Frag) : TS :=
  (tAsg (tOp (gAdd K) (tVar 3) (tTup (tCons (tOp (rIx K) (tCall (sp_common K) [] E0 (tCons (tVar 6) (tCons (tVar 5) tNil))) (tC (.int 0))) tNil))) (gName 3))
def t_box_minus_2b_1 (K : PySem.W.Frag) : TS :=
  (tSeq (tAsg (tOp (gAdd K) (tVar 2) (tLc (iList K (tCall (sp_stretch_minus K) [] E0 (tCons (tVar 6) (tCons (tVar 5) tNil)))) (gName 7) tYes (tOp (gAdd K) (tOp (gAdd K) (tVar 3) (tTup (tCons (tVar 7) tNil))) (tVar 4)) [7])) (gName 2))
  (t_box_minus_2b_2 K))
def t_box_minus_2b (K : PySem.W.Frag) : TS :=
  (tSeq (tAsg (tTup (tCons (tOp (rIx K) (tVar 4) (tC (.int 0))) (tCons (tSl (rSlA K) (tVar 4) (tPart (tC (.int 1))) tNoPart) tNil))) (gTup K 2 (gCons (gName 6) (gCons (gName 4) gNil))))
  (t_box_minus_2b_1 K))
def t_box_minus_3 (K : PySem.W.Frag) : TS :=
  (tRet (tVar 2))
def t_box_minus_2 (K : PySem.W.Frag) : TS :=
  (tSeq (tFor (iTup K (tVar 1)) (gName 5) (t_box_minus_2b K))
  (t_box_minus_3 K))
def t_box_minus_1 (K : PySem.W.Frag) : TS :=
  (tSeq (tAsg (tTup (tCons (tLst tNil) (tCons (tTup tNil) (tCons (tVar 0) tNil)))) (gTup K 3 (gCons (gName 2) (gCons (gName 3) (gCons (gName 4) gNil)))))
  (t_box_minus_2 K))
def t_box_minus (K : PySem.W.Frag) : TS :=
  (tSeq (tIfS (tTest (tOp (gEq K) (tCall (sp_box_common K) [] E0 (tCons (tVar 0) (tCons (tVar 1) tNil))) (tLst tNil))) (tRet (tLst (tCons (tVar 0) tNil))) tNext)
  (t_box_minus_1 K))
theorem sat_box_minus {vs : List V} (h : sp_box_minus K vs H Q E) : vs.length = 2 ∧ t_box_minus K { nx := fun _ H' => Q .non H', rt := Q } (vs.map some ++ List.replicate (8 - vs.length) none) H := by
  obtain ⟨a, b, xs, ys, A, B, G, L, rfl, S, ha, hA, hb, hB, hAB, h100, q⟩ := h
  refine ⟨rfl, ?_⟩
  have hxl := DpAll.length hA
  have hyl := DpAll.length hB
  rw [List.length_map] at hxl hyl
  unfold t_box_minus
  refine rd_seq (rd_ifs (rd_test (rd_op (rd_call (rd_cons (rd_var rfl (rd_cons (rd_var rfl (rd_nil ?_)))))))))
  refine ⟨a, b, xs, ys, A, B, G, L, rfl, S, ha, hA, hb, hB, hAB, h100, fun p us G1 H1 e1 S1 hp hus => ?_⟩
  refine rd_nilEq S1 hp hus (bxs_shaped _) fun G2 H2 e2 S2 => rd_bl ?_
  have e12 := e1.trans e2
  unfold bxM at q
  by_cases c : bcs A B = []
  · rw [if_pos c] at q
    rw [decide_eq_true (by rw [c]; rfl)]
    refine rd_iT (rd_ret (rd_lst (rd_cons (rd_var rfl (rd_nil ?_)))))
    refine mk_lst stt_world S2 (by show 1 ≤ _; decide) fun l G4 e4 S4 h4 => ?_
    exact q l [.ref a] G4 _ (e12.trans e4) S4 (sq_of h4) (.cons (.tup (ex_t (e12.trans e4) ha) (DpAll.ex (e12.trans e4) _ _ hA)) .nil)
  · rw [if_neg c] at q
    rw [decide_eq_false (fun z => c (List.map_eq_nil_iff.mp z))]
    refine rd_iF (rd_next ?_)
    have full : (bc A B).length = A.length := Decidable.not_not.mp fun z => c (bcs_nil.mpr z)
    show t_box_minus_1 K _ _ _
    unfold t_box_minus_1
    refine rd_seq (rd_asg (rd_tup (rd_cons (rd_lst (rd_nil ?_)))))
    refine mk_lst stt_world S2 (Nat.zero_le _) fun p0 G3 e3 S3 h3 => rd_cons (rd_tup (rd_nil ?_))
    refine mk_tup stt_world S3 (Nat.zero_le _) fun l0 G4 e4 S4 h4 => rd_cons (rd_var rfl (rd_nil ?_))
    refine mk_tup stt_world S4 (by show 3 ≤ _; decide) fun T0 G5 e5 S5 h5 => ?_
    refine rd_gtup3 (st_of (S5.ex _ _ h5)) ?_
    have e05 := e12.trans (e3.trans (e4.trans e5))
    show t_box_minus_2 K _ [some (.ref a), some (.ref b), some (.ref p0), some (.ref l0), some (.ref a), none, none, none] _
    unfold t_box_minus_2
    have hb5 := ex_t e05 hb
    refine rd_seq (rd_for (rd_it (rd_var rfl ⟨b, rfl, ⟨_, ex_t S5.ex hb5⟩, ?_⟩)))
    refine for_go (walk_tup (K := K) (a := b) (xs := ys)) (G := G5)
      (fun i σ1 G6 H6 => ∃ (p l r : Addr) (us lv rv : List V) (fs : List BX) (ls : BX) (x5 x6 x7 : Option V), σ1 = [some (.ref a), some (.ref b), some (.ref p), some (.ref l), some (.ref r), x5, x6, x7] ∧ Ex G5 G6 ∧ Stt G6 H6 L ∧ G6 p = some (.lst us) ∧ DpAll K G6 us (fs.map boxD) ∧
        SqT K G6 l lv ∧ DpAll K G6 lv (ls.map sD) ∧ SqT K G6 r rv ∧ DpAll K G6 rv ((A.drop i).map sD) ∧ fs ++ (bxP (A.drop i) (B.drop i)).map (ls ++ ·) = bxP A B ∧ (bc (A.drop i) (B.drop i)).length = (A.drop i).length ∧ ls.length = i)
      ⟨p0, l0, a, [], [], xs, [], [], _, _, _, rfl, Ex.refl _, S5, e5 _ _ (e4 _ _ h3), .nil, ex_t e5 (st_of h4), .nil, ex_t e05 ha, DpAll.ex e05 _ _ hA, by rw [List.drop_zero, List.drop_zero]; show (bxP A B).map (fun x => x) = _; rw [List.map_id'], full, rfl⟩
      (fun i σ1 G2 H2 _ ⟨_, _, _, _, _, _, _, _, _, _, _, _, e2, S2, _⟩ => ex_t (e2.trans S2.ex) hb5) ?_ ?_
    · rintro i v σ1 G6 H6 H7 hi ⟨p, l, r, us, lv, rv, fs, ls, x5, x6, x7, rfl, e6, S6, hp6, hus6, hl6, hlv6, hr6, hrv6, rel, fl, lsl⟩ y N hN
      obtain ⟨rfl, hv⟩ := y
      obtain ⟨d2, hd2, dp2⟩ := DpAll.get hB hv
      obtain ⟨t, ht, rfl⟩ := get_map hd2
      have hiA : i < A.length := by omega
      obtain ⟨s, hs⟩ : ∃ s, A[i]? = some s := ⟨A[i], List.getElem?_eq_getElem hiA⟩
      have dA : A.drop i = s :: A.drop (i + 1) := by
        rw [List.drop_eq_getElem_cons hiA]
        rw [List.getElem?_eq_getElem hiA] at hs
        rw [Option.some.inj hs]
      have dB : B.drop i = t :: B.drop (i + 1) := by
        have hiB : i < B.length := by omega
        rw [List.drop_eq_getElem_cons hiB]
        rw [List.getElem?_eq_getElem hiB] at ht
        rw [Option.some.inj ht]
      rw [dA] at hrv6
      rw [dA, dB] at rel fl
      rw [bxP_cons] at rel
      obtain ⟨⟨u, hu⟩, fl2⟩ := bc_full fl
      have fsl : fs.length + (stM s t).length ≤ 200 := by
        have h1 := bxP_len A B
        rw [← rel, List.length_append, List.length_append, List.length_map] at h1
        omega
      have lA1 : (A.drop (i + 1)).length ≤ 100 := by rw [List.length_drop]; omega
      match rv, hrv6 with
      | x0 :: rv', .cons hx0 hrv' =>
      refine rd_name ?_
      show t_box_minus_2b K _ _ _
      unfold t_box_minus_2b
      refine rd_seq (rd_asg (rd_tup (rd_cons (rd_op (rd_var rfl (rd_c (rd_ixT (ex_t S6.ex hr6) (show atI (x0 :: rv') ((0 : Nat) : Int) = some x0 from atI_nat rfl) (rd_cons (rd_sl (rd_var rfl (rd_part (rd_c ⟨1, rfl, rd_noPart ?_⟩))))))))))))
      refine rd_slTT stt_world S6 hr6 fun r2 G7 H7 e7 S7 h7 => rd_nil ?_
      have h7 : SqT K G7 r2 rv' := by rw [show (1 : Int) = ((1 : Nat) : Int) from rfl, cutT_from] at h7; exact h7
      refine mk_tup stt_world S7 (by show 2 ≤ _; decide) fun T1 G8 e8 S8 h8 => ?_
      refine rd_gtup2 (st_of (S8.ex _ _ h8)) ?_
      have e68 := e7.trans e8
      have e58 := e05.trans (e6.trans e68)
      have hx8 : StV K G8 x0 s := stv_of (Dp.ex e68 _ _ hx0)
      have hv8 : StV K G8 v t := stv_of (Dp.ex e58 _ _ dp2)
      show t_box_minus_2b_1 K _ [some (.ref a), some (.ref b), some (.ref p), some (.ref l), some (.ref r2), some v, some x0, x7] _
      unfold t_box_minus_2b_1
      refine rd_seq (rd_asg (rd_op (rd_var rfl (rd_lc (rd_il (rd_call (rd_cons (rd_var rfl (rd_cons (rd_var rfl (rd_nil ?_)))))))))))
      refine ⟨x0, v, s, t, G8, L, rfl, S8, hx8, hv8, fun ps zs G9 H9 e9 S9 hps hzs => ⟨ps, rfl, ⟨_, ex_l S9.ex hps⟩, ?_⟩⟩
      have hzl := DpAll.length hzs
      rw [List.length_map] at hzl
      have e69 := e68.trans e9
      have hlvl := DpAll.length hlv6
      rw [List.length_map] at hlvl
      have hrvl := DpAll.length hrv'
      rw [List.length_map] at hrvl
      refine lc_go stt_world (walk_list (K := K) (a := ps) (xs := zs)) S9 (by omega) (fun j v _ => zs[j]? = some v) (fun j acc Gx => DpAll K Gx acc (((stM s t).take j).map fun p => boxD (ls ++ [p] ++ A.drop (i + 1)))) (fun H' e' => ex_l e' hps)
        (fun i x G1 H1 H2 L1 _ e1 S1 y => item_at S1 y) .nil (fun j acc Ga Gb e h1 => DpAll.ex e _ _ h1) ?_ ?_
      · intro D1 j z acc Ga Ha hj _ ea Sa hacc it Kp Sk kp sk
        obtain ⟨dz, hdz, dpz⟩ := DpAll.get hzs it
        obtain ⟨pt, hpt, rfl⟩ := get_map hdz
        refine rd_name ⟨rfl, rd_yes (rd_iT (rd_op ?_))⟩
        refine rd_snocT stt_world Sa (fun R r => rd_var rfl r) (ex_t (e69.trans ea) hl6) (fun H1 R r => rd_var rfl r) (by omega) fun t2 Gb Hb eb Sb hb2 => rd_var rfl ?_
        have e6b := e69.trans (ea.trans eb)
        refine rd_catTT stt_world Sb hb2 (ex_t (e8.trans (e9.trans (ea.trans eb))) h7) (by rw [List.length_append]; show lv.length + 1 + _ ≤ _; omega) fun t3 Gc Hc ec Sc hc3 => kp _ Gc Hc (eb.trans ec) Sc ?_
        rw [List.take_add_one, hpt, List.map_append]
        refine dp_snoc (DpAll.ex (eb.trans ec) _ _ hacc) (.tup hc3 ?_)
        rw [List.map_append, List.map_append]
        exact dp_app2 (dp_snoc (DpAll.ex (e6b.trans ec) _ _ hlv6) (Dp.ex (ea.trans (eb.trans ec)) _ _ dpz)) (DpAll.ex (e6b.trans ec) _ _ hrv')
      · intro D1 acc Ga Ha ea Sa hacc hle
        rw [hzl, List.take_length] at hacc
        have hal := DpAll.length hacc
        rw [List.length_map] at hal
        have husl := DpAll.length hus6
        rw [List.length_map] at husl
        refine rd_addL (Sa.ex _ _ (ea _ _ (e9 _ _ (e68 _ _ hp6)))) (Sa.at 0 rfl) (sz_of (by omega)) ?_
        refine mk_im (o := .lst (us ++ acc)) stt_world Sa.drop fun p2 Gb eb Sb hb2 => rd_name ?_
        have e6b := e69.trans (ea.trans eb)
        have hx9 := hx8.ex (e9.trans (ea.trans eb))
        have hv9 := hv8.ex (e9.trans (ea.trans eb))
        show t_box_minus_2b_2 K _ [some (.ref a), some (.ref b), some (.ref p2), some (.ref l), some (.ref r2), some v, some x0, x7] _
        unfold t_box_minus_2b_2
        refine rd_asg ?_
        refine rd_op (rd_var rfl (rd_tup (rd_cons (rd_op (rd_call (rd_cons (rd_var rfl (rd_cons (rd_var rfl (rd_nil ?_)))))))))) 
        refine ⟨x0, v, s, t, Gb, L, rfl, Sb, hx9, hv9, fun pc uc Gc Hc ec Sc hc => ?_⟩
        rw [hu] at hc
        obtain ⟨vc, rfl, hvc⟩ := hc
        refine rd_c (rd_ixL (sq_of (Sc.at 0 rfl)) rfl (rd_nil ?_))
        refine mk_tup stt_world Sc.drop (by show 1 ≤ _; decide) fun t4 Gd ed Sd hd4 => ?_
        have e6d := e6b.trans (ec.trans ed)
        refine rd_catTT stt_world Sd (ex_t e6d hl6) (st_of hd4) (by show lv.length + 1 ≤ _; omega) fun l2 Ge He ee Se he => rd_name ?_
        have e6e := e6d.trans ee
        refine hN _ Ge He ⟨p2, l2, r2, us ++ acc, lv ++ [vc], rv', fs ++ ((stM s t).map fun p => ls ++ [p] ++ A.drop (i + 1)), ls ++ [cmD s t], _, _, _, rfl, e6.trans e6e, Se, ee _ _ (ed _ _ (ec _ _ hb2)), ?_, he, ?_, ex_t (e8.trans (e9.trans (ea.trans (eb.trans (ec.trans (ed.trans ee)))))) h7, DpAll.ex e6e _ _ hrv', ?_, fl2, by rw [List.length_append, lsl]; rfl⟩
        · rw [List.map_append, List.map_map]
          exact dp_app2 (DpAll.ex e6e _ _ hus6) (DpAll.ex (eb.trans (ec.trans (ed.trans ee))) _ _ hacc)
        · rw [List.map_append]
          refine dp_snoc (DpAll.ex e6e _ _ hlv6) ?_
          rw [show cmD s t = u from by unfold cmD; rw [hu]; rfl]
          exact Dp.ex (ed.trans ee) _ _ hvc.dp
        · rw [List.append_assoc]
          exact rel
    · rintro σ1 G6 H6 ⟨p, l, r, us, lv, rv, fs, ls, x5, x6, x7, rfl, e6, S6, hp6, hus6, hl6, hlv6, hr6, hrv6, rel, fl, lsl⟩
      have k : A.drop ys.length = [] := List.drop_eq_nil_of_le (by omega)
      rw [k] at rel
      rw [show bxP [] (B.drop ys.length) = [] from by cases B.drop ys.length <;> rfl, List.map_nil, List.append_nil] at rel
      subst rel
      show t_box_minus_3 K _ _ _
      unfold t_box_minus_3
      exact rd_ret (rd_var rfl (q p us G6 H6 (e05.trans e6) S6 (sq_of hp6) hus6))
end

/-! covers, == and within. -/
open PySem PySem.Spec PyProof.Rows L2 Evl RZ NumText



/-- in_go, for lists of up to sixteen million items -/
theorem in_goL {W : Hp → Hp → List (Addr × HO) → Prop} {J1 : It} {n1 : Nat} {Gw1 : Hp → Prop} {Y1 : Nat → Hp → V → Hp → Prop} {G H : Hp} {L : List (Addr × HO)} {σ : L2.St} {g1 : TG} {tt1 : TT} {te : TE} {vs1 : List Nat}
    {D : Addr} {acc0 : List V} {Nx : Hp → Prop} (hW : Wd W) (w : Walk J1 n1 Gw1 Y1) (S : W G H ((D, .lst acc0) :: L)) (hz : acc0.length + n1 < 16000000) (It1 : Nat → V → Hp → Prop) (Inv1 : Nat → List V → Hp → Prop)
    (hG : ∀ H', Ex G H' → Gw1 H')
    (hY : ∀ i x G1 H1 H2 L1, i < n1 → Ex G G1 → W G1 H1 L1 → Y1 i H1 x H2 → ∃ G2, Ex G1 G2 ∧ W G2 H2 L1 ∧ It1 i x G2)
    (h0 : Inv1 0 acc0 G) (hM : ∀ i acc G1 G2, Ex G1 G2 → Inv1 i acc G1 → Inv1 i acc G2)
    (hS : ∀ i x acc G1 H1, i < n1 → Ex G G1 → W G1 H1 ((D, .lst acc) :: L) → Inv1 i acc G1 → It1 i x G1 → ∀ (Kp : VK) (Sk : Hp → Prop),
      (∀ v G2 H2, Ex G1 G2 → W G2 H2 ((D, .lst acc) :: L) → Inv1 (i + 1) (acc ++ [v]) G2 → Kp v H2) →
      (∀ G2 H2, Ex G1 G2 → W G2 H2 ((D, .lst acc) :: L) → Inv1 (i + 1) acc G2 → Sk H2) →
      g1 x (wipe σ vs1) H1 fun σ3 H2 => wipe σ3 vs1 = wipe σ vs1 ∧ tt1 σ3 H2 fun b H3 => if b = true then te σ3 H3 Kp else Sk H3)
    (q : ∀ acc G2 H2, Ex G G2 → W G2 H2 ((D, .lst acc) :: L) → Inv1 n1 acc G2 → Nx H2) : InG J1 g1 tt1 te vs1 σ D H Nx := by
  have hsz : sizeLine = 16777216 := sizeLine_eq
  refine ⟨fun i m H' => m = n1 - i ∧ i ≤ n1 ∧ ∃ G1 acc, Ex G G1 ∧ W G1 H' ((D, .lst acc) :: L) ∧ Inv1 i acc G1 ∧ acc.length ≤ acc0.length + i, ⟨n1, rfl, Nat.zero_le _, G, acc0, Ex.refl G, S, h0, Nat.le_refl _⟩, ?_⟩
  rintro i m H1 ⟨rfl, hi, G1, acc, e1, S1, I1, l1⟩
  have gw := hG H1 (e1.trans (hW.ex S1))
  by_cases hlt : i < n1
  · refine .inr ⟨w.goes i H1 hlt gw, fun H' => ∃ G2 acc, Ex G G2 ∧ W G2 H' ((D, .lst acc) :: L) ∧ Inv1 (i + 1) acc G2 ∧ acc.length ≤ acc0.length + (i + 1), fun H' p' => ⟨n1 - (i + 1), by omega, rfl, hlt, p'⟩, fun x H2 y => ?_⟩
    obtain ⟨G2, e2, S2, it2⟩ := hY i x G1 H1 H2 _ hlt e1 S1 (w.yields i H1 x H2 hlt gw y)
    refine hS i x acc G2 H2 hlt (e1.trans e2) S2 (hM i acc G1 G2 e2 I1) it2 _ _ (fun v G3 H3 e3 S3 I3 => ?_) (fun G3 H3 e3 S3 I3 => ?_)
    · exact ⟨acc, hW.get S3, by omega, G3, acc ++ [v], e1.trans (e2.trans e3), hW.set S3, I3, by rw [List.length_append, List.length_singleton]; omega⟩
    · exact ⟨G3, acc, e1.trans (e2.trans e3), S3, I3, by omega⟩
  · have e : i = n1 := by omega
    subst e
    exact .inl ⟨w.stops H1 gw, q acc G1 H1 e1 S1 I1⟩
/-- a list of boxes -/
def BxL (K : PySem.W.Frag) (G : Hp) (p : Addr) (bs : List BX) : Prop := ∃ us, SqL K G p us ∧ DpAll K G us (bs.map boxD)
theorem BxL.ex {K : PySem.W.Frag} {G G' : Hp} {p : Addr} {bs : List BX} (e : Ex G G') : BxL K G p bs → BxL K G' p bs := fun ⟨us, h1, h2⟩ => ⟨us, ex_l e h1, DpAll.ex e _ _ h2⟩
theorem BxL.dp {K : PySem.W.Frag} {G : Hp} {p : Addr} {bs : List BX} (h : BxL K G p bs) : Dp K G (.ref p) (.list (bs.map boxD)) := by
  obtain ⟨us, h1, h2⟩ := h
  exact .lst h1 h2
theorem minA_take {as bs : List BX} {i : Nat} {b : BX} (h : as[i]? = some b) : minA (as.take (i + 1)) bs = (minA (as.take i) bs).flatMap fun x => bxM x b := by
  unfold minA; rw [List.take_add_one, h, List.foldl_append]
  rfl
theorem bxMF_take {b x : BX} {R : List BX} {j : Nat} (h : R[j]? = some x) : ((R.take (j + 1)).flatMap fun x => bxM x b) = ((R.take j).flatMap fun x => bxM x b) ++ bxM x b := by
  rw [List.take_add_one, h, List.flatMap_append]
  show _ ++ (bxM x b ++ []) = _
  rw [List.append_nil]
theorem minA_len {w : Nat} {bs : List BX} (w1 : 1 ≤ w) (w3 : w ≤ 3) : ∀ {as : List BX}, (∀ x, x ∈ as → x.length = w) → (∀ x, x ∈ bs → GB w x) → (minA as bs).length ≤ bs.length * 6 ^ as.length := by
  intro as
  induction as generalizing bs with
  | nil => intro _ _; show bs.length ≤ bs.length * 1; omega
  | cons b as ih =>
    intro ha hb
    have h1 := ih (bs := bs.flatMap fun x => bxM x b) (fun x hx => ha x (List.mem_cons_of_mem _ hx)) (flat_good (ha b (List.mem_cons_self ..)) hb)
    have h2 := flat_len (b := b) w1 w3 hb
    show (minA as (bs.flatMap fun x => bxM x b)).length ≤ bs.length * 6 ^ (as.length + 1)
    rw [Nat.pow_succ]
    have h3 : (bs.flatMap fun x => bxM x b).length * 6 ^ as.length ≤ 6 * bs.length * 6 ^ as.length := Nat.mul_le_mul_right _ h2
    have h4 : 6 * bs.length * 6 ^ as.length = bs.length * (6 ^ as.length * 6) := by rw [Nat.mul_comm (6 ^ as.length) 6, ← Nat.mul_assoc, Nat.mul_comm 6 bs.length]
    omega
/-- values that are no bound -/
class KitB (K : PySem.W.Frag) : Prop where
  non : PySem.W.kitOne K (.type "NoneType") (.ref (cls_at K "Bound")) = some false
  str : PySem.W.kitOne K (.type "str") (.ref (cls_at K "Bound")) = some false
  lst : PySem.W.kitOne K (.type "list") (.ref (cls_at K "Bound")) = some false
  ne : PySem.W.findIn K (.ref (cls_at K "Bound")) "__ne__" = some (some (.builtin "object.__ne__"))
def NoBd (K : PySem.W.Frag) (H : Hp) (y : V) : Prop := y = .non ∨ (∃ t, y = .str t) ∨ ∃ p xs, y = .ref p ∧ SqL K H p xs
section
variable {K : PySem.W.Frag} [SB : BndK K] {σ : L2.St} {G H : Hp} {L M : List (Addr × HO)} {Q : VK} {E : XK} {D : Ends}
theorem rd_boxesOf {x : Addr} {w : Nat} {bs : List BX} {σ : L2.St} {i : Nat} (hi : σ[i]? = some (some (.ref x))) (S : Stt G H M) (hx : BdAt K G x w bs) (q : ∀ p G' H', Ex G G' → Stt G' H' M → BxL K G' p bs → Q (.ref p) H') :
    tMeth (cls_at K "Bound") "boxes" (sp_Bound_boxes K) [] E0 (tVar i) tNil σ H Q := by
  obtain ⟨⟨dx, tb, us, ob, hu, hA⟩, _⟩ := hx
  refine rd_meth (rd_var hi ⟨x, _, _, rfl, S.ex _ _ ob, bndF_no _ _ (by decide +kernel) (by decide +kernel), rd_nil ⟨x, dx, tb, _, us, G, M, rfl, S, ob, hu, fun p H1 S1 => ?_⟩⟩)
  exact q p _ H1 S1.frzE S1.frz ⟨us, sq_of upd_same, DpAll.ex S1.frzE _ _ hA⟩
def sp_covers (K : PySem.W.Frag) : Sp := fun vs H Q _ => ∃ (x y : Addr) (w : Nat) (as bs : List BX) (G : Hp) (L : List (Addr × HO)), vs = [.ref x, .ref y] ∧ Stt G H L ∧ BdAt K G x w as ∧ BdAt K G y w bs ∧ 1 ≤ w ∧ w ≤ 3 ∧ as.length ≤ 8 ∧ bs.length ≤ 8 ∧
  ∀ G' H', Ex G G' → Stt G' H' L → Q (.bl (cvs as bs)) H'
def t_covers_1b (K : PySem.W.Frag) : TS :=
  (tAsg (tLc2 (iList K (tVar 2)) (gName 4) tYes (iList K (tCall (sp_box_minus K) [] E0 (tCons (tVar 4) (tCons (tVar 3) tNil)))) (gName 5) tYes (tVar 5) [4, 5] [5]) (gName 2))
def t_covers_2 (K : PySem.W.Frag) : TS :=
  (tRet (tOp (gEq K) (tVar 2) (tLst tNil)))
def t_covers_1 (K : PySem.W.Frag) : TS :=
  (tSeq (tFor (iList K (tMeth (cls_at K "Bound") "boxes" (sp_Bound_boxes K) [] E0 (tVar 0) tNil)) (gName 3) (t_covers_1b K))
  (t_covers_2 K))
def t_covers (K : PySem.W.Frag) : TS :=
  (tSeq (tAsg (tMeth (cls_at K "Bound") "boxes" (sp_Bound_boxes K) [] E0 (tVar 1) tNil) (gName 2))
  (t_covers_1 K))
theorem sat_covers {vs : List V} (h : sp_covers K vs H Q E) : vs.length = 2 ∧ t_covers K { nx := fun _ H' => Q .non H', rt := Q } (vs.map some ++ List.replicate (6 - vs.length) none) H := by
  obtain ⟨x, y, w, as, bs, G, L, rfl, S, hx, hy, w1, w3, la, lb, q⟩ := h
  refine ⟨rfl, ?_⟩
  have ga := hx.2
  have gb := hy.2
  unfold t_covers
  refine rd_seq (rd_asg (rd_boxesOf rfl S hy fun p0 G1 H1 e1 S1 h0 => rd_name ?_))
  show t_covers_1 K _ [some (.ref x), some (.ref y), some (.ref p0), none, none, none] _
  unfold t_covers_1
  refine rd_seq (rd_for (rd_il (rd_boxesOf rfl S1 (hx.ex e1) fun pb G2 H2 e2 S2 hb => ?_)))
  obtain ⟨ua, hpb, hua⟩ := hb
  have hual := DpAll.length hua
  rw [List.length_map] at hual
  refine ⟨pb, rfl, ⟨_, ex_l S2.ex hpb⟩, ?_⟩
  refine for_go (walk_list (K := K) (a := pb) (xs := ua)) (G := G2)
    (fun i σ1 G3 H3 => ∃ (r : Addr) (x3 x4 x5 : Option V), σ1 = [some (.ref x), some (.ref y), some (.ref r), x3, x4, x5] ∧ Ex G2 G3 ∧ Stt G3 H3 L ∧ BxL K G3 r (minA (as.take i) bs))
    ⟨p0, _, _, _, rfl, Ex.refl _, S2, h0.ex e2⟩ (fun i σ1 G3 H3 _ ⟨_, _, _, _, _, e3, S3, _⟩ => ex_l (e3.trans S3.ex) hpb) ?_ ?_
  · rintro i v σ1 G3 H3 H4 hi ⟨r, x3, x4, x5, rfl, e3, S3, hr⟩ y2 N hN
    obtain ⟨rfl, hv⟩ := y2
    obtain ⟨d, hd, dp⟩ := DpAll.get hua hv
    obtain ⟨b, hb, rfl⟩ := get_map hd
    obtain ⟨ba, bx, rfl, hba, hbx⟩ := box_inv (Dp.ex e3 _ _ dp)
    have bl := (ga b (List.mem_of_getElem? hb)).1
    obtain ⟨ru, hru, hrd⟩ := hr
    have hrl := DpAll.length hrd
    rw [List.length_map] at hrl
    have gt : ∀ z, z ∈ as.take i → z.length = w := fun z hz => (ga z (List.mem_of_mem_take hz)).1
    have gR : ∀ z, z ∈ minA (as.take i) bs → GB w z := minA_good _ _ gt gb
    have lR := minA_len w1 w3 gt gb
    have li : (as.take i).length = i := by rw [List.length_take]; omega
    rw [li] at lR
    have i7 : i ≤ 7 := by omega
    have p7 : (6 : Nat) ^ i ≤ 6 ^ 7 := Nat.pow_le_pow_right (by decide) i7
    have lR2 : (minA (as.take i) bs).length ≤ 8 * 6 ^ 7 := Nat.le_trans lR (Nat.mul_le_mul lb p7)
    have k67 : (6 : Nat) ^ 7 = 279936 := by decide
    refine rd_name ?_
    show t_covers_1b K _ [some (.ref x), some (.ref y), some (.ref r), some (.ref ba), x4, x5] _
    unfold t_covers_1b
    refine rd_asg (rd_lc2 (rd_il (rd_var rfl ⟨r, rfl, ⟨_, ex_l S3.ex hru⟩, ?_⟩)))
    refine lc2_go stt_world (walk_list (K := K) (a := r) (xs := ru)) S3 (fun j v _ => ru[j]? = some v) (fun j acc G4 => DpAll K G4 acc ((((minA (as.take i) bs).take j).flatMap fun z => bxM z b).map boxD)) (fun H' e' => ex_l e' hru)
      (fun i x G1 H1 H2 L1 _ e1 S1 y => item_at S1 y) .nil (fun j acc Ga Gb e h1 => DpAll.ex e _ _ h1) ?_ ?_
    · intro D1 j u acc G4 H4 hj e4 S4 hacc it Nx hNx
      obtain ⟨d2, hd2, dp2⟩ := DpAll.get hrd it
      obtain ⟨z, hz, rfl⟩ := get_map hd2
      obtain ⟨za, zx, rfl, hza, hzx⟩ := box_inv (Dp.ex e4 _ _ dp2)
      have zl := (gR z (List.mem_of_getElem? hz)).1
      refine rd_name ⟨rfl, rd_yes (rd_iT (rd_il (rd_call (rd_cons (rd_var rfl (rd_cons (rd_var rfl (rd_nil ?_))))))))⟩
      refine ⟨za, ba, zx, bx, z, b, G4, _, rfl, S4, hza, hzx, ex_t e4 hba, DpAll.ex e4 _ _ hbx, zl.trans bl.symm, by omega, fun pm um G5 H5 e5 S5 hpm hum => ⟨pm, rfl, ⟨_, ex_l S5.ex hpm⟩, ?_⟩⟩
      have huml := DpAll.length hum
      rw [List.length_map] at huml
      have hml := bxM_len (b := b) zl w1 w3
      have hal := DpAll.length hacc
      rw [List.length_map] at hal
      have hfl := flat_len (b := b) (rest := (minA (as.take i) bs).take j) w1 w3 fun z hz => gR z (List.mem_of_mem_take hz)
      have htl : ((minA (as.take i) bs).take j).length ≤ (minA (as.take i) bs).length := by rw [List.length_take]; omega
      refine in_goL stt_world (walk_list (K := K) (a := pm) (xs := um)) S5 (by omega) (fun k v _ => um[k]? = some v)
        (fun k acc' G6 => DpAll K G6 acc' ((((minA (as.take i) bs).take j).flatMap fun z => bxM z b).map boxD ++ ((bxM z b).take k).map boxD)) (fun H' e' => ex_l e' hpm)
        (fun i x G1 H1 H2 L1 _ e1 S1 y => item_at S1 y) (by rw [List.take_zero, List.map_nil, List.append_nil]; exact DpAll.ex e5 _ _ hacc) (fun j acc Ga Gb e h1 => DpAll.ex e _ _ h1) ?_ ?_
      · intro k z2 acc' G6 H6 hk e6 S6 hacc' it' Kp Sk kp sk
        obtain ⟨d3, hd3, dp3⟩ := DpAll.get hum it'
        obtain ⟨z3, hz3, rfl⟩ := get_map hd3
        refine rd_name ⟨rfl, rd_yes (rd_iT (rd_var rfl (kp _ G6 H6 (Ex.refl _) S6 ?_)))⟩
        rw [List.take_add_one, hz3, List.map_append, ← List.append_assoc]
        exact dp_snoc hacc' (Dp.ex e6 _ _ dp3)
      · intro acc' G6 H6 e6 S6 hacc'
        refine hNx acc' G6 H6 (e5.trans e6) S6 ?_
        rw [bxMF_take hz, List.map_append]
        rw [huml, List.take_length] at hacc'
        exact hacc'
    · intro D1 acc G4 H4 e4 S4 hacc
      have S5 := S4.frz
      have e5 := S4.frzE
      refine rd_name (hN _ _ H4 ⟨D1, _, _, _, rfl, e3.trans (e4.trans e5), S5, acc, sq_of upd_same, ?_⟩)
      rw [minA_take hb]
      rw [hrl, List.take_length] at hacc
      exact DpAll.ex e5 _ _ hacc
  · rintro σ1 G3 H3 ⟨r, x3, x4, x5, rfl, e3, S3, ru, hru, hrd⟩
    rw [hual, List.take_length] at hrd
    show t_covers_2 K _ _ _
    unfold t_covers_2
    refine rd_ret (rd_op (rd_var rfl (rd_nilEq S3 hru hrd (bxs_shaped _) fun G4 H4 e4 S4 => ?_)))
    have e := q G4 H4 (e1.trans (e2.trans (e3.trans e4))) S4
    unfold cvs at e
    rw [show decide ((minA as bs).map boxD = []) = decide (minA as bs = []) from decide_eq_decide.mpr List.map_eq_nil_iff]
    exact e
/-- covers(x, y), as it stands in a term -/
theorem rd_covers {x y : Addr} {w : Nat} {as bs : List BX} {i j : Nat} (hi : σ[i]? = some (some (.ref x))) (hj : σ[j]? = some (some (.ref y))) (S : Stt G H L) (hx : BdAt K G x w as) (hy : BdAt K G y w bs) (w1 : 1 ≤ w) (w3 : w ≤ 3) (la : as.length ≤ 8) (lb : bs.length ≤ 8)
    (q : ∀ G' H', Ex G G' → Stt G' H' L → Q (.bl (cvs as bs)) H') : tCall (sp_covers K) [] E0 (tCons (tVar i) (tCons (tVar j) tNil)) σ H Q :=
  rd_call (rd_cons (rd_var hi (rd_cons (rd_var hj (rd_nil ⟨x, y, w, as, bs, G, L, rfl, S, hx, hy, w1, w3, la, lb, q⟩)))))
/-! ### == -/
/-- whether two bounds are told equal -/
def bdEq (w w2 : Nat) (as bs : List BX) : Bool := decide (w = w2) && (cvs bs as && cvs as bs)
variable [KB : KitB K]
def sp_Bound_eq (K : PySem.W.Frag) : Sp := fun vs H Q _ => ∃ (x : Addr) (y : V) (w : Nat) (as : List BX) (G : Hp) (L : List (Addr × HO)), vs = [.ref x, y] ∧ Stt G H L ∧ BdAt K G x w as ∧ 1 ≤ w ∧ w ≤ 3 ∧ as.length ≤ 8 ∧
  ((∃ (b : Addr) (w2 : Nat) (bs : List BX), y = .ref b ∧ BdAt K G b w2 bs ∧ bs.length ≤ 8 ∧ ∀ G' H', Ex G G' → Stt G' H' L → Q (.bl (bdEq w w2 as bs)) H') ∨ (NoBd K H y ∧ Q (.bl false) H))
def t_Bound_eq_1 (K : PySem.W.Frag) : TS :=
  (tRet (tAndV (tCall (sp_covers K) [] E0 (tCons (tVar 1) (tCons (tVar 0) tNil))) (tCall (sp_covers K) [] E0 (tCons (tVar 0) (tCons (tVar 1) tNil)))))
def t_Bound_eq (K : PySem.W.Frag) : TS :=
  (tSeq (tIfS (tOr (tNot (tB (tCB (gIsi K) (tCons (tVar 1) (tCons (tC (.ref (cls_at K "Bound"))) tNil))))) (tTest (tOp (gNe K) (tFld K (tVar 0) "width") (tFld K (tVar 1) "width")))) (tRet (tC (.bl false))) tNext)
  (t_Bound_eq_1 K))
theorem rd_isBd {a : Addr} {w : Nat} {bs : List BX} (hb : BdAt K H a w bs) (q : Q (.bl true) H) : gIsi K [.ref a, .ref (cls_at K "Bound")] H Q := by
  obtain ⟨⟨dx, tb, us, ob, _, _⟩, _⟩ := hb
  exact .inl ⟨_, _, .ref (cls_at K "Bound"), .ref (cls_at K "Bound"), true, rfl, .own _, .base (.ins ob SB.ins.cl SB.ins.ha SB.ins.hn SB.ins.ht SB.ins.hm), by unfold PySem.W.kitOne; rw [if_pos (beq_self_eq_true _)], q⟩
theorem rd_isNB {z : V} (h : NoBd K H z) (q : Q (.bl false) H) : gIsi K [z, .ref (cls_at K "Bound")] H Q := by
  rcases h with rfl | ⟨t, rfl⟩ | ⟨p, xs, rfl, hp⟩
  · exact .inl ⟨_, _, .type "NoneType", .ref _, false, rfl, .own _, Dp.ty (H := H) .non, KB.non, q⟩
  · exact .inl ⟨_, _, .type "str", .ref _, false, rfl, .own _, Dp.ty (H := H) (.str t), KB.str, q⟩
  · exact .inl ⟨_, _, .type "list", .ref _, false, rfl, .own _, SqL.ty hp, KB.lst, q⟩
theorem sat_Bound_eq {vs : List V} (h : sp_Bound_eq K vs H Q E) : vs.length = 2 ∧ t_Bound_eq K { nx := fun _ H' => Q .non H', rt := Q } (vs.map some ++ List.replicate (2 - vs.length) none) H := by
  obtain ⟨x, y, w, as, G, L, rfl, S, hx, w1, w3, la, h⟩ := h
  refine ⟨rfl, ?_⟩
  unfold t_Bound_eq
  rcases h with ⟨b, w2, bs, rfl, hb, lb, q⟩ | ⟨no, q⟩
  · refine rd_seq (rd_ifs (rd_or (rd_not (rd_B (rd_cb (rd_cons (rd_var rfl (rd_cons (rd_c (rd_nil (rd_isBd (hb.ex S.ex) (rd_bl (rd_nT ?_)))))))))))))
    have ⟨⟨dx, tx, us, ob, _, _⟩, _⟩ := hx
    have ⟨⟨dy, ty, vs, ob2, _, _⟩, _⟩ := hb
    refine rd_test (rd_op (rd_fld (rd_var rfl (rd_Bw (S.ex _ _ ob) (rd_fld (rd_var rfl (rd_Bw (S.ex _ _ ob2) (rd_neI (rd_bl ?_)))))))))
    unfold bdEq at q
    by_cases e : w = w2
    · subst e
      rw [decide_eq_true (rfl : ((w : Nat) : Int) = (w : Nat))]
      refine rd_nT (rd_next ?_)
      show t_Bound_eq_1 K _ _ _
      unfold t_Bound_eq_1
      refine rd_ret (rd_andV (rd_covers rfl rfl S hb hx w1 w3 lb la fun G1 H1 e1 S1 => ⟨_, rfl, ?_⟩))
      rw [decide_eq_true rfl, Bool.true_and] at q
      cases c : cvs bs as with
      | true =>
        rw [c, Bool.true_and] at q
        exact rd_iT (rd_covers rfl rfl S1 (hx.ex e1) (hb.ex e1) w1 w3 la lb fun G2 H2 e2 S2 => q G2 H2 (e1.trans e2) S2)
      | false =>
        rw [c, Bool.false_and] at q
        exact rd_iF (q G1 H1 e1 S1)
    · rw [decide_eq_false (show ¬ ((w : Nat) : Int) = (w2 : Nat) by omega)]
      rw [decide_eq_false e, Bool.false_and] at q
      exact rd_nF (rd_ret (rd_c (q G H (Ex.refl G) S)))
  · refine rd_seq (rd_ifs (rd_or (rd_not (rd_B (rd_cb (rd_cons (rd_var rfl (rd_cons (rd_c (rd_nil (rd_isNB no (rd_bl (rd_nF ?_)))))))))))))
    exact rd_iT (rd_ret (rd_c q))
/-! ### within -/
def sp_Bound_within (K : PySem.W.Frag) : Sp := fun vs H Q E => ∃ (x y : Addr) (w w2 : Nat) (as bs : List BX) (G : Hp) (L : List (Addr × HO)), vs = [.ref x, .ref y] ∧ Stt G H L ∧ BdAt K G x w as ∧ BdAt K G y w2 bs ∧ 1 ≤ w ∧ w ≤ 3 ∧ as.length ≤ 8 ∧ bs.length ≤ 8 ∧
  (w = w2 → ∀ G' H', Ex G G' → Stt G' H' L → Q (.bl (cvs bs as)) H') ∧
  (w ≠ w2 → ∀ dd G' H', Ex G G' → Stt G' H' L → H' dd = some (.xd (excZ "OtherWidth")) → E (.ref (cls_at K "OtherWidth")) (some dd) H')
def t_Bound_within_1 (K : PySem.W.Frag) (E : XK) : TS :=
  (tRet (tCall (sp_covers K) [] E0 (tCons (tVar 1) (tCons (tVar 0) tNil))))
def t_Bound_within (K : PySem.W.Frag) (E : XK) : TS :=
  (tSeq (tDrop (tCall (sp_need_width K) [] E (tCons (tFld K (tVar 0) "width") (tCons (tFld K (tVar 1) "width") tNil))))
  (t_Bound_within_1 K E))
theorem sat_Bound_within {vs : List V} (h : sp_Bound_within K vs H Q E) : vs.length = 2 ∧ t_Bound_within K E { nx := fun _ H' => Q .non H', rt := Q } (vs.map some ++ List.replicate (2 - vs.length) none) H := by
  obtain ⟨x, y, w, w2, as, bs, G, L, rfl, S, hx, hy, w1, w3, la, lb, q, qe⟩ := h
  refine ⟨rfl, ?_⟩
  have ⟨⟨dx, tx, us, ob, _, _⟩, _⟩ := hx
  have ⟨⟨dy, ty, vs, ob2, _, _⟩, _⟩ := hy
  unfold t_Bound_within
  refine rd_seq (rd_needW rfl rfl S ob ob2 qe fun e => ?_)
  subst e
  show t_Bound_within_1 K E _ _ _
  unfold t_Bound_within_1
  exact rd_ret (rd_covers rfl rfl S hy hx w1 w3 lb la (q rfl))
end

/-! The law's own bound, its keys, boxes cut. -/
open PySem PySem.Spec PyProof.Rows L2 Evl RZ NumText



def kyD (k : List (Option Int)) : PyData := .tuple (k.map oD)
theorem ky_inv {K : PySem.W.Frag} {H : Hp} {v : V} {k : List (Option Int)} (h : Dp K H v (kyD k)) : ∃ a, v = .ref a ∧ SqT K H a (k.map oV) := by
  unfold kyD at h
  cases h with
  | @tup a xs _ ha hA =>
  have e : xs = k.map oV := by
    clear ha
    induction k generalizing xs with
    | nil => cases hA; rfl
    | cons o k ih =>
      cases hA with
      | cons h1 h2 => rw [dp_oV h1, ih h2]; rfl
  subst e
  exact ⟨a, rfl, ha⟩
theorem dp_rev {K : PySem.W.Frag} [BndK K] {H : Hp} : ∀ {us : List V} {ds : List PyData}, DpAll K H us ds → DpAll K H us.reverse ds.reverse
  | _, _, .nil => .nil
  | _, _, .cons h1 h2 => by
    rw [List.reverse_cons, List.reverse_cons]; exact dp_snoc (dp_rev h2) h1
theorem prods_take {ss : List (Option Int)} {R : List (List (Option Int))} {j : Nat} {k : List (Option Int)} (h : R[j]? = some k) : ((R.take (j + 1)).flatMap fun k => ss.map fun o => k ++ [o]) = ((R.take j).flatMap fun k => ss.map fun o => k ++ [o]) ++ ss.map fun o => k ++ [o] := by
  rw [List.take_add_one, h, List.flatMap_append]
  show _ ++ ((ss.map fun o => k ++ [o]) ++ []) = _
  rw [List.append_nil]
section
variable {K : PySem.W.Frag} [SB : BndK K] {σ : L2.St} {G H : Hp} {L M : List (Addr × HO)} {Q : VK} {E : XK} {D : Ends} {b : Addr}
def sp_bound (K : PySem.W.Frag) : Sp := fun vs H Q _ => ∃ (w : Nat) (p : Addr) (bs : List BX) (G : Hp) (L : List (Addr × HO)), vs = [.int (w : Nat), .ref p] ∧ Stt G H L ∧ BxL K G p bs ∧ 1 ≤ w ∧ w ≤ 3 ∧ bs.length ≤ 9 ∧ BxOk w bs ∧
  ∀ x G' H', Ex G G' → Stt G' H' L → BdAt K G' x w bs → Q (.ref x) H'
def t_bound (K : PySem.W.Frag) : TS :=
  (tRet (tStc (cls_at K "Bound") (sp_Bound_read K) (tC (.ref (cls_at K "Bound"))) (tCons (tVar 0) (tCons (tCall (sp_bound_text K) [] E0 (tCons (tVar 1) tNil)) tNil))))
theorem sat_bound {vs : List V} (h : sp_bound K vs H Q E) : vs.length = 2 ∧ t_bound K { nx := fun _ H' => Q .non H', rt := Q } (vs.map some ++ List.replicate (2 - vs.length) none) H := by
  obtain ⟨w, p, bs, G, L, rfl, S, ⟨us, hp, hA⟩, w1, w3, l9, ok, q⟩ := h
  refine ⟨rfl, ?_⟩
  unfold t_bound
  refine rd_ret (rd_c ⟨rfl, rd_cons (rd_var rfl (rd_cons (rd_call (rd_cons (rd_var rfl (rd_nil ?_))))))⟩)
  refine ⟨p, us, bs, G, L, rfl, S, hp, hA, by omega, fun b hb => ⟨by rw [(ok b hb).1.1]; exact w3, (ok b hb).2⟩, fun G1 H1 e1 S1 => rd_nil ?_⟩
  exact ⟨w, bs, G1, L, rfl, S1, w1, w3, l9, ok, fun x G' H' e' S' hx => q x G' H' (e1.trans e') S' hx⟩
/-! ### all keys over some values -/
def sp_products (K : PySem.W.Frag) : Sp := fun vs H Q _ => ∃ (p r : Addr) (w : Nat) (os : List (Option Int)) (G : Hp) (L : List (Addr × HO)), vs = [.ref p] ∧ Stt G H L ∧ SqL K G p (List.replicate w (.ref r)) ∧ SqL K G r (os.map oV) ∧ w ≤ 3 ∧ os.length ≤ 19 ∧
  ∀ t us G' H', Ex G G' → Stt G' H' L → SqL K G' t us → DpAll K G' us ((prods os w).map kyD) → Q (.ref t) H'
def t_products_1b_1b (K : PySem.W.Frag) : TS :=
  (tAsg (tOp (gAdd K) (tVar 3) (tLc (iList K (tVar 2)) (gName 5) tYes (tOp (gAdd K) (tVar 4) (tTup (tCons (tVar 5) tNil))) [5])) (gName 3))
def t_products_1b_2 (K : PySem.W.Frag) : TS :=
  (tAsg (tVar 3) (gName 1))
def t_products_1b_1 (K : PySem.W.Frag) : TS :=
  (tSeq (tFor (iList K (tVar 1)) (gName 4) (t_products_1b_1b K))
  (t_products_1b_2 K))
def t_products_1b (K : PySem.W.Frag) : TS :=
  (tSeq (tAsg (tLst tNil) (gName 3))
  (t_products_1b_1 K))
def t_products_2 (K : PySem.W.Frag) : TS :=
  (tRet (tVar 1))
def t_products_1 (K : PySem.W.Frag) : TS :=
  (tSeq (tFor (iList K (tVar 0)) (gName 2) (t_products_1b K))
  (t_products_2 K))
def t_products (K : PySem.W.Frag) : TS :=
  (tSeq (tAsg (tLst (tCons (tTup tNil) tNil)) (gName 1))
  (t_products_1 K))
theorem sat_products {vs : List V} (h : sp_products K vs H Q E) : vs.length = 1 ∧ t_products K { nx := fun _ H' => Q .non H', rt := Q } (vs.map some ++ List.replicate (6 - vs.length) none) H := by
  obtain ⟨p, r, w, os, G, L, rfl, S, hp, hr, w2, l10, q⟩ := h
  refine ⟨rfl, ?_⟩
  unfold t_products
  refine rd_seq (rd_asg (rd_lst (rd_cons (rd_tup (rd_nil ?_)))))
  refine mk_tup stt_world S (Nat.zero_le _) fun t0 G0 e0 S0 h0 => rd_nil ?_
  refine mk_lst stt_world S0 (by show 1 ≤ _; decide) fun p0 G1 e1 S1 h1 => rd_name ?_
  have e01 := e0.trans e1
  show t_products_1 K _ _ _
  unfold t_products_1
  refine rd_seq (rd_for (rd_il (rd_var rfl ⟨p, rfl, ⟨_, ex_l (e01.trans S1.ex) hp⟩, ?_⟩)))
  refine for_go (walk_list (K := K) (a := p) (xs := List.replicate w (.ref r))) (G := G1)
    (fun i σ1 G2 H2 => ∃ (t : Addr) (us : List V) (x2 x3 x4 x5 : Option V), σ1 = [some (.ref p), some (.ref t), x2, x3, x4, x5] ∧ Ex G1 G2 ∧ Stt G2 H2 L ∧ G2 t = some (.lst us) ∧ DpAll K G2 us ((prods os i).map kyD))
    ⟨p0, [.ref t0], _, _, _, _, rfl, Ex.refl _, S1, h1, .cons (.tup (ex_t e1 (st_of h0)) .nil) .nil⟩ (fun i σ1 G2 H2 _ ⟨_, _, _, _, _, _, _, e2, S2, _⟩ => ex_l (e01.trans (e2.trans S2.ex)) hp) ?_ ?_
  · rintro i v σ1 G2 H2 H3 hi ⟨t, us, x2, x3, x4, x5, rfl, e2, S2, ht, hus⟩ y N hN
    obtain ⟨rfl, hv⟩ := y
    rw [List.length_replicate] at hi
    obtain rfl : v = .ref r := List.eq_of_mem_replicate (List.mem_of_getElem? hv)
    have hul := DpAll.length hus
    rw [List.length_map, prods_len] at hul
    have hp10 : us.length ≤ 361 := by
      have h2 : os.length ^ i ≤ 19 ^ i := Nat.pow_le_pow_left l10 i
      have h3 : 19 ^ i ≤ 19 ^ 2 := Nat.pow_le_pow_right (by decide) (by omega)
      have h4 : (19 : Nat) ^ 2 = 361 := by decide
      omega
    refine rd_name ?_
    show t_products_1b K _ _ _
    unfold t_products_1b
    refine rd_seq (rd_asg (rd_lst (rd_nil ?_)))
    refine mk_lst stt_world S2 (Nat.zero_le _) fun l0 G3 e3 S3 h3 => rd_name ?_
    show t_products_1b_1 K _ _ _
    unfold t_products_1b_1
    refine rd_seq (rd_for (rd_il (rd_var rfl ⟨t, rfl, ⟨_, sq_of (S3.ex _ _ (e3 _ _ ht))⟩, ?_⟩)))
    refine for_go (walk_list (K := K) (a := t) (xs := us)) (G := G3)
      (fun j σ1 G4 H4 => ∃ (l : Addr) (ws : List V) (x4 x5 : Option V), σ1 = [some (.ref p), some (.ref t), some (.ref r), some (.ref l), x4, x5] ∧ Ex G3 G4 ∧ Stt G4 H4 L ∧ G4 l = some (.lst ws) ∧ ws.length ≤ 19 * j ∧ DpAll K G4 ws ((((prods os i).take j).flatMap fun k => os.map fun o => k ++ [o]).map kyD))
      ⟨l0, [], _, _, rfl, Ex.refl _, S3, h3, Nat.le_refl _, .nil⟩ (fun i σ1 G2 H2 _ ⟨_, _, _, _, _, e4, S4, _⟩ => sq_of (S4.ex _ _ (e4 _ _ (e3 _ _ ht)))) ?_ ?_
    · rintro j z σ1 G4 H4 H5 hj ⟨l, ws, x4, x5, rfl, e4, S4, hl, hwl, hws⟩ y N2 hN2
      obtain ⟨rfl, hz⟩ := y
      have e34 := e3.trans e4
      obtain ⟨d, hd, dp⟩ := DpAll.get hus hz
      obtain ⟨ks, hks, rfl⟩ := get_map hd
      have kl := ((prods_mem os i ks).mp (List.mem_of_getElem? hks)).1
      obtain ⟨a, rfl, ha⟩ := ky_inv (Dp.ex e34 _ _ dp)
      have hr4 := ex_l (e01.trans (e2.trans e34)) hr
      refine rd_name ?_
      show t_products_1b_1b K _ _ _
      unfold t_products_1b_1b
      refine rd_asg (rd_op (rd_var rfl (rd_lc (rd_il (rd_var rfl ⟨r, rfl, ⟨_, ex_l S4.ex hr4⟩, ?_⟩)))))
      refine lc_go stt_world (walk_list (K := K) (a := r) (xs := os.map oV)) S4 (by rw [List.length_map]; omega) (fun k v _ => (os.map oV)[k]? = some v) (fun k acc G5 => DpAll K G5 acc (((os.take k).map fun o => ks ++ [o]).map kyD)) (fun H' e' => ex_l e' hr4)
        (fun i x G1 H1 H2 L1 _ e1 S1 y => item_at S1 y) .nil (fun _ _ _ _ e h1 => DpAll.ex e _ _ h1) ?_ ?_
      · intro D1 k o acc G5 H5 hk _ e5 S5 hacc it Kp Sk kp sk
        rw [List.getElem?_map] at it
        obtain ⟨o', ho', rfl⟩ := Option.map_eq_some_iff.mp it
        refine rd_name ⟨rfl, rd_yes (rd_iT (rd_snocT stt_world S5 (fun R h => rd_var rfl h) (ex_t e5 ha) (fun H1 R h => rd_var rfl h) (by rw [List.length_map]; omega) fun p2 G6 H6 e6 S6 h6 => kp _ G6 H6 e6 S6 ?_))⟩
        rw [List.take_add_one, ho', List.map_append, List.map_append]
        refine dp_snoc (DpAll.ex e6 _ _ hacc) ?_
        have : SqT K G6 p2 ((ks ++ [o']).map oV) := by rw [List.map_append]; exact h6
        exact .tup this (oDps (ks ++ [o']))
      · intro D1 acc G5 H5 e5 S5 hacc hle
        rw [List.length_map] at hacc hle
        rw [List.take_length] at hacc
        have hal : acc.length ≤ 19 := by omega
        refine rd_addL (S5.ex _ _ (e5 _ _ hl)) (S5.at 0 rfl) (sz_of (by omega)) ?_
        refine mk_im (o := .lst (ws ++ acc)) stt_world S5.drop fun l2 G6 e6 S6 h6 => rd_name ?_
        refine hN2 _ G6 _ ⟨l2, ws ++ acc, _, _, rfl, e4.trans (e5.trans e6), S6, h6, by rw [List.length_append]; omega, ?_⟩
        rw [prods_take hks, List.map_append]
        exact dp_app2 (DpAll.ex (e5.trans e6) _ _ hws) (DpAll.ex e6 _ _ hacc)
    · rintro σ1 G4 H4 ⟨l, ws, x4, x5, rfl, e4, S4, hl, hwl, hws⟩
      show t_products_1b_2 K _ _ _
      unfold t_products_1b_2
      refine rd_asg (rd_var rfl (rd_name (hN _ G4 H4 ⟨l, ws, _, _, _, _, rfl, e2.trans (e3.trans e4), S4, hl, ?_⟩)))
      rw [show (prods os i).take us.length = prods os i from List.take_of_length_le (by rw [prods_len]; omega)] at hws
      exact hws
  · rintro σ1 G2 H2 ⟨t, us, x2, x3, x4, x5, rfl, e2, S2, ht, hus⟩
    rw [List.length_replicate] at hus
    show t_products_2 K _ _ _
    unfold t_products_2
    exact rd_ret (rd_var rfl (q t us G2 H2 (e01.trans e2) S2 (sq_of ht) hus))
/-! ### boxes cut -/
/-- the numbers at which boxes may be cut -/
def cutsOf (ns : List Int) : List Int := ns ++ ns.map (· + 1)
theorem cut_of_sok {ns : List Int} {s : SD} (h : SOk ns s) : CutS (cutsOf ns) s := by
  rcases s with _ | ⟨a, b⟩
  · exact True.intro
  · exact ⟨fun x e => List.mem_append_left _ (h.1 x e), fun y e => List.mem_append_left _ (h.2.1 y e)⟩
/-- boxes that may be cut -/
def CutOk (ns : List Int) (w : Nat) (x : BX) : Prop := x.length = w ∧ ∀ s, s ∈ x → isSt (sD s) = true ∧ CutS (cutsOf ns) s
theorem cutOk_sok {ns : List Int} {w : Nat} {x : BX} (h : x.length = w ∧ ∀ s, s ∈ x → SOk ns s) : CutOk ns w x := ⟨h.1, fun s hs => ⟨isSt_sok (h.2 s hs), cut_of_sok (h.2 s hs)⟩⟩
theorem cutOk_put {ns : List Int} {w i : Nat} {x : BX} {s : SD} (h : CutOk ns w x) (hi : i < w) (hs : isSt (sD s) = true ∧ CutS (cutsOf ns) s) : CutOk ns w (x.take i ++ [s] ++ x.drop (i + 1)) := by
  refine ⟨by rw [List.length_append, List.length_append, List.length_take, List.length_drop]; have := h.1; show min i x.length + 1 + _ = w; omega, fun z hz => ?_⟩; rcases List.mem_append.mp hz with hz | hz
  · rcases List.mem_append.mp hz with hz | hz
    · exact h.2 z (List.mem_of_mem_take hz)
    · rw [List.mem_singleton.mp hz]; exact hs
  · exact h.2 z (List.mem_of_mem_drop hz)
/-- box[:at] + (part,) + box[at + 1:] -/
theorem rd_put {W : Hp → Hp → List (Addr × HO) → Prop} (hW : Wd W) (S : W G H L) {bx : Addr} {xs : List V} {x : BX} {i : Nat} {s : SD} {tp : TE} {v : V} (h4 : σ[4]? = some (some (.ref bx))) (h5 : σ[5]? = some (some (.int (i : Nat)))) (hx : SqT K G bx xs) (hd : DpAll K G xs (x.map sD)) (l3 : x.length ≤ 3)
    (hp : ∀ (G1 H1 : Hp) (R : VK), Ex G G1 → W G1 H1 L → (∀ v G2 H2, Ex G1 G2 → W G2 H2 L → Dp K G2 v (sD s) → R v H2) → tp σ H1 R)
    (q : ∀ p G' H', Ex G G' → W G' H' L → Dp K G' (.ref p) (boxD (x.take i ++ [s] ++ x.drop (i + 1))) → Q (.ref p) H') :
    tOp (gAdd K) (tOp (gAdd K) (tSl (rSlA K) (tVar 4) tNoPart (tPart (tVar 5))) (tTup (tCons tp tNil))) (tSl (rSlA K) (tVar 4) (tPart (tOp (gAdd K) (tVar 5) (tC (.int 1)))) tNoPart) σ H Q := by
  have hxl := DpAll.length hd
  rw [List.length_map] at hxl
  refine rd_op (rd_op (rd_sl (rd_var h4 (rd_noPart (rd_part (rd_var h5 ⟨_, rfl, ?_⟩))))))
  refine rd_slTT hW S hx fun p1 G1 H1 e1 S1 k1 => ?_
  rw [cutT_to] at k1
  refine rd_tup (rd_cons ?_)
  refine hp G1 H1 _ e1 S1 fun v G2 H2 e2 S2 hv => rd_nil ?_
  refine mk_tup hW S2 (by show 1 ≤ _; decide) fun p3 G3 e3 S3 k3 => ?_
  have y13 := e2.trans e3
  have y03 := e1.trans y13
  refine rd_catTT hW S3 (ex_t y13 k1) (st_of k3) (by show (xs.take i).length + 1 ≤ _; rw [List.length_take]; omega) fun p4 G4 H4 e4 S4 k4 => ?_
  refine rd_sl (rd_var h4 (rd_part (rd_op (rd_var h5 (rd_c (rd_addI ⟨_, rfl, rd_noPart ?_⟩))))))
  have y04 := y03.trans e4
  refine rd_slTT hW S4 (ex_t y04 hx) fun p5 G5 H5 e5 S5 k5 => ?_
  rw [show ((i : Nat) : Int) + 1 = ((i + 1 : Nat) : Int) from rfl, cutT_from] at k5
  have y05 := y04.trans e5
  refine rd_catTT hW S5 (ex_t e5 k4) k5 (by rw [List.length_append, List.length_take, List.length_drop]; show _ + 1 + _ ≤ _; omega) fun p6 G6 H6 e6 S6 k6 => ?_
  have y06 := y05.trans e6
  refine q p6 G6 H6 y06 S6 (.tup k6 ?_)
  rw [List.map_append, List.map_append, List.map_take, List.map_drop]
  exact dp_app2 (dp_snoc (DpAll.take i (DpAll.ex y06 _ _ hd)) (Dp.ex (e3.trans (e4.trans (e5.trans e6))) _ _ hv)) (DpAll.drop (i + 1) (DpAll.ex y06 _ _ hd))
def sp_cut_boxes (K : PySem.W.Frag) : Sp := fun vs H Q _ => ∃ (b p a : Addr) (w : Nat) (ns : List Int) (bs : List BX) (G : Hp) (L : List (Addr × HO)), vs = [.ref b, .ref p, .ref a] ∧ Bag K G H b L ∧ BxL K G p bs ∧ SqL K G a (ns.map V.int) ∧ 0 < ns.length ∧ ns.length < 1000 ∧ 1 ≤ w ∧ w ≤ 3 ∧ bs.length ≤ 3 ∧ (∀ x, x ∈ bs → x.length = w ∧ ∀ s, s ∈ x → SOk ns s) ∧
  ∀ p cs G' H', Ex G G' → Bag K G' H' b L → BxL K G' p cs → cs.length ≤ 7 → (∀ x, x ∈ cs → CutOk ns w x) → Q (.ref p) H'
def t_cut_boxes_1b_2 (K : PySem.W.Frag) : TS :=
  (tIfS (tAnd (tTest (tOp rNotN (tVar 7) (tC .non))) (tAnd (tB (tCall (sp_in K) [] E0 (tCons (tVar 7) (tCons (tVar 6) tNil)))) (tB (tCall (sp_in K) [] E0 (tCons (tVar 7) (tCons (tOp (gAdd K) (tVar 6) (tC (.int 1))) tNil)))))) (tAsg (tOp (gAdd K) (tVar 3) (tLst (tCons (tOp (gAdd K) (tOp (gAdd K) (tSl (rSlA K) (tVar 4) tNoPart (tPart (tVar 5))) (tTup (tCons (tTup (tCons (tOp (rIx K) (tVar 7) (tC (.int 0))) (tCons (tVar 6) tNil))) tNil))) (tSl (rSlA K) (tVar 4) (tPart (tOp (gAdd K) (tVar 5) (tC (.int 1)))) tNoPart)) (tCons (tOp (gAdd K) (tOp (gAdd K) (tSl (rSlA K) (tVar 4) tNoPart (tPart (tVar 5))) (tTup (tCons (tTup (tCons (tOp (gAdd K) (tVar 6) (tC (.int 1))) (tCons (tOp (rIx K) (tVar 7) (tC (.int 1))) tNil))) tNil))) (tSl (rSlA K) (tVar 4) (tPart (tOp (gAdd K) (tVar 5) (tC (.int 1)))) tNoPart)) tNil)))) (gName 3)) (tDrop (tBM K "list" rAppend (tVar 3) (tCons (tVar 4) tNil))))
def t_cut_boxes_1b_1 (K : PySem.W.Frag) : TS :=
  (tSeq (tAsg (tOp (rIx K) (tVar 4) (tVar 5)) (gName 7))
  (t_cut_boxes_1b_2 K))
def t_cut_boxes_1b (K : PySem.W.Frag) : TS :=
  (tSeq (tPar 5 6 (tCons (tCall (sp_draw K) [] E0 (tCons (tVar 0) (tCons (tCB (gLen K) (tCons (tVar 4) tNil)) tNil))) (tCons (tCall (sp_of K) [] E0 (tCons (tVar 0) (tCons (tVar 2) tNil))) tNil)))
  (t_cut_boxes_1b_1 K))
def t_cut_boxes_3 (K : PySem.W.Frag) : TS :=
  (tRet (tRevL K (tVar 3)))
def t_cut_boxes_2 (K : PySem.W.Frag) : TS :=
  (tSeq (tIfS (tTest (tOp (gNe K) (tVar 3) (tLst tNil))) (tDrop (tBM K "list" rIns (tVar 3) (tCons (tCall (sp_draw K) [] E0 (tCons (tVar 0) (tCons (tOp (gAdd K) (tCB (gLen K) (tCons (tVar 3) tNil)) (tC (.int 1))) tNil))) (tCons (tCall (sp_of K) [] E0 (tCons (tVar 0) (tCons (tVar 3) tNil))) tNil)))) tNext)
  (t_cut_boxes_3 K))
def t_cut_boxes_1 (K : PySem.W.Frag) : TS :=
  (tSeq (tFor (iList K (tVar 1)) (gName 4) (t_cut_boxes_1b K))
  (t_cut_boxes_2 K))
def t_cut_boxes (K : PySem.W.Frag) : TS :=
  (tSeq (tAsg (tLst tNil) (gName 3))
  (t_cut_boxes_1 K))
end

/-! The law's boxes cut. -/
open PySem PySem.Spec PyProof.Rows L2 Evl RZ NumText



theorem rd_rvL {te : TE} {K : PySem.W.Frag} {σ : L2.St} {H : Hp} {Q : VK} (q : te σ H fun x H1 => ∃ a xs, x = .ref a ∧ SqL K H1 a xs ∧ ∀ p, H1 p = none → Q (.ref p) (upd H1 p (.lst xs.reverse))) : tRevL K te σ H Q := q
theorem bxs_ne (bs : List BX) : PyData.eqv (.list (bs.map boxD)) (.list []) = decide (bs = []) := by
  rw [eqv_nil]
  exact decide_eq_decide.mpr List.map_eq_nil_iff
section
variable {K : PySem.W.Frag} [SB : BndK K] {σ : L2.St} {G H : Hp} {L M : List (Addr × HO)} {Q : VK} {E : XK} {D : Ends} {b : Addr}
theorem read_cb3 {f : Addr} {vs : List V} {cs : List BX} {ns : List Int} {w : Nat} {a0 a1 a2 a4 a5 a6 a7 : Option V} (B : Bag K G H b ((f, .lst vs) :: L)) (hd : DpAll K G vs (cs.map boxD)) (l7 : cs.length ≤ 7) (hc : ∀ x, x ∈ cs → CutOk ns w x)
    (q : ∀ p (cs : List BX) G' H', Ex G G' → Bag K G' H' b L → BxL K G' p cs → cs.length ≤ 7 → (∀ x, x ∈ cs → CutOk ns w x) → D.rt (.ref p) H') :
    t_cut_boxes_3 K D [a0, a1, a2, some (.ref f), a4, a5, a6, a7] H := by
  have W := bag_world K b
  unfold t_cut_boxes_3
  refine rd_ret (rd_rvL (rd_var rfl ⟨f, vs, rfl, sq_of (W.get B), ?_⟩))
  refine mk_im (o := .lst vs.reverse) W (W.drop B) fun p G1 e1 B1 h1 => ?_
  refine q p cs.reverse G1 _ e1 B1 ⟨vs.reverse, sq_of h1, ?_⟩ (by rw [List.length_reverse]; exact l7) fun x hx => hc x (List.mem_reverse.mp hx)
  rw [List.map_reverse]
  exact dp_rev (DpAll.ex e1 _ _ hd)
theorem read_cb2 {f : Addr} {vs : List V} {cs : List BX} {ns : List Int} {w : Nat} {a1 a2 a4 a5 a6 a7 : Option V} (B : Bag K G H b ((f, .lst vs) :: L)) (hd : DpAll K G vs (cs.map boxD)) (l6 : cs.length ≤ 6) (hc : ∀ x, x ∈ cs → CutOk ns w x)
    (q : ∀ p (cs : List BX) G' H', Ex G G' → Bag K G' H' b L → BxL K G' p cs → cs.length ≤ 7 → (∀ x, x ∈ cs → CutOk ns w x) → D.rt (.ref p) H') :
    t_cut_boxes_2 K D [some (.ref b), a1, a2, some (.ref f), a4, a5, a6, a7] H := by
  have W := bag_world K b
  have hvl := DpAll.length hd
  rw [List.length_map] at hvl
  unfold t_cut_boxes_2
  refine rd_seq (rd_ifs (rd_test (rd_op (rd_var rfl (rd_lst (rd_nil ?_))))))
  have ⟨M, S, hB⟩ := B.stt
  refine mk_lst stt_world S (Nat.zero_le _) fun l G1 e1 S1 h1 => ?_
  have B1 := hB G1 _ e1 S1
  refine rd_neD (d := .list (cs.map boxD)) (e := .list []) (.lst (sq_of (W.get B1)) (DpAll.ex (e1.trans B1.ex) _ _ hd)) (.lst (sq_of (B1.ex _ _ h1)) .nil) (bxs_shaped cs) rfl (rd_bl ?_)
  rw [bxs_ne]
  have q1 : ∀ p cs G' H', Ex G1 G' → Bag K G' H' b L → BxL K G' p cs → cs.length ≤ 7 → (∀ x, x ∈ cs → CutOk ns w x) → D.rt (.ref p) H' := fun p cs G' H' e' => q p cs G' H' (e1.trans e')
  have hd1 := DpAll.ex e1 _ _ hd
  refine rd_decN (fun e => ?_) (fun ne => ?_)
  · exact rd_next (read_cb3 B1 hd1 (by omega) hc q1)
  · have h0 : 0 < vs.length := by
      rw [hvl]
      exact List.length_pos_iff.mpr ne
    refine rd_drop (rd_bm (rd_var rfl ⟨ty_list (sq_of (W.get B1)), rd_cons (rd_call (rd_cons (rd_var rfl (rd_cons (rd_op (rd_cb (rd_cons (rd_var rfl (rd_nil (rd_lenL (sq_of (W.get B1)) (rd_c (rd_addI (rd_nil ?_)))))))))))))⟩))
    refine ⟨b, (vs.length : Int) + 1, G1, _, rfl, by omega, by omega, B1, fun d H2 d0 d1 B2 => rd_cons (rd_call (rd_cons (rd_var rfl (rd_cons (rd_var rfl (rd_nil ?_))))))⟩
    refine ⟨b, f, vs, G1, _, rfl, B2, fun H' B' => .inl (sq_of (W.get B')), h0, by omega, fun y H3 hy B3 => rd_nil ?_⟩
    obtain ⟨i, rfl⟩ : ∃ i : Nat, d = (i : Int) := ⟨d.toNat, by omega⟩
    obtain ⟨j, hj⟩ := List.getElem?_of_mem hy
    obtain ⟨dj, hdj, dpj⟩ := DpAll.get hd1 hj
    obtain ⟨x, hx, rfl⟩ := get_map hdj
    refine ⟨f, vs, (i : Nat), y, rfl, rfl, W.get B3, sz_of (by omega), by omega, by omega, ?_⟩
    rw [Int.toNat_natCast]
    have B4 := W.set (o' := .lst (vs.take i ++ [y] ++ vs.drop i)) B3
    refine read_cb3 (cs := cs.take i ++ [x] ++ cs.drop i) B4 ?_ (by rw [List.length_append, List.length_append, List.length_take, List.length_drop]; show min i cs.length + 1 + _ ≤ 7; omega) (fun z hz => ?_) q1
    · rw [List.map_append, List.map_append, List.map_take, List.map_drop]
      exact dp_app2 (dp_snoc (DpAll.take i hd1) dpj) (DpAll.drop i hd1)
    · rcases List.mem_append.mp hz with hz | hz
      · rcases List.mem_append.mp hz with hz | hz
        · exact hc z (List.mem_of_mem_take hz)
        · rw [List.mem_singleton.mp hz]; exact hc x (List.mem_of_getElem? hx)
      · exact hc z (List.mem_of_mem_drop hz)
/-- one box, cut or not -/
theorem read_cb1 {f ba : Addr} {vs xs : List V} {cs : List BX} {ns : List Int} {w i : Nat} {n : Int} {x : BX} {v : V} {s : SD} {a1 a2 : Option V} (B : Bag K G H b ((f, .lst vs) :: L)) (hd : DpAll K G vs (cs.map boxD)) (l6 : cs.length ≤ 4) (hc : ∀ x, x ∈ cs → CutOk ns w x) (w3 : w ≤ 3)
    (hx : SqT K G ba xs) (hxd : DpAll K G xs (x.map sD)) (xo : x.length = w ∧ ∀ s, s ∈ x → SOk ns s) (hi : i < w) (hs : x[i]? = some s) (hv : StV K G v s) (hn : n ∈ ns)
    (q : ∀ f vs (cs' : List BX) G' H', Ex G G' → Bag K G' H' b ((f, .lst vs) :: L) → DpAll K G' vs (cs'.map boxD) → cs'.length ≤ cs.length + 2 → (∀ x, x ∈ cs' → CutOk ns w x) → D.nx [some (.ref b), a1, a2, some (.ref f), some (.ref ba), some (.int (i : Nat)), some (.int n), some v] H') :
    t_cut_boxes_1b_2 K D [some (.ref b), a1, a2, some (.ref f), some (.ref ba), some (.int (i : Nat)), some (.int n), some v] H := by
  have W := bag_world K b
  have hvl := DpAll.length hd
  rw [List.length_map] at hvl
  have so := xo.2 s (List.mem_of_getElem? hs)
  have app : (tDrop (tBM K "list" rAppend (tVar 3) (tCons (tVar 4) tNil))) D [some (.ref b), a1, a2, some (.ref f), some (.ref ba), some (.int (i : Nat)), some (.int n), some v] H := by
    refine rd_drop (rd_bm (rd_var rfl ⟨ty_list (sq_of (W.get B)), rd_cons (rd_var rfl (rd_nil (rd_app (W.get B) (by omega) ?_)))⟩))
    have B4 := W.set (o' := .lst (vs ++ [V.ref ba])) B
    refine q f _ (cs ++ [x]) G _ (Ex.refl G) B4 ?_ (by rw [List.length_append]; show _ + 1 ≤ _; omega) fun z hz => ?_
    · rw [List.map_append]
      exact dp_snoc hd (.tup hx hxd)
    · rcases List.mem_append.mp hz with hz | hz
      · exact hc z hz
      · rw [List.mem_singleton.mp hz]; exact cutOk_sok xo
  unfold t_cut_boxes_1b_2
  refine rd_ifs (rd_and (rd_test (rd_op (rd_var rfl (rd_c (rd_notN (rd_bl ?_)))))))
  rcases s with _ | ⟨lo, hi'⟩
  · cases hv
    rw [show (!decide (V.non = V.non)) = false from by rw [decide_eq_true rfl]; rfl]
    exact app
  · obtain ⟨sp, rfl, hsp⟩ := hv
    rw [show (!decide (V.ref sp = V.non)) = true from by rw [ref_non]; rfl]
    have stv : ∀ {H1 : Hp}, Ex G H1 → StV K H1 (.ref sp) (some (lo, hi')) := fun e => ⟨sp, rfl, ex_t e hsp⟩
    refine rd_iT (rd_and (rd_B (rd_call (rd_cons (rd_var rfl (rd_cons (rd_var rfl (rd_nil ⟨_, some (lo, hi'), some n, rfl, stv B.ex, rd_bl ?_⟩))))))))
    cases c1 : inS (some (lo, hi')) (some n) with
    | false => exact app
    | true =>
    refine rd_iT (rd_B (rd_call (rd_cons (rd_var rfl (rd_cons (rd_op (rd_var rfl (rd_c (rd_addI (rd_nil ⟨_, some (lo, hi'), some (n + 1), rfl, stv B.ex, rd_bl ?_⟩))))))))))
    cases c2 : inS (some (lo, hi')) (some (n + 1)) with
    | false => exact app
    | true =>
    clear app
    have c1 : (loV lo n && hiV hi' n) = true := c1
    have c2 : (loV lo (n + 1) && hiV hi' (n + 1)) = true := c2
    rw [Bool.and_eq_true] at c1 c2
    have ok1 : isSt (sD (some (lo, some n))) = true ∧ CutS (cutsOf ns) (some (lo, some n)) := ⟨isSt_ok _ fun a b x y e ea eb => by
      cases e; cases eb; subst ea
      exact of_decide_eq_true c1.1, fun x e => List.mem_append_left _ (so.1 x e), fun y e => by cases e; exact List.mem_append_left _ hn⟩
    have ok2 : isSt (sD (some (some (n + 1), hi'))) = true ∧ CutS (cutsOf ns) (some (some (n + 1), hi')) := ⟨isSt_ok _ fun a b x y e ea eb => by
      cases e; cases ea; subst eb
      exact of_decide_eq_true c2.2, fun x e => by cases e; exact List.mem_append_right _ (List.mem_map.mpr ⟨n, hn, rfl⟩), fun y e => List.mem_append_left _ (so.2.1 y e)⟩
    obtain ⟨B7, e7⟩ := W.frz B
    have hf : upd G f (.lst vs) f = some (.lst vs) := upd_same
    generalize upd G f (.lst vs) = G7 at *
    have l3 : x.length ≤ 3 := by rw [xo.1]; exact w3
    refine rd_iT (rd_asg (rd_op (rd_var rfl (rd_lst (rd_cons ?_)))))
    refine rd_put W B7 (i := i) (s := some (lo, some n)) (v := .non) rfl rfl (ex_t e7 hx) (DpAll.ex e7 _ _ hxd) l3 (fun G1 H1 R e1 B1 k => ?_) fun p1 G2 H2 e2 B2 d1 => rd_cons ?_
    · refine rd_tup (rd_cons (rd_op (rd_var rfl (rd_c (rd_ixT (ex_t (e7.trans (e1.trans B1.ex)) hsp) rfl (rd_cons (rd_var rfl (rd_nil ?_))))))))
      exact mk_tup W B1 (by show 2 ≤ _; decide) fun t G2 e2 B2 h2 => k (.ref t) G2 _ e2 B2 (.tup (st_of h2) (.cons (oDp lo) (.cons (.int n) .nil)))
    refine rd_put W B2 (i := i) (s := some (some (n + 1), hi')) (v := .non) rfl rfl (ex_t (e7.trans e2) hx) (DpAll.ex (e7.trans e2) _ _ hxd) l3 (fun G1 H1 R e1 B1 k => ?_) fun p2 G3 H3 e3 B3 d2 => rd_nil ?_
    · refine rd_tup (rd_cons (rd_op (rd_var rfl (rd_c (rd_addI (rd_cons (rd_op (rd_var rfl (rd_c (rd_ixT (ex_t (e7.trans (e2.trans (e1.trans B1.ex))) hsp) rfl (rd_nil ?_)))))))))))
      exact mk_tup W B1 (by show 2 ≤ _; decide) fun t G2 e2 B2 h2 => k (.ref t) G2 _ e2 B2 (.tup (st_of h2) (.cons (.int (n + 1)) (.cons (oDp hi') .nil)))
    refine mk_lst W B3 (by show 2 ≤ _; decide) fun l G4 e4 B4 h4 => ?_
    have e24 := e2.trans (e3.trans e4)
    refine rd_addL (B4.ex _ _ (e24 _ _ hf)) (B4.ex _ _ h4) (sz_of (by show _ + 2 ≤ _; omega)) ?_
    refine mk_mu (o := .lst (vs ++ [V.ref p1, V.ref p2])) W B4 fun f2 B5 => rd_name ?_
    refine q f2 _ (cs ++ [x.take i ++ [some (lo, some n)] ++ x.drop (i + 1), x.take i ++ [some (some (n + 1), hi')] ++ x.drop (i + 1)]) G4 _ (e7.trans e24) B5 ?_ (by rw [List.length_append]; exact Nat.le_refl _) fun z hz => ?_
    · rw [List.map_append]
      exact dp_app2 (DpAll.ex (e7.trans e24) _ _ hd) (.cons (Dp.ex (e3.trans e4) _ _ d1) (.cons (Dp.ex e4 _ _ d2) .nil))
    · rcases List.mem_append.mp hz with hz | hz
      · exact hc z hz
      · rcases List.mem_cons.mp hz with rfl | hz
        · exact cutOk_put (cutOk_sok xo) hi ok1
        · rw [List.mem_singleton.mp hz]; exact cutOk_put (cutOk_sok xo) hi ok2
theorem sat_cut_boxes {vs : List V} (h : sp_cut_boxes K vs H Q E) : vs.length = 3 ∧ t_cut_boxes K { nx := fun _ H' => Q .non H', rt := Q } (vs.map some ++ List.replicate (8 - vs.length) none) H := by
  obtain ⟨b, p, a, w, ns, bs, G, L, rfl, B, ⟨us, hp, hA⟩, ha, n0, n1, w1, w3, l3, hb, q⟩ := h
  refine ⟨rfl, ?_⟩
  have W := bag_world K b
  have hul := DpAll.length hA
  rw [List.length_map] at hul
  unfold t_cut_boxes
  refine rd_seq (rd_asg (rd_lst (rd_nil ?_)))
  refine mk_lstM W B (Nat.zero_le _) fun f B1 => rd_name ?_
  show t_cut_boxes_1 K _ _ _
  unfold t_cut_boxes_1
  refine rd_seq (rd_for (rd_il (rd_var rfl ⟨p, rfl, ⟨_, ex_l B1.ex hp⟩, ?_⟩)))
  refine for_go (walk_list (K := K) (a := p) (xs := us)) (G := G)
    (fun i σ1 G2 H2 => ∃ (f : Addr) (vs : List V) (cs : List BX) (x4 x5 x6 x7 : Option V), σ1 = [some (.ref b), some (.ref p), some (.ref a), some (.ref f), x4, x5, x6, x7] ∧ Ex G G2 ∧ Bag K G2 H2 b ((f, .lst vs) :: L) ∧ DpAll K G2 vs (cs.map boxD) ∧ cs.length ≤ 2 * i ∧ ∀ x, x ∈ cs → CutOk ns w x)
    ⟨f, [], [], _, _, _, _, rfl, Ex.refl G, B1, .nil, Nat.le_refl _, fun x hx => by cases hx⟩ (fun i σ1 G2 H2 _ ⟨_, _, _, _, _, _, _, _, e2, B2, _⟩ => ex_l (e2.trans B2.ex) hp) ?_ ?_
  · rintro i v σ1 G2 H2 H3 hi ⟨f, vs, cs, x4, x5, x6, x7, rfl, e2, B2, hcd, hcl, hco⟩ y N hN
    obtain ⟨rfl, hv⟩ := y
    obtain ⟨d, hd, dp⟩ := DpAll.get hA hv
    obtain ⟨x, hx, rfl⟩ := get_map hd
    obtain ⟨ba, xs, rfl, hba, hxd⟩ := box_inv (Dp.ex e2 _ _ dp)
    have xo := hb x (List.mem_of_getElem? hx)
    have hxl := DpAll.length hxd
    rw [List.length_map, xo.1] at hxl
    refine rd_name ?_
    show t_cut_boxes_1b K _ _ _
    unfold t_cut_boxes_1b
    refine rd_seq (rd_par (rd_cons (rd_call (rd_cons (rd_var rfl (rd_cons (rd_cb (rd_cons (rd_var rfl (rd_nil (rd_lenT (ex_t B2.ex hba) (rd_nil ?_))))))))))))
    refine ⟨b, (xs.length : Int), G2, _, rfl, by omega, by omega, B2, fun d H4 d0 d1 B4 => rd_cons (rd_call (rd_cons (rd_var rfl (rd_cons (rd_var rfl (rd_nil ?_))))))⟩
    refine ⟨b, a, _, G2, _, rfl, B4, fun H' B' => .inl (ex_l (e2.trans B'.ex) ha), by rw [List.length_map]; exact n0, by rw [List.length_map]; omega, fun y H5 hy B5 => rd_nil (rd_two ?_)⟩
    obtain ⟨n, hn, rfl⟩ := List.mem_map.mp hy
    obtain ⟨k, rfl⟩ : ∃ k : Nat, d = (k : Int) := ⟨d.toNat, by omega⟩
    have hk : k < xs.length := by omega
    obtain ⟨u, hu⟩ : ∃ u, xs[k]? = some u := ⟨xs[k], List.getElem?_eq_getElem hk⟩
    obtain ⟨ds, hds, dps⟩ := DpAll.get hxd hu
    obtain ⟨s, hs, rfl⟩ := get_map hds
    show t_cut_boxes_1b_1 K _ [some (.ref b), some (.ref p), some (.ref a), some (.ref f), some (.ref ba), some (.int (k : Nat)), some (.int n), x7] _
    unfold t_cut_boxes_1b_1
    refine rd_seq (rd_asg (rd_op (rd_var rfl (rd_var rfl (rd_ixT (ex_t B5.ex hba) (atI_nat hu) (rd_name ?_))))))
    show t_cut_boxes_1b_2 K _ [some (.ref b), some (.ref p), some (.ref a), some (.ref f), some (.ref ba), some (.int (k : Nat)), some (.int n), some u] _
    refine read_cb1 B5 hcd (by omega) hco w3 hba hxd xo (by omega) hs (stv_of dps) hn fun f' vs' cs' G' H' e' B' hd' hl' hc' => hN _ G' H' ⟨f', vs', cs', _, _, _, _, rfl, e2.trans e', B', hd', by omega, hc'⟩
  · rintro σ1 G2 H2 ⟨f, vs, cs, x4, x5, x6, x7, rfl, e2, B2, hcd, hcl, hco⟩
    show t_cut_boxes_2 K _ _ _
    exact read_cb2 B2 hcd (by omega) hco fun p cs G' H' e' => q p cs G' H' (e2.trans e')
end

/-! The law: bounds of other widths, other values. -/
open PySem PySem.Spec PyProof.Rows L2 Evl RZ NumText



def t_law_tb (K : PySem.W.Frag) : Nat → XK → TE
  | 0 => fun E => (tMeth (cls_at K "Bound") "within" (sp_Bound_within K) [] E (tVar 8) (tCons (tVar 18) tNil))
  | 1 => fun E => (tMeth (cls_at K "Bound") "within" (sp_Bound_within K) [] E (tVar 18) (tCons (tVar 8) tNil))
  | _ => fun _ => tC .non
def t_law_1b_14 (K : PySem.W.Frag) (lw : LamW) : TS :=
  (tIfS (tNot (tB (tCall (sp_like K 9) [] E0 (tCons (tTriesC K lw 2 (t_law_tb K) [] (tCons (tLst (tCons (tLamE lw 0) (tCons (tLamE lw 1) tNil))) tNil)) (tCons (tOp gMul (tLst (tCons (tTup (tCons (tC (.str "OtherWidth")) (tCons (tC .non) tNil))) tNil)) (tC (.int 2))) tNil))))) (tRet (tC (.bl false))) tNext)
def t_law_1b_13 (K : PySem.W.Frag) (lw : LamW) : TS :=
  (tSeq (tIfS (tOr (tTest (tOp (rEqO (cls_at K "Bound") (sp_Bound_eq K)) (tVar 8) (tVar 18))) (tOr (tTest (tOp (rEqO (cls_at K "Bound") (sp_Bound_eq K)) (tVar 18) (tVar 17))) (tOr (tTest (tOp (rEqO (cls_at K "Bound") (sp_Bound_eq K)) (tVar 8) (tVar 6))) (tOr (tTest (tOp (rEqO (cls_at K "Bound") (sp_Bound_eq K)) (tVar 8) (tMeth (cls_at K "Bound") "text" (sp_Bound_text K) [] E0 (tVar 8) tNil))) (tTest (tOp (rEqO (cls_at K "Bound") (sp_Bound_eq K)) (tVar 8) (tC .non))))))) (tRet (tC (.bl false))) tNext)
  (t_law_1b_14 K lw))
def t_law_1b_12 (K : PySem.W.Frag) (lw : LamW) : TS :=
  (tSeq (tAsg (tCall (sp_bound K) [] E0 (tCons (tOp (gAdd K) (tC (.int 1)) (tOp (rI (fun _ j => j ≠ 0) fun i j => .int (i.fmod j)) (tCB gInt (tCons (tVar 3) tNil)) (tC (.int 3)))) (tCons (tLst tNil) tNil))) (gName 18))
  (t_law_1b_13 K lw))
def t_law_1b_11 (K : PySem.W.Frag) (lw : LamW) : TS :=
  (tSeq (tIfS (tNot (tB (tCall (sp_like K 9) [] E0 (tCons (tLst (tCons (tMeth (cls_at K "Bound") "within" (sp_Bound_within K) [] E0 (tVar 8) (tCons (tVar 16) tNil)) (tCons (tMeth (cls_at K "Bound") "within" (sp_Bound_within K) [] E0 (tVar 17) (tCons (tVar 8) tNil)) (tCons (tMeth (cls_at K "Bound") "within" (sp_Bound_within K) [] E0 (tVar 16) (tCons (tVar 8) tNil)) (tCons (tOp (rEqO (cls_at K "Bound") (sp_Bound_eq K)) (tVar 8) (tVar 8)) tNil))))) (tCons (tLst (tCons (tC (.bl true)) (tCons (tC (.bl true)) (tCons (tCB (rAll K) (tCons (tVar 11) tNil)) (tCons (tC (.bl true)) tNil))))) tNil))))) (tRet (tC (.bl false))) tNext)
  (t_law_1b_12 K lw))
def t_law_1b_10 (K : PySem.W.Frag) (lw : LamW) : TS :=
  (tSeq (tPar 16 17 (tCons (tStc (cls_at K "Bound") (sp_Bound_whole K) (tC (.ref (cls_at K "Bound"))) (tCons (tVar 3) tNil)) (tCons (tCall (sp_bound K) [] E0 (tCons (tVar 3) (tCons (tLst tNil) tNil))) tNil)))
  (t_law_1b_11 K lw))
def t_law_1b_9 (K : PySem.W.Frag) (lw : LamW) : TS :=
  (tSeq (tIfS (tNot (tB (tCall (sp_like K 9) [] E0 (tCons (tVar 15) (tCons (tLst (tCons (tVar 13) (tCons (tVar 14) (tCons (tAndV (tVar 13) (tVar 14)) (tCons (tAndV (tVar 13) (tVar 14)) (tCons (tNotV (tAndV (tVar 13) (tVar 14))) tNil)))))) tNil))))) (tRet (tC (.bl false))) tNext)
  (t_law_1b_10 K lw))
def t_law_1b_8 (K : PySem.W.Frag) (lw : LamW) : TS :=
  (tSeq (tAsg (tLst (tCons (tMeth (cls_at K "Bound") "within" (sp_Bound_within K) [] E0 (tVar 8) (tCons (tVar 9) tNil)) (tCons (tMethK (cls_at K "Bound") "within" (sp_Bound_within K) 1 [0] E0 (tVar 9) (tCons (tVar 8) tNil)) (tCons (tOp (rEqO (cls_at K "Bound") (sp_Bound_eq K)) (tVar 8) (tVar 9)) (tCons (tOp (rEqO (cls_at K "Bound") (sp_Bound_eq K)) (tVar 9) (tVar 8)) (tCons (tOp (rNeO (cls_at K "Bound") (sp_Bound_eq K)) (tVar 8) (tVar 9)) tNil)))))) (gName 15))
  (t_law_1b_9 K lw))
def t_law_1b_7 (K : PySem.W.Frag) (lw : LamW) : TS :=
  (tSeq (tPar 13 14 (tCons (tCB (rAll K) (tCons (tLc (iZipA K (tCons (tVar 11) (tCons (tVar 12) tNil))) (gTup K 2 (gCons (gName 22) (gCons (gName 23) gNil))) tYes (tOrV (tVar 23) (tNotV (tVar 22))) [22, 23]) tNil)) (tCons (tCB (rAll K) (tCons (tLc (iZipA K (tCons (tVar 11) (tCons (tVar 12) tNil))) (gTup K 2 (gCons (gName 22) (gCons (gName 23) gNil))) tYes (tOrV (tVar 22) (tNotV (tVar 23))) [22, 23]) tNil)) tNil)))
  (t_law_1b_8 K lw))
def t_law_1b_6 (K : PySem.W.Frag) (lw : LamW) : TS :=
  (tSeq (tPar 11 12 (tCons (tLc (iList K (tVar 10)) (gName 21) tYes (tCall (sp_key_in K) [] E0 (tCons (tVar 6) (tCons (tVar 21) tNil))) [21]) (tCons (tLc (iList K (tVar 10)) (gName 21) tYes (tCall (sp_key_in K) [] E0 (tCons (tVar 7) (tCons (tVar 21) tNil))) [21]) tNil)))
  (t_law_1b_7 K lw))
def t_law_1b_5 (K : PySem.W.Frag) (lw : LamW) : TS :=
  (tSeq (tAsg (tCall (sp_products K) [] E0 (tCons (tOp gMul (tLst (tCons (tCall (sp_sides K) [] E0 (tCons (tOp (gAdd K) (tVar 5) (tLc (iList K (tVar 5)) (gName 20) tYes (tOp (gAdd K) (tVar 20) (tC (.int 1))) [20])) tNil)) tNil)) (tVar 3)) tNil)) (gName 10))
  (t_law_1b_6 K lw))
def t_law_1b_4 (K : PySem.W.Frag) (lw : LamW) : TS :=
  (tSeq (tAsg (tTup (tCons (tCall (sp_bound K) [] E0 (tCons (tVar 3) (tCons (tVar 6) tNil))) (tCons (tCall (sp_bound K) [] E0 (tCons (tVar 3) (tCons (tVar 7) tNil))) tNil))) (gTup K 2 (gCons (gName 8) (gCons (gName 9) gNil))))
  (t_law_1b_5 K lw))
def t_law_1b_3 (K : PySem.W.Frag) (lw : LamW) : TS :=
  (tSeq (tAsg (tCall (sp_of K) [] E0 (tCons (tVar 1) (tCons (tLst (tCons (tCall (sp_cut_boxes K) [] E0 (tCons (tVar 1) (tCons (tVar 6) (tCons (tVar 5) tNil)))) (tCons (tOp (rCatS K) (tCall (sp_cut_boxes K) [] E0 (tCons (tVar 1) (tCons (tVar 6) (tCons (tVar 5) tNil)))) (tCall (sp_boxes K) [] E0 (tCons (tVar 1) (tCons (tVar 3) (tCons (tVar 5) (tCons (tC (.int 1)) tNil)))))) (tCons (tSl (gSl K) (tVar 6) (tPart (tC (.int 1))) tNoPart) (tCons (tCall (sp_boxes K) [] E0 (tCons (tVar 1) (tCons (tVar 3) (tCons (tVar 5) (tCons (tC (.int 3)) tNil))))) tNil))))) tNil))) (gName 7))
  (t_law_1b_4 K lw))
def t_law_1b_2 (K : PySem.W.Frag) (lw : LamW) : TS :=
  (tSeq (tAsg (tCall (sp_boxes K) [] E0 (tCons (tVar 1) (tCons (tVar 3) (tCons (tVar 5) (tCons (tC (.int 3)) tNil))))) (gName 6))
  (t_law_1b_3 K lw))
def t_law_1b_1 (K : PySem.W.Frag) (lw : LamW) : TS :=
  (tSeq (tAsg (tLc (iRng1 (tCons (tIf (tTest (tOp (gLt K) (tVar 3) (tC (.int 3)))) (tC (.int 3)) (tC (.int 2))) tNil)) (gName 19) tYes (tOp (gAdd K) (tVar 4) (tCall (sp_draw K) [] E0 (tCons (tVar 1) (tCons (tC (.int 4)) tNil)))) [19]) (gName 5))
  (t_law_1b_2 K lw))
def t_law_1b (K : PySem.W.Frag) (lw : LamW) : TS :=
  (tSeq (tAsg (tTup (tCons (tOp (gAdd K) (tC (.int 1)) (tCall (sp_draw K) [] E0 (tCons (tVar 1) (tCons (tC (.int 3)) tNil)))) (tCons (tCall (sp_of K) [] E0 (tCons (tVar 1) (tCons (tLst (tCons (tC (.int 0)) (tCons (tOp (rI0 fun i j => .int (i - j)) (tC (.int 0)) (tC (.int 3))) (tCons (tOp (rI CPow fun i j => .int (i ^ j.toNat)) (tC (.int 10)) (tC (.int 17))) tNil)))) tNil))) tNil))) (gTup K 2 (gCons (gName 3) (gCons (gName 4) gNil))))
  (t_law_1b_1 K lw))
def t_law_2 (K : PySem.W.Frag) (lw : LamW) : TS :=
  (tRet (tAndV (tOp (rEqO (cls_at K "Bound") (sp_Bound_eq K)) (StX.tMakeR (cls_at K "Bound") (sp_Bound_init K) E0 (tCons (tC (.int 1)) (tCons (tTup (tCons (tC .non) tNil)) (tCons (tTup (tCons (tTup (tCons (tC .non) (tCons (tC (.int 3)) tNil))) tNil)) (tCons (tTup (tCons (tTup (tCons (tC (.int 4)) (tCons (tC .non) tNil))) tNil)) tNil))))) (tStc (cls_at K "Bound") (sp_Bound_whole K) (tC (.ref (cls_at K "Bound"))) (tCons (tC (.int 1)) tNil))) (tOp (rNeO (cls_at K "Bound") (sp_Bound_eq K)) (StX.tMakeR (cls_at K "Bound") (sp_Bound_init K) E0 (tCons (tC (.int 1)) (tCons (tTup (tCons (tTup (tCons (tC (.int 1)) (tCons (tC (.int 2)) tNil))) tNil)) (tCons (tTup (tCons (tTup (tCons (tC (.int 4)) (tCons (tC (.int 5)) tNil))) tNil)) tNil)))) (StX.tMakeR (cls_at K "Bound") (sp_Bound_init K) E0 (tCons (tC (.int 1)) (tCons (tTup (tCons (tTup (tCons (tC (.int 1)) (tCons (tC (.int 5)) tNil))) tNil)) tNil))))))
def t_law_1 (K : PySem.W.Frag) (lw : LamW) : TS :=
  (tSeq (tFor (iRng1 (tCons (tC (.int 4)) tNil)) (gName 2) (t_law_1b K lw))
  (t_law_2 K lw))
def t_law (K : PySem.W.Frag) (lw : LamW) : TS :=
  (tSeq (tAsg (tCall (sp_open K) [] E0 (tCons (tVar 0) tNil)) (gName 1))
  (t_law_1 K lw))
/-- the slots of the law -/
def Sh (s b : Addr) (σ : L2.St) : Prop := ∃ x2 x3 x4 x5 x6 x7 x8 x9 x10 x11 x12 x13 x14 x15 x16 x17 x18 x19 x20 x21 x22 x23 : Option V, σ = [some (.ref s), some (.ref b), x2, x3, x4, x5, x6, x7, x8, x9, x10, x11, x12, x13, x14, x15, x16, x17, x18, x19, x20, x21, x22, x23]
theorem rd_ifN {A B : Prop} (h : B) : if (!true) = true then A else B := h
abbrev outW : List Out := [.errZ "OtherWidth", .errZ "OtherWidth"]
/-- what stands behind the drawing -/
structure T31 (K : PySem.W.Frag) (G : Hp) (w : Nat) (ns : List Int) (A B : List BX) (s6 s7 x8 x9 : Addr) : Prop where
  h6 : BxL K G s6 A
  r6 : ∃ us, G s6 = some (.lst us)
  h7 : BxL K G s7 B
  h8 : BdAt K G x8 w A
  h9 : BdAt K G x9 w B
  gA : ∀ x, x ∈ A → CutOk ns w x
  gB : ∀ x, x ∈ B → CutOk ns w x
  lA : A.length ≤ 3
  lB : B.length ≤ 8
  w1 : 1 ≤ w
  w3 : w ≤ 3
section
variable {K : PySem.W.Frag} [SB : BndK K] [KB : KitB K] {G H : Hp} {L M : List (Addr × HO)} {Q : VK} {E : XK} {D : Ends} {lw : LamW} {pt : Array Value} {s b na x y : Addr} {w w2 : Nat} {A B as bs : List BX} {s6 s7 x8 x9 x16 x17 x18 : Addr} {ns : List Int} {σ : L2.St} {i j : Nat}
  {a0 a1 a2 a3 a4 a5 a6 a7 a8 a9 a10 a11 a12 a13 a14 a15 a16 a17 a18 a19 a20 a21 a22 a23 : Option V}
theorem T31.ex {G' : Hp} (e : Ex G G') (F : T31 K G w ns A B s6 s7 x8 x9) : T31 K G' w ns A B s6 s7 x8 x9 :=
  ⟨F.h6.ex e, have ⟨us, h⟩ := F.r6; ⟨us, e _ _ h⟩, F.h7.ex e, F.h8.ex e, F.h9.ex e, F.gA, F.gB, F.lA, F.lB, F.w1, F.w3⟩
/-- x.within(y) -/
theorem rd_within (hi : σ[i]? = some (some (.ref x))) (hj : σ[j]? = some (some (.ref y))) (S : Stt G H M) (hx : BdAt K G x w as) (hy : BdAt K G y w2 bs) (w1 : 1 ≤ w) (w3 : w ≤ 3) (la : as.length ≤ 8) (lb : bs.length ≤ 8)
    (q : w = w2 → ∀ G' H', Ex G G' → Stt G' H' M → Q (.bl (cvs bs as)) H') (qe : w ≠ w2 → ∀ dd G' H', Ex G G' → Stt G' H' M → H' dd = some (.xd (excZ "OtherWidth")) → E (.ref (cls_at K "OtherWidth")) (some dd) H') :
    tMeth (cls_at K "Bound") "within" (sp_Bound_within K) [] E (tVar i) (tCons (tVar j) tNil) σ H Q := by
  have ⟨⟨dx, tx, us, ob, _, _⟩, _⟩ := hx
  exact rd_meth (rd_var hi ⟨x, _, _, rfl, S.ex _ _ ob, bndF_no _ _ (by decide +kernel) (by decide +kernel), rd_cons (rd_var hj (rd_nil ⟨x, y, w, w2, as, bs, G, M, rfl, S, hx, hy, w1, w3, la, lb, q, qe⟩))⟩)
theorem rd_withinK (hi : σ[i]? = some (some (.ref x))) (hj : σ[j]? = some (some (.ref y))) (S : Stt G H M) (hx : BdAt K G x w as) (hy : BdAt K G y w bs) (w1 : 1 ≤ w) (w3 : w ≤ 3) (la : as.length ≤ 8) (lb : bs.length ≤ 8)
    (q : ∀ G' H', Ex G G' → Stt G' H' M → Q (.bl (cvs bs as)) H') :
    tMethK (cls_at K "Bound") "within" (sp_Bound_within K) 1 [0] E0 (tVar i) (tCons (tVar j) tNil) σ H Q := by
  have ⟨⟨dx, tx, us, ob, _, _⟩, _⟩ := hx
  refine rd_methK (rd_var hi ⟨x, _, _, rfl, S.ex _ _ ob, bndF_no _ _ (by decide +kernel) (by decide +kernel), rd_cons (rd_var hj (rd_nil ?_))⟩)
  rw [gMV1]
  exact ⟨x, y, w, w, as, bs, G, M, rfl, S, hx, hy, w1, w3, la, lb, fun _ => q, fun z => absurd rfl z⟩
/-- x == y, two bounds -/
theorem rd_eqBd (S : Stt G H M) (hx : BdAt K G x w as) (hy : BdAt K G y w2 bs) (w1 : 1 ≤ w) (w3 : w ≤ 3) (la : as.length ≤ 8) (lb : bs.length ≤ 8) (q : ∀ G' H', Ex G G' → Stt G' H' M → Q (.bl (bdEq w w2 as bs)) H') :
    rEqO (cls_at K "Bound") (sp_Bound_eq K) (.ref x) (.ref y) H Q := by
  have ⟨⟨dx, tx, us, ob, _, _⟩, _⟩ := hx
  have ⟨⟨dy, ty, vs, ob2, _, _⟩, _⟩ := hy
  exact ⟨x, _, _, rfl, S.ex _ _ ob, .inr (.inr (.inl ⟨y, _, _, rfl, S.ex _ _ ob2⟩)), x, .ref y, w, as, G, M, rfl, S, hx, w1, w3, la, .inl ⟨y, w2, bs, rfl, hy, lb, fun G' H' e' S' => ⟨_, rfl, q G' H' e' S'⟩⟩⟩
theorem rd_neBd (S : Stt G H M) (hx : BdAt K G x w as) (hy : BdAt K G y w2 bs) (w1 : 1 ≤ w) (w3 : w ≤ 3) (la : as.length ≤ 8) (lb : bs.length ≤ 8) (q : ∀ G' H', Ex G G' → Stt G' H' M → Q (.bl (!bdEq w w2 as bs)) H') :
    rNeO (cls_at K "Bound") (sp_Bound_eq K) (.ref x) (.ref y) H Q := by
  have ⟨⟨dx, tx, us, ob, _, _⟩, _⟩ := hx
  have ⟨⟨dy, ty, vs, ob2, _, _⟩, _⟩ := hy
  exact ⟨x, _, _, rfl, S.ex _ _ ob, .inr (.inr (.inl ⟨y, _, _, rfl, S.ex _ _ ob2⟩)), x, .ref y, w, as, G, M, rfl, S, hx, w1, w3, la, .inl ⟨y, w2, bs, rfl, hy, lb, fun G' H' e' S' => ⟨_, rfl, q G' H' e' S'⟩⟩⟩
/-- x == z, z no bound -/
theorem rd_eqNo {z : V} (S : Stt G H M) (hx : BdAt K G x w as) (w1 : 1 ≤ w) (w3 : w ≤ 3) (la : as.length ≤ 8) (hz : z = .non ∨ (∃ t, z = .str t) ∨ ∃ p xs, z = .ref p ∧ H p = some (.lst xs)) (q : Q (.bl false) H) :
    rEqO (cls_at K "Bound") (sp_Bound_eq K) (.ref x) z H Q := by
  have ⟨⟨dx, tx, us, ob, _, _⟩, _⟩ := hx
  exact ⟨x, _, _, rfl, S.ex _ _ ob, hz.imp id fun h => h.imp id fun ⟨p, xs, h1, h2⟩ => .inr ⟨p, xs, h1, h2⟩, x, z, w, as, G, M, rfl, S, hx, w1, w3, la, .inr ⟨hz.imp id fun h => h.imp id fun ⟨p, xs, h1, h2⟩ => ⟨p, xs, h1, sq_of h2⟩, false, rfl, q⟩⟩
theorem bodyW (h8 : BdAt K G x8 w A) (h18 : BdAt K G x18 w2 []) (ne : w ≠ w2) (w1 : 1 ≤ w) (w3 : w ≤ 3) (v1 : 1 ≤ w2) (v3 : w2 ≤ 3) (lA : A.length ≤ 3) (XZ : ExcOkZ K "OtherWidth") (σ : L2.St) (i8 : σ[8]? = some (some (.ref x8))) (i18 : σ[18]? = some (some (.ref x18))) (i : Nat) (o : Out) (h : outW[i]? = some o) : BodyIs K G σ (t_law_tb K i) o := by
  have ok : OutOk K (.errZ "OtherWidth") := ⟨XZ, rfl⟩
  match i, h with
  | 0, h =>
    cases h
    exact ⟨ok, fun G1 H1 L1 E Q e S q => rd_within i8 i18 S (h8.ex e) (h18.ex e) w1 w3 (by omega) (Nat.zero_le _) (fun z => absurd z ne) fun _ dd G' H' e' S' hd => q dd G' H' e' S' hd⟩
  | 1, h =>
    cases h
    exact ⟨ok, fun G1 H1 L1 E Q e S q => rd_within i18 i8 S (h18.ex e) (h8.ex e) v1 v3 (Nat.zero_le _) (by omega) (fun z => absurd z.symm ne) fun _ dd G' H' e' S' hd => q dd G' H' e' S' hd⟩
  | _ + 2, h => cases h
/-- what is asked of the list of lambdas -/
def TrQ (K : PySem.W.Frag) (lw : LamW) (n : Nat) (tbs : Nat → XK → TE) (mk : List Nat) (σ : L2.St) (Q : VK) (x : V) (H1 : Hp) : Prop := ∀ (Cn : CnT) (l : Cells), NoC l H1 → (∀ i, i < n → ∀ f, Cn f (lamTl lw l i (tbs i) (wipe σ mk) f)) → sp_tries K Cn ([x] ++ []) (onC l H1) (fun v H2 => InC l H2 ∧ Q v (offC l H2)) E0
theorem rd_triesQ {mk : List Nat} {n : Nat} {tbs : Nat → XK → TE} {te : TE} (h : te σ H fun x H1 => TrQ K lw n tbs mk σ Q x H1) : tTriesC K lw n tbs mk (tCons te tNil) σ H Q :=
  rd_cons (QA := fun vs H1 => ∀ (Cn : CnT) (l : Cells), NoC l H1 → (∀ i, i < n → ∀ f, Cn f (lamTl lw l i (tbs i) (wipe σ mk) f)) → sp_tries K Cn (vs ++ []) (onC l H1) (fun v H2 => InC l H2 ∧ Q v (offC l H2)) E0) h
theorem rd_trQ {mk : List Nat} {n : Nat} {tbs : Nat → XK → TE} {σ : L2.St} {a : Addr} {fs : List Addr} {os : List Out} (S : Stt G H L) (ha : SqL K G a (fs.map V.ref)) (hn : fs.length = n) (ho : os.length = n) (h9 : n < 1000) (hla : ∀ i f, fs[i]? = some f → LamAt lw i G f)
    (hb : ∀ i o, os[i]? = some o → BodyIs K G (wipe σ mk) (tbs i) o) (q : ∀ p G' H', Ex G G' → Stt G' H' L → Dp K G' (.ref p) (.list (os.map Out.data)) → Q (.ref p) H') : TrQ K lw n tbs mk σ Q (.ref a) H :=
  fun Cn l nc cn => rd_triesC S ha hn ho h9 hla hb q Cn l nc cn
/-- both are refused -/
theorem read_l14 (h8 : BdAt K G x8 w A) (h18 : BdAt K G x18 w2 []) (ne : w ≠ w2) (w1 : 1 ≤ w) (w3 : w ≤ 3) (v1 : 1 ≤ w2) (v3 : w2 ≤ 3) (lA : A.length ≤ 3) (XZ : ExcOkZ K "OtherWidth") (B : Bag K G H b [(lw.P, .tbl pt)]) (hc : lw.codes G pt)
    (q : ∀ σ' pt' G' H', Sh s b σ' → Ex G G' → Bag K G' H' b [(lw.P, .tbl pt')] → lw.codes G' pt' → D.nx σ' H') :
    t_law_1b_14 K lw D [some (.ref s), some (.ref b), a2, a3, a4, a5, a6, a7, some (.ref x8), a9, a10, a11, a12, a13, a14, a15, a16, a17, some (.ref x18), a19, a20, a21, a22, a23] H := by
  have W := bag_world K b
  unfold t_law_1b_14
  refine rd_ifs (rd_not (rd_B (rd_call (rd_cons (rd_triesQ (rd_lst (rd_cons ?_)))))))
  refine rd_lamB B hc fun f0 G1 H1 q1 e1 B1 k1 m0 => rd_cons ?_
  refine rd_lamB B1 k1 fun f1 G2 H2 q2 e2 B2 k2 m1 => rd_nil ?_
  refine mk_lst W B2 (by show 2 ≤ 100000; decide) fun as G3 e3 B3 h3 => ?_
  obtain ⟨M, S, hB⟩ := B3.stt
  have e03 := e1.trans (e2.trans e3)
  refine rd_trQ (os := outW) (fs := [f0, f1]) S (sq_of h3) rfl rfl (by show 2 < 1000; decide) (fun i f z => ?_) (fun i o ho => bodyW (h8.ex e03) (h18.ex e03) ne w1 w3 v1 v3 lA XZ _ rfl rfl i o ho) (fun p G4 H4 e4 S4 hp => ?_)
  · match i, z with
    | 0, z => cases z; exact m0.ex (e2.trans e3)
    | 1, z => cases z; exact m1.ex e3
    | _ + 2, z => cases z
  refine rd_cons (rd_op (rd_lst (rd_cons (rd_tup (rd_cons (rd_c (rd_cons (rd_c (rd_nil ?_)))))))))
  refine mk_tup stt_world S4 (by show 2 ≤ _; decide) fun p1 G5 e5 S5 h5 => rd_nil ?_
  refine mk_lst stt_world S5 (by show 1 ≤ _; decide) fun p3 G6 e6 S6 h6 => rd_c ?_
  refine .inr ⟨p3, 2, [.ref p1], rfl, rfl, S6.ex _ _ h6, by decide, by decide, sz_of (by show 1 * 2 ≤ _; decide), ?_⟩
  show ∀ p, _ = none → _
  refine mk_im (o := .lst [.ref p1, .ref p1]) stt_world S6 fun p7 G7 e7 S7 h7 => rd_nil ?_
  have d1 : Dp K G7 (.ref p) (.list (outW.map Out.data)) := Dp.ex (e5.trans (e6.trans e7)) _ _ hp
  have one : Dp K G7 (.ref p1) (.tuple [.str "OtherWidth", .none]) := .tup (ex_t (e6.trans e7) (st_of h5)) (.cons (.str _) (.cons .non .nil))
  have d2 : Dp K G7 (.ref p7) (.list (outW.map Out.data)) := .lst (sq_of h7) (.cons one (.cons one .nil))
  refine ⟨G7, M, .ref p, .ref p7, _, _, rfl, S7, d1, d2, by simp [fit, Out.data], fun H8 S8 => ?_⟩
  rw [lk_same d1]
  have x0 := e4.trans (e5.trans (e6.trans e7))
  exact rd_bl (rd_ifN (rd_next (q _ _ G7 H8 ⟨_, _, _, _, _, _, _, _, _, _, _, _, _, _, _, _, _, _, _, _, _, _, rfl⟩ (e03.trans x0) (hB G7 H8 x0 S8) ((k2.ex e3).ex x0))))
/-- no bound of another width, no other value is equal -/
theorem read_l13 (F : T31 K G w ns A B s6 s7 x8 x9) (h17 : BdAt K G x17 w []) (h18 : BdAt K G x18 w2 []) (ne : w ≠ w2) (v1 : 1 ≤ w2) (v3 : w2 ≤ 3) (sm : ∀ z, z ∈ A → smallB z) (XZ : ExcOkZ K "OtherWidth") (Bg : Bag K G H b [(lw.P, .tbl pt)]) (hc : lw.codes G pt)
    (q : ∀ σ' pt' G' H', Sh s b σ' → Ex G G' → Bag K G' H' b [(lw.P, .tbl pt')] → lw.codes G' pt' → D.nx σ' H') :
    t_law_1b_13 K lw D [some (.ref s), some (.ref b), a2, a3, a4, a5, some (.ref s6), a7, some (.ref x8), a9, a10, a11, a12, a13, a14, a15, a16, some (.ref x17), some (.ref x18), a19, a20, a21, a22, a23] H := by
  obtain ⟨M, S, hB⟩ := Bg.stt
  have w1 := F.w1
  have w3 := F.w3
  have lA := F.lA
  obtain ⟨us6, r6⟩ := F.r6
  unfold t_law_1b_13
  have no : ∀ {u : Nat} {z : List BX}, w ≠ u → bdEq w u A z = false := fun h => by unfold bdEq; rw [decide_eq_false h]; rfl
  refine rd_seq (rd_ifs (rd_or (rd_test (rd_op (rd_var rfl (rd_var rfl ?_))))))
  refine rd_eqBd S F.h8 h18 w1 w3 (by omega) (Nat.zero_le _) fun G1 H1 e1 S1 => rd_bl ?_
  rw [no ne]
  refine rd_iF (rd_or (rd_test (rd_op (rd_var rfl (rd_var rfl ?_)))))
  refine rd_eqBd S1 (h18.ex e1) (h17.ex e1) v1 v3 (Nat.zero_le _) (Nat.zero_le _) fun G2 H2 e2 S2 => rd_bl ?_
  have e12 := e1.trans e2
  rw [show bdEq w2 w [] [] = false from by unfold bdEq; rw [decide_eq_false (fun z => ne z.symm)]; rfl]
  refine rd_iF (rd_or (rd_test (rd_op (rd_var rfl (rd_var rfl ?_)))))
  refine rd_eqNo S2 (F.h8.ex e12) w1 w3 (by omega) (.inr (.inr ⟨s6, us6, rfl, S2.ex _ _ (e12 _ _ r6)⟩)) (rd_bl (rd_iF (rd_or (rd_test (rd_op (rd_var rfl ?_))))))
  have ⟨⟨dx, tx, us, ob, hu, hA⟩, _⟩ := F.h8.ex e12
  refine rd_meth (rd_var rfl ⟨x8, _, _, rfl, S2.ex _ _ ob, bndF_no _ _ (by decide +kernel) (by decide +kernel), rd_nil ⟨x8, dx, tx, _, us, A, G2, M, rfl, S2, ob, hu, hA, by omega, sm, fun G3 H3 e3 S3 => ?_⟩⟩)
  have e13 := e12.trans e3
  refine rd_eqNo S3 (F.h8.ex e13) w1 w3 (by omega) (.inr (.inl ⟨_, rfl⟩)) (rd_bl (rd_iF (rd_test (rd_op (rd_var rfl (rd_c ?_))))))
  refine rd_eqNo S3 (F.h8.ex e13) w1 w3 (by omega) (.inl rfl) (rd_bl (rd_iF (rd_next ?_)))
  show t_law_1b_14 K lw _ _ _
  exact read_l14 (F.h8.ex e13) (h18.ex e13) ne w1 w3 v1 v3 lA XZ (hB G3 H3 e13 S3) (hc.ex e13) fun σ' pt' G' H' sh e' B' k' => q σ' pt' G' H' sh (e13.trans e') B' k'
end

/-! The law: what is told. -/
open PySem PySem.Spec PyProof.Rows L2 Evl RZ NumText



theorem rd_orb {a b : Bool} {σ : L2.St} {H : Hp} {Q : VK} {i j : Nat} (hi : σ[i]? = some (some (.bl a))) (hj : σ[j]? = some (some (.bl b))) (q : Q (.bl (b || !a)) H) : tOrV (tVar j) (tNotV (tVar i)) σ H Q := by
  refine rd_orV (rd_var hj ⟨b, rfl, ?_⟩)
  cases b with
  | true => exact (if_pos rfl).mpr q
  | false => exact (if_neg Bool.false_ne_true).mpr (rd_notV (rd_var hi ⟨a, rfl, q⟩))
theorem rd_andb {a b : Bool} {σ : L2.St} {H : Hp} {Q : VK} {i j : Nat} (hi : σ[i]? = some (some (.bl a))) (hj : σ[j]? = some (some (.bl b))) (q : Q (.bl (a && b)) H) : tAndV (tVar i) (tVar j) σ H Q := by
  refine rd_andV (rd_var hi ⟨a, rfl, ?_⟩)
  cases a with
  | true => exact (if_pos rfl).mpr (rd_var hj q)
  | false => exact (if_neg Bool.false_ne_true).mpr q
/-- a list of truths -/
def BlL (K : PySem.W.Frag) (G : Hp) (p : Addr) (xs : List Bool) : Prop := SqL K G p (xs.map V.bl)
theorem zip_all {α : Type} (f : Bool → Bool → Bool) (g h : α → Bool) : ∀ l : List α, (List.zipWith f (l.map g) (l.map h)).all id = l.all fun k => f (g k) (h k)
  | [] => rfl
  | x :: l => by
    show (f (g x) (h x) && (List.zipWith f (l.map g) (l.map h)).all id) = (f (g x) (h x) && l.all fun k => f (g k) (h k))
    rw [zip_all f g h l]
theorem bdEq_same (as bs : List BX) (w : Nat) : bdEq w w as bs = (cvs bs as && cvs as bs) := by unfold bdEq; rw [decide_eq_true rfl, Bool.true_and]
section
variable {K : PySem.W.Frag} [SB : BndK K] [KB : KitB K] {G H : Hp} {L M : List (Addr × HO)} {Q : VK} {E : XK} {D : Ends} {lw : LamW} {pt : Array Value} {s b na x y : Addr} {w w2 : Nat} {A B as bs : List BX} {s6 s7 x8 x9 x16 x17 x18 p10 pa pb p15 : Addr} {ns : List Int} {os : List (Option Int)} {σ : L2.St} {i j : Nat}
  {a0 a1 a2 a3 a4 a5 a6 a7 a8 a9 a10 a11 a12 a13 a14 a15 a16 a17 a18 a19 a20 a21 a22 a23 : Option V}
theorem T31.small (F : T31 K G w ns A B s6 s7 x8 x9) (nb : ∀ n, n ∈ ns → n.natAbs < 10 ^ 19) {x : BX} (h : CutOk ns w x) : ∀ z, z ∈ x → stBd z := fun z hz a b e => by
  subst e
  have h := (h.2 _ hz).2
  have big : ∀ i, i ∈ cutsOf ns → i.natAbs < 10 ^ 20 := fun i hi => by
    have k : (10 : Nat) ^ 19 + 1 < 10 ^ 20 := by decide
    rcases List.mem_append.mp hi with h | h
    · have := nb i h; omega
    · obtain ⟨m, hm, rfl⟩ := List.mem_map.mp h
      have := nb m hm; omega
  exact ⟨fun i hi => big i (h.1 i hi), fun i hi => big i (h.2 i hi)⟩
/-- a bound of another width -/
theorem read_l12 (F : T31 K G w ns A B s6 s7 x8 x9) (nb : ∀ n, n ∈ ns → n.natAbs < 10 ^ 19) (h17 : BdAt K G x17 w []) (XZ : ExcOkZ K "OtherWidth") (Bg : Bag K G H b [(lw.P, .tbl pt)]) (hc : lw.codes G pt)
    (q : ∀ σ' pt' G' H', Sh s b σ' → Ex G G' → Bag K G' H' b [(lw.P, .tbl pt')] → lw.codes G' pt' → D.nx σ' H') :
    t_law_1b_12 K lw D [some (.ref s), some (.ref b), a2, some (.int (w : Nat)), a4, a5, some (.ref s6), a7, some (.ref x8), a9, a10, a11, a12, a13, a14, a15, a16, some (.ref x17), a18, a19, a20, a21, a22, a23] H := by
  obtain ⟨M, S, hB⟩ := Bg.stt
  have w1 := F.w1
  have w3 := F.w3
  unfold t_law_1b_12
  refine rd_seq (rd_asg (rd_call (rd_cons (rd_op (rd_c (rd_op (rd_cb (rd_cons (rd_var rfl (rd_nil (rd_intI (rd_c (rd_I (by decide) (rd_addI (rd_cons (rd_lst (rd_nil ?_)))))))))))))))))
  refine mk_lst stt_world S (Nat.zero_le _) fun l G1 e1 S1 h1 => rd_nil ?_
  have ew : (1 : Int) + ((w : Nat) : Int).fmod 3 = ((1 + w % 3 : Nat) : Int) := by rw [Int.fmod_eq_emod_of_nonneg _ (by decide)]; omega
  rw [ew]
  refine ⟨1 + w % 3, l, [], G1, M, rfl, S1, ⟨[], sq_of h1, .nil⟩, by omega, by omega, Nat.zero_le _, fun z hz => (by cases hz), fun x18 G2 H2 e2 S2 h18 => rd_name ?_⟩
  have x0 := e1.trans e2
  have F2 := F.ex x0
  show t_law_1b_13 K lw _ _ _
  exact read_l13 F2 (h17.ex x0) h18 (by omega) (by omega) (by omega) (fun z hz => ⟨by rw [(F.gA z hz).1]; exact w3, F.small nb (F.gA z hz)⟩) XZ (hB G2 H2 x0 S2) (hc.ex x0) fun σ' pt' G' H' sh e' B' k' => q σ' pt' G' H' sh (x0.trans e') B' k'
/-- beside the bounds with all keys and with none -/
theorem read_l11 (F : T31 K G w ns A B s6 s7 x8 x9) (nb : ∀ n, n ∈ ns → n.natAbs < 10 ^ 19) (h16 : BdAt K G x16 w (whB w)) (h17 : BdAt K G x17 w []) (ha : BlL K G pa ((prods os w).map (inBd A))) (hall : (prods os w).all (fun k => inBd A k) = cvs A (whB w)) (XZ : ExcOkZ K "OtherWidth") (Bg : Bag K G H b [(lw.P, .tbl pt)]) (hc : lw.codes G pt)
    (q : ∀ σ' pt' G' H', Sh s b σ' → Ex G G' → Bag K G' H' b [(lw.P, .tbl pt')] → lw.codes G' pt' → D.nx σ' H') :
    t_law_1b_11 K lw D [some (.ref s), some (.ref b), a2, some (.int (w : Nat)), a4, a5, some (.ref s6), a7, some (.ref x8), a9, a10, some (.ref pa), a12, a13, a14, a15, some (.ref x16), some (.ref x17), a18, a19, a20, a21, a22, a23] H := by
  obtain ⟨M, S, hB⟩ := Bg.stt
  have w1 := F.w1
  have w3 := F.w3
  have lA := F.lA
  have gA : ∀ x, x ∈ A → GB w x := fun x hx => ⟨(F.gA x hx).1, fun z hz => ((F.gA x hx).2 z hz).1⟩
  have wl : (whB w).length ≤ 8 := by
    rw [whB_len]
    exact Nat.pow_le_pow_right (n := 2) (by decide) w3
  unfold t_law_1b_11
  refine rd_seq (rd_ifs (rd_not (rd_B (rd_call (rd_cons (rd_lst (rd_cons ?_)))))))
  refine rd_within rfl rfl S F.h8 h16 w1 w3 (by omega) wl (fun _ G1 H1 e1 S1 => rd_cons ?_) fun z => absurd rfl z
  refine rd_within rfl rfl S1 (h17.ex e1) (F.h8.ex e1) w1 w3 (Nat.zero_le _) (by omega) (fun _ G2 H2 e2 S2 => rd_cons ?_) fun z => absurd rfl z
  have e12 := e1.trans e2
  refine rd_within rfl rfl S2 (h16.ex e12) (F.h8.ex e12) w1 w3 wl (by omega) (fun _ G3 H3 e3 S3 => rd_cons (rd_op (rd_var rfl (rd_var rfl ?_)))) fun z => absurd rfl z
  have e13 := e12.trans e3
  refine rd_eqBd S3 (F.h8.ex e13) (F.h8.ex e13) w1 w3 (by omega) (by omega) fun G4 H4 e4 S4 => rd_nil ?_
  have e14 := e13.trans e4
  rw [bdEq_same, cvs_self gA, cvs_whole gA, cvs_nil]
  refine mk_lst stt_world S4 (by show 4 ≤ _; decide) fun l1 G5 e5 S5 h5 => rd_cons (rd_lst (rd_cons (rd_c (rd_cons (rd_c (rd_cons (rd_cb (rd_cons (rd_var rfl (rd_nil ?_))))))))))
  have e15 := e14.trans e5
  refine rd_all (ex_l (e15.trans S5.ex) ha) (rd_cons (rd_c (rd_nil ?_)))
  rw [List.all_map, show ((prods os w).all (id ∘ inBd A)) = (prods os w).all (fun k => inBd A k) from rfl, hall]
  refine mk_lst stt_world S5 (by show 4 ≤ _; decide) fun l2 G6 e6 S6 h6 => rd_nil ?_
  have e16 := e15.trans e6
  have d1 : Dp K G6 (.ref l1) (.list [.bool true, .bool true, .bool (cvs A (whB w)), .bool true]) := .lst (ex_l e6 (sq_of h5)) (.cons (.bl _) (.cons (.bl _) (.cons (.bl _) (.cons (.bl _) .nil))))
  have d2 : Dp K G6 (.ref l2) (.list [.bool true, .bool true, .bool (cvs A (whB w)), .bool true]) := .lst (sq_of h6) (.cons (.bl _) (.cons (.bl _) (.cons (.bl _) (.cons (.bl _) .nil))))
  refine ⟨G6, M, .ref l1, .ref l2, _, _, rfl, S6, d1, d2, by simp [fit], fun H7 S7 => ?_⟩
  rw [lk_same d1]
  refine rd_bl (rd_ifN (rd_next ?_))
  show t_law_1b_12 K lw _ _ _
  exact read_l12 (F.ex e16) nb (h17.ex e16) XZ (hB G6 H7 e16 S7) (hc.ex e16) fun σ' pt' G' H' sh e' B' k' => q σ' pt' G' H' sh (e16.trans e') B' k'
theorem read_l10 (F : T31 K G w ns A B s6 s7 x8 x9) (nb : ∀ n, n ∈ ns → n.natAbs < 10 ^ 19) (ha : BlL K G pa ((prods os w).map (inBd A))) (hall : (prods os w).all (fun k => inBd A k) = cvs A (whB w)) (XZ : ExcOkZ K "OtherWidth") (Bg : Bag K G H b [(lw.P, .tbl pt)]) (hc : lw.codes G pt)
    (q : ∀ σ' pt' G' H', Sh s b σ' → Ex G G' → Bag K G' H' b [(lw.P, .tbl pt')] → lw.codes G' pt' → D.nx σ' H') :
    t_law_1b_10 K lw D [some (.ref s), some (.ref b), a2, some (.int (w : Nat)), a4, a5, some (.ref s6), a7, some (.ref x8), a9, a10, some (.ref pa), a12, a13, a14, a15, a16, a17, a18, a19, a20, a21, a22, a23] H := by
  obtain ⟨M, S, hB⟩ := Bg.stt
  have w1 := F.w1
  have w3 := F.w3
  unfold t_law_1b_10
  refine rd_seq (rd_par (rd_cons (rd_c ⟨rfl, rd_cons (rd_var rfl (rd_nil ?_))⟩)))
  refine ⟨w, G, M, rfl, w3, S, fun x16 dx tb us G1 H1 e1 S1 k1 k2 k3 => rd_cons (rd_call (rd_cons (rd_var rfl (rd_cons (rd_lst (rd_nil ?_))))))⟩
  have h16 : BdAt K G1 x16 w (whB w) := ⟨⟨dx, tb, us, k1, k2, k3⟩, fun z hz => ⟨(whB_mem w z hz).1, whB_isSt hz⟩⟩
  refine mk_lst stt_world S1 (Nat.zero_le _) fun l G2 e2 S2 h2 => rd_nil ?_
  refine ⟨w, l, [], G2, M, rfl, S2, ⟨[], sq_of h2, .nil⟩, w1, w3, Nat.zero_le _, fun z hz => (by cases hz), fun x17 G3 H3 e3 S3 h17 => rd_nil (rd_two ?_)⟩
  have x0 := e1.trans (e2.trans e3)
  show t_law_1b_11 K lw _ _ _
  exact read_l11 (F.ex x0) nb (h16.ex (e2.trans e3)) h17 (ex_l x0 ha) hall XZ (hB G3 H3 x0 S3) (hc.ex x0) fun σ' pt' G' H' sh e' B' k' => q σ' pt' G' H' sh (x0.trans e') B' k'
theorem read_l9 (F : T31 K G w ns A B s6 s7 x8 x9) (nb : ∀ n, n ∈ ns → n.natAbs < 10 ^ 19) (ha : BlL K G pa ((prods os w).map (inBd A))) (hall : (prods os w).all (fun k => inBd A k) = cvs A (whB w))
    (h15 : SqL K G p15 [.bl (cvs B A), .bl (cvs A B), .bl (cvs B A && cvs A B), .bl (cvs A B && cvs B A), .bl (!(cvs B A && cvs A B))]) (XZ : ExcOkZ K "OtherWidth") (Bg : Bag K G H b [(lw.P, .tbl pt)]) (hc : lw.codes G pt)
    (q : ∀ σ' pt' G' H', Sh s b σ' → Ex G G' → Bag K G' H' b [(lw.P, .tbl pt')] → lw.codes G' pt' → D.nx σ' H') :
    t_law_1b_9 K lw D [some (.ref s), some (.ref b), a2, some (.int (w : Nat)), a4, a5, some (.ref s6), a7, some (.ref x8), a9, a10, some (.ref pa), a12, some (.bl (cvs B A)), some (.bl (cvs A B)), some (.ref p15), a16, a17, a18, a19, a20, a21, a22, a23] H := by
  obtain ⟨M, S, hB⟩ := Bg.stt
  unfold t_law_1b_9
  refine rd_seq (rd_ifs (rd_not (rd_B (rd_call (rd_cons (rd_var rfl (rd_cons (rd_lst (rd_cons (rd_var rfl (rd_cons (rd_var rfl (rd_cons ?_)))))))))))))
  refine rd_andb rfl rfl (rd_cons (rd_andb rfl rfl (rd_cons (rd_notV (rd_andb rfl rfl ⟨_, rfl, rd_nil ?_⟩)))))
  refine mk_lst stt_world S (by show 5 ≤ _; decide) fun l G1 e1 S1 h1 => rd_nil ?_
  have d1 : Dp K G1 (.ref p15) (.list [.bool (cvs B A), .bool (cvs A B), .bool (cvs B A && cvs A B), .bool (cvs B A && cvs A B), .bool (!(cvs B A && cvs A B))]) := by
    rw [Bool.and_comm (cvs A B) (cvs B A)] at h15
    exact .lst (ex_l e1 h15) (.cons (.bl _) (.cons (.bl _) (.cons (.bl _) (.cons (.bl _) (.cons (.bl _) .nil)))))
  have d2 : Dp K G1 (.ref l) (.list [.bool (cvs B A), .bool (cvs A B), .bool (cvs B A && cvs A B), .bool (cvs B A && cvs A B), .bool (!(cvs B A && cvs A B))]) := .lst (sq_of h1) (.cons (.bl _) (.cons (.bl _) (.cons (.bl _) (.cons (.bl _) (.cons (.bl _) .nil)))))
  refine ⟨G1, M, .ref p15, .ref l, _, _, rfl, S1, d1, d2, by simp [fit], fun H7 S7 => ?_⟩
  rw [lk_same d1]
  refine rd_bl (rd_ifN (rd_next ?_))
  show t_law_1b_10 K lw _ _ _
  exact read_l10 (F.ex e1) nb (ex_l e1 ha) hall XZ (hB G1 H7 e1 S7) (hc.ex e1) fun σ' pt' G' H' sh e' B' k' => q σ' pt' G' H' sh (e1.trans e') B' k'
theorem read_l8 (F : T31 K G w ns A B s6 s7 x8 x9) (nb : ∀ n, n ∈ ns → n.natAbs < 10 ^ 19) (ha : BlL K G pa ((prods os w).map (inBd A))) (hall : (prods os w).all (fun k => inBd A k) = cvs A (whB w)) (XZ : ExcOkZ K "OtherWidth") (Bg : Bag K G H b [(lw.P, .tbl pt)]) (hc : lw.codes G pt)
    (q : ∀ σ' pt' G' H', Sh s b σ' → Ex G G' → Bag K G' H' b [(lw.P, .tbl pt')] → lw.codes G' pt' → D.nx σ' H') :
    t_law_1b_8 K lw D [some (.ref s), some (.ref b), a2, some (.int (w : Nat)), a4, a5, some (.ref s6), a7, some (.ref x8), some (.ref x9), a10, some (.ref pa), a12, some (.bl (cvs B A)), some (.bl (cvs A B)), a15, a16, a17, a18, a19, a20, a21, a22, a23] H := by
  obtain ⟨M, S, hB⟩ := Bg.stt
  have w1 := F.w1
  have w3 := F.w3
  have lA := F.lA
  have lB := F.lB
  unfold t_law_1b_8
  refine rd_seq (rd_asg (rd_lst (rd_cons ?_)))
  refine rd_within rfl rfl S F.h8 F.h9 w1 w3 (by omega) lB (fun _ G1 H1 e1 S1 => rd_cons ?_) fun z => absurd rfl z
  refine rd_withinK rfl rfl S1 (F.h9.ex e1) (F.h8.ex e1) w1 w3 lB (by omega) fun G2 H2 e2 S2 => rd_cons (rd_op (rd_var rfl (rd_var rfl ?_)))
  have e12 := e1.trans e2
  refine rd_eqBd S2 (F.h8.ex e12) (F.h9.ex e12) w1 w3 (by omega) lB fun G3 H3 e3 S3 => rd_cons (rd_op (rd_var rfl (rd_var rfl ?_)))
  have e13 := e12.trans e3
  refine rd_eqBd S3 (F.h9.ex e13) (F.h8.ex e13) w1 w3 lB (by omega) fun G4 H4 e4 S4 => rd_cons (rd_op (rd_var rfl (rd_var rfl ?_)))
  have e14 := e13.trans e4
  refine rd_neBd S4 (F.h8.ex e14) (F.h9.ex e14) w1 w3 (by omega) lB fun G5 H5 e5 S5 => rd_nil ?_
  have e15 := e14.trans e5
  rw [bdEq_same, bdEq_same]
  refine mk_lst stt_world S5 (by show 5 ≤ _; decide) fun l G6 e6 S6 h6 => rd_name ?_
  have x0 := e15.trans e6
  show t_law_1b_9 K lw _ _ _
  exact read_l9 (F.ex x0) nb (ex_l x0 ha) hall (sq_of h6) XZ (hB G6 _ x0 S6) (hc.ex x0) fun σ' pt' G' H' sh e' B' k' => q σ' pt' G' H' sh (x0.trans e') B' k'
/-- all([right or not left for left, right in zip(..)]) -/
theorem rd_updn {pa pb : Addr} {f : Bool → Bool → Bool} {g h : List (Option Int) → Bool} {ks : List (List (Option Int))} {te : TE} {R : VK} (S : Stt G H M) (i11 : σ[11]? = some (some (.ref pa))) (i12 : σ[12]? = some (some (.ref pb))) (ha : BlL K G pa (ks.map g)) (hb : BlL K G pb (ks.map h)) (lk : ks.length ≤ 7000)
    (hw : ∀ u v, wipe (((wipe σ [22, 23]).set 22 (some u)).set 23 (some v)) [22, 23] = wipe σ [22, 23])
    (ht : ∀ (a b : Bool) (H1 : Hp) (R : VK), R (.bl (f a b)) H1 → te (((wipe σ [22, 23]).set 22 (some (.bl a))).set 23 (some (.bl b))) H1 R)
    (q : ∀ G' H', Ex G G' → Stt G' H' M → R (.bl (ks.all fun k => f (g k) (h k))) H') :
    tCB (rAll K) (tCons (tLc (iZipA K (tCons (tVar 11) (tCons (tVar 12) tNil))) (gTup K 2 (gCons (gName 22) (gCons (gName 23) gNil))) tYes te [22, 23]) tNil) σ H R := by
  unfold BlL at ha hb
  refine rd_cb (rd_cons (rd_lc (rd_zipA (rd_cons (rd_var i11 (rd_cons (rd_var i12 (rd_nil ⟨pa, pb, _, _, rfl, .inl ⟨ex_l S.ex ha, ex_l S.ex hb, ?_⟩⟩))))))))
  refine lc_go stt_world (walk_zip (n := ks.length) (by rw [List.length_map, List.length_map, List.length_map, List.length_map]; omega)) S (by omega) (ItPair K (fun i => ((ks.map g).map V.bl)[i]?) (fun i => ((ks.map h).map V.bl)[i]?)) (fun i acc _ => acc = ((List.zipWith f (ks.map g) (ks.map h)).take i).map V.bl)
    (fun H' e' => ⟨ex_l e' ha, ex_l e' hb⟩) (fun i x G1 H1 H2 L1 _ e1 S1 y => item_pair stt_world S1 y) rfl (fun _ _ _ _ _ h => h) ?_ ?_
  · rintro D1 i z acc G1 H1 hi _ e1 S1 I1 ⟨T, u, v, rfl, hT, hu, hv⟩ Kp Sk kp sk
    obtain ⟨k, hk⟩ : ∃ k, ks[i]? = some k := ⟨ks[i], List.getElem?_eq_getElem hi⟩
    have hu : ((ks.map g).map V.bl)[i]? = some u := hu
    have hv : ((ks.map h).map V.bl)[i]? = some v := hv
    rw [List.getElem?_map, List.getElem?_map, hk] at hu hv
    obtain rfl : V.bl (g k) = u := Option.some.inj hu
    obtain rfl : V.bl (h k) = v := Option.some.inj hv
    refine rd_gtup2 (ex_t S1.ex hT) ⟨hw _ _, rd_yes (rd_iT (ht (g k) (h k) _ _ (kp _ G1 H1 (Ex.refl _) S1 ?_)))⟩
    have hz : (List.zipWith f (ks.map g) (ks.map h))[i]? = some (f (g k) (h k)) := by
      rw [List.getElem?_zipWith, List.getElem?_map, List.getElem?_map, hk]; rfl
    rw [I1, List.take_add_one, hz, List.map_append]
    rfl
  · intro D1 acc G1 H1 e1 S1 I1 _
    have lz : (List.zipWith f (ks.map g) (ks.map h)).length = ks.length := by rw [List.length_zipWith, List.length_map, List.length_map]; omega
    rw [← lz, List.take_length] at I1
    subst I1
    refine rd_nil (rd_all (sq_of (S1.at 0 rfl)) ?_)
    rw [zip_all]
    exact q G1 H1 e1 S1.drop
theorem read_l7 (F : T31 K G w ns A B s6 s7 x8 x9) (nb : ∀ n, n ∈ ns → n.natAbs < 10 ^ 19) (ha : BlL K G pa ((prods os w).map (inBd A))) (hb : BlL K G pb ((prods os w).map (inBd B))) (lk : (prods os w).length ≤ 7000) (hall : (prods os w).all (fun k => inBd A k) = cvs A (whB w))
    (hup : (prods os w).all (fun k => inBd B k || !inBd A k) = cvs B A) (hdn : (prods os w).all (fun k => inBd A k || !inBd B k) = cvs A B) (XZ : ExcOkZ K "OtherWidth") (Bg : Bag K G H b [(lw.P, .tbl pt)]) (hc : lw.codes G pt)
    (q : ∀ σ' pt' G' H', Sh s b σ' → Ex G G' → Bag K G' H' b [(lw.P, .tbl pt')] → lw.codes G' pt' → D.nx σ' H') :
    t_law_1b_7 K lw D [some (.ref s), some (.ref b), a2, some (.int (w : Nat)), a4, a5, some (.ref s6), a7, some (.ref x8), some (.ref x9), a10, some (.ref pa), some (.ref pb), a13, a14, a15, a16, a17, a18, a19, a20, a21, a22, a23] H := by
  obtain ⟨M, S, hB⟩ := Bg.stt
  unfold t_law_1b_7
  refine rd_seq (rd_par (rd_cons ?_))
  refine rd_updn (f := fun a b => b || !a) S rfl rfl ha hb lk (fun _ _ => rfl) (fun a b H1 R r => rd_orb rfl rfl r) fun G1 H1 e1 S1 => rd_cons ?_
  refine rd_updn (f := fun a b => a || !b) S1 rfl rfl (ex_l e1 ha) (ex_l e1 hb) lk (fun _ _ => rfl) (fun a b H1 R r => rd_orb rfl rfl r) fun G2 H2 e2 S2 => rd_nil (rd_two ?_)
  have x0 := e1.trans e2
  have u : (prods os w).all (fun k => (fun a b => b || !a) (inBd A k) (inBd B k)) = cvs B A := hup
  have d : (prods os w).all (fun k => (fun a b => a || !b) (inBd A k) (inBd B k)) = cvs A B := hdn
  rw [u, d]
  show t_law_1b_8 K lw _ _ _
  exact read_l8 (F.ex x0) nb (ex_l x0 ha) hall XZ (hB G2 H2 x0 S2) (hc.ex x0) fun σ' pt' G' H' sh e' B' k' => q σ' pt' G' H' sh (x0.trans e') B' k'
/-- [key_in(boxes, key) for key in keys] -/
theorem rd_kin {sp : Addr} {kus : List V} {ks : List (List (Option Int))} {bs : List BX} {i6 : Nat} {R : VK} (S : Stt G H M) (hi : σ[10]? = some (some (.ref p10))) (hs : ∀ u, ((wipe σ [21]).set 21 (some u))[i6]? = some (some (.ref sp))) (h21 : ∀ u, ((wipe σ [21]).set 21 (some u))[21]? = some (some u)) (hw : ∀ u, wipe ((wipe σ [21]).set 21 (some u)) [21] = wipe σ [21])
    (hk : SqL K G p10 kus) (hkd : DpAll K G kus (ks.map kyD)) (hbx : BxL K G sp bs) (l8 : bs.length ≤ 8) (b3 : ∀ x, x ∈ bs → x.length ≤ 3) (lk : ks.length ≤ 7000)
    (q : ∀ p G' H', Ex G G' → Stt G' H' M → BlL K G' p (ks.map (inBd bs)) → R (.ref p) H') :
    tLc (iList K (tVar 10)) (gName 21) tYes (tCall (sp_key_in K) [] E0 (tCons (tVar i6) (tCons (tVar 21) tNil))) [21] σ H R := by
  have hkl := DpAll.length hkd
  rw [List.length_map] at hkl
  obtain ⟨us, h1, h2⟩ := hbx
  refine rd_lc (rd_il (rd_var hi ⟨p10, rfl, ⟨_, ex_l S.ex hk⟩, ?_⟩))
  refine lc_go stt_world (walk_list (K := K) (a := p10) (xs := kus)) S (by omega) (fun i v _ => kus[i]? = some v) (fun i acc _ => acc = ((ks.take i).map (inBd bs)).map V.bl) (fun H' e' => ex_l e' hk)
    (fun i x G1 H1 H2 L1 _ e1 S1 y => item_at S1 y) rfl (fun _ _ _ _ _ h => h) ?_ ?_
  · intro D1 i v acc G1 H1 hi _ e1 S1 I1 it Kp Sk kp sk
    obtain ⟨d, hd, dp⟩ := DpAll.get hkd it
    obtain ⟨k, hkk, rfl⟩ := get_map hd
    obtain ⟨a, rfl, ha⟩ := ky_inv (Dp.ex e1 _ _ dp)
    refine rd_name ⟨hw _, rd_yes (rd_iT (rd_call (rd_cons (rd_var (hs _) (rd_cons (rd_var (h21 _) (rd_nil ?_)))))))⟩
    refine ⟨sp, a, us, bs, k, G1, _, rfl, S1, ex_l e1 h1, DpAll.ex e1 _ _ h2, ha, by omega, fun b hb => Nat.le_trans (b3 b hb) (by decide), fun G2 H2 e2 S2 => kp _ G2 H2 e2 S2 ?_⟩
    rw [I1, List.take_add_one, hkk, List.map_append, List.map_append]
    rfl
  · intro D1 acc G1 H1 e1 S1 I1 _
    rw [hkl, List.take_length] at I1
    subst I1
    exact q D1 _ H1 (e1.trans S1.frzE) S1.frz (sq_of upd_same)
theorem read_l6 {kus : List V} (F : T31 K G w ns A B s6 s7 x8 x9) (nb : ∀ n, n ∈ ns → n.natAbs < 10 ^ 19) (hk : SqL K G p10 kus) (hkd : DpAll K G kus ((prods os w).map kyD)) (lk : (prods os w).length ≤ 7000) (hall : (prods os w).all (fun k => inBd A k) = cvs A (whB w))
    (hup : (prods os w).all (fun k => inBd B k || !inBd A k) = cvs B A) (hdn : (prods os w).all (fun k => inBd A k || !inBd B k) = cvs A B) (XZ : ExcOkZ K "OtherWidth") (Bg : Bag K G H b [(lw.P, .tbl pt)]) (hc : lw.codes G pt)
    (q : ∀ σ' pt' G' H', Sh s b σ' → Ex G G' → Bag K G' H' b [(lw.P, .tbl pt')] → lw.codes G' pt' → D.nx σ' H') :
    t_law_1b_6 K lw D [some (.ref s), some (.ref b), a2, some (.int (w : Nat)), a4, a5, some (.ref s6), some (.ref s7), some (.ref x8), some (.ref x9), some (.ref p10), a11, a12, a13, a14, a15, a16, a17, a18, a19, a20, a21, a22, a23] H := by
  obtain ⟨M, S, hB⟩ := Bg.stt
  have w3 := F.w3
  have lA := F.lA
  have lB := F.lB
  unfold t_law_1b_6
  refine rd_seq (rd_par (rd_cons ?_))
  refine rd_kin (i6 := 6) S rfl (fun _ => rfl) (fun _ => rfl) (fun _ => rfl) hk hkd F.h6 (by omega) (fun x hx => by rw [(F.gA x hx).1]; exact w3) lk fun pa G1 H1 e1 S1 ha => rd_cons ?_
  refine rd_kin (i6 := 7) S1 rfl (fun _ => rfl) (fun _ => rfl) (fun _ => rfl) (ex_l e1 hk) (DpAll.ex e1 _ _ hkd) (F.h7.ex e1) lB (fun x hx => by rw [(F.gB x hx).1]; exact w3) lk fun pb G2 H2 e2 S2 hb => rd_nil (rd_two ?_)
  have x0 := e1.trans e2
  show t_law_1b_7 K lw _ _ _
  exact read_l7 (F.ex x0) nb (ex_l e2 ha) hb lk hall hup hdn XZ (hB G2 H2 x0 S2) (hc.ex x0) fun σ' pt' G' H' sh e' B' k' => q σ' pt' G' H' sh (x0.trans e') B' k'
end

/-! The law: a turn, the end, the whole. -/
open PySem PySem.Spec PyProof.Rows L2 Evl RZ NumText



theorem flat_rep {v : V} : ∀ n : Nat, (List.replicate n [v]).flatten = List.replicate n v
  | 0 => rfl
  | n + 1 => by rw [List.replicate_succ, List.flatten_cons, flat_rep n]; rfl
theorem sides_of {C : List Int} {os : List (Option Int)} (h : SidesOf C os) : ∀ o, Beside C o → o ∈ os
  | none, _ => h.1
  | some v, ⟨c, hc, k⟩ => by
    have ⟨h1, h2, h3⟩ := h.2 c hc
    rcases k with rfl | rfl | rfl
    · exact h1
    · exact h2
    · exact h3
/-- one of the ways to get other boxes -/
def More (K : PySem.W.Frag) (G : Hp) (ns : List Int) (w : Nat) (y : V) : Prop := ∃ p B, y = .ref p ∧ BxL K G p B ∧ B.length ≤ 8 ∧ ∀ x, x ∈ B → CutOk ns w x
theorem More.ex {K : PySem.W.Frag} {G G' : Hp} {ns : List Int} {w : Nat} {y : V} (e : Ex G G') : More K G ns w y → More K G' ns w y := fun ⟨p, B, h1, h2, h3⟩ => ⟨p, B, h1, h2.ex e, h3⟩
section
variable {K : PySem.W.Frag} [SB : BndK K] [KB : KitB K] {G H : Hp} {L M : List (Addr × HO)} {Q : VK} {E : XK} {D : Ends} {lw : LamW} {pt : Array Value} {s b na x y : Addr} {w w2 : Nat} {A B as bs : List BX} {s6 s7 x8 x9 x16 x17 x18 p10 pa pb p15 : Addr} {ns : List Int} {os : List (Option Int)} {σ : L2.St} {i j : Nat}
  {a0 a1 a2 a3 a4 a5 a6 a7 a8 a9 a10 a11 a12 a13 a14 a15 a16 a17 a18 a19 a20 a21 a22 a23 : Option V}
theorem cut_ok (nb : ∀ n, n ∈ ns → n.natAbs < 10 ^ 19) {bs : List BX} (h : ∀ x, x ∈ bs → CutOk ns w x) : BxOk w bs := fun x hx => ⟨⟨(h x hx).1, fun z hz => ((h x hx).2 z hz).1⟩, fun z hz a b e => by
  subst e
  have h := ((h x hx).2 _ hz).2
  have big : ∀ i, i ∈ cutsOf ns → i.natAbs < 10 ^ 20 := fun i hi => by
    have k : (10 : Nat) ^ 19 + 1 < 10 ^ 20 := by decide
    rcases List.mem_append.mp hi with h | h
    · have := nb i h; omega
    · obtain ⟨m, hm, rfl⟩ := List.mem_map.mp h
      have := nb m hm; omega
  exact ⟨fun i hi => big i (h.1 i hi), fun i hi => big i (h.2 i hi)⟩⟩
/-- the keys -/
theorem read_l5 (F : T31 K G w ns A B s6 s7 x8 x9) (nb : ∀ n, n ∈ ns → n.natAbs < 10 ^ 19) (hn : G na = some (.lst (ns.map V.int))) (n0 : 0 < ns.length) (n3 : ns.length ≤ 3) (XZ : ExcOkZ K "OtherWidth") (Bg : Bag K G H b [(lw.P, .tbl pt)]) (hc : lw.codes G pt)
    (q : ∀ σ' pt' G' H', Sh s b σ' → Ex G G' → Bag K G' H' b [(lw.P, .tbl pt')] → lw.codes G' pt' → D.nx σ' H') :
    t_law_1b_5 K lw D [some (.ref s), some (.ref b), a2, some (.int (w : Nat)), a4, some (.ref na), some (.ref s6), some (.ref s7), some (.ref x8), some (.ref x9), a10, a11, a12, a13, a14, a15, a16, a17, a18, a19, a20, a21, a22, a23] H := by
  obtain ⟨M, S, hB⟩ := Bg.stt
  have w1 := F.w1
  have w3 := F.w3
  unfold t_law_1b_5
  refine rd_seq (rd_asg (rd_call (rd_cons (rd_op (rd_lst (rd_cons (rd_call (rd_cons (rd_op (rd_var rfl (rd_lc (rd_il (rd_var rfl ⟨na, rfl, ⟨_, sq_of (S.ex _ _ hn)⟩, ?_⟩)))))))))))))
  refine lc_go stt_world (walk_list (K := K) (a := na) (xs := ns.map V.int)) S (by rw [List.length_map]; omega) (fun k v _ => (ns.map V.int)[k]? = some v) (fun k acc _ => acc = ((ns.take k).map (· + 1)).map V.int) (fun H' e' => sq_of (e' _ _ hn))
    (fun i x G1 H1 H2 L1 _ e1 S1 y => item_at S1 y) rfl (fun _ _ _ _ _ h => h) ?_ ?_
  · intro D1 k o acc G1 H1 hk _ e1 S1 hacc it Kp Sk kp sk
    rw [List.getElem?_map] at it
    obtain ⟨n, hnn, rfl⟩ := Option.map_eq_some_iff.mp it
    refine rd_name ⟨rfl, rd_yes (rd_iT (rd_op (rd_var rfl (rd_c (rd_addI (kp _ G1 H1 (Ex.refl _) S1 ?_))))))⟩
    rw [hacc, List.take_add_one, hnn, List.map_append, List.map_append]
    rfl
  · intro D1 acc G1 H1 e1 S1 hacc _
    rw [List.length_map, List.take_length] at hacc
    subst hacc
    refine rd_addL (S1.ex _ _ (e1 _ _ hn)) (S1.at 0 rfl) (sz_of (by rw [List.length_map, List.length_map, List.length_map]; omega)) ?_
    refine mk_im (o := .lst (ns.map V.int ++ (ns.map (· + 1)).map V.int)) stt_world S1.drop fun nc G2 e2 S2 h2 => rd_nil ?_
    have hnc : SqL K G2 nc ((cutsOf ns).map V.int) := by
      show SqL K G2 nc ((ns ++ ns.map (· + 1)).map V.int)
      rw [List.map_append]
      exact sq_of h2
    have cl : (cutsOf ns).length = 2 * ns.length := by
      show (ns ++ ns.map (· + 1)).length = _
      rw [List.length_append, List.length_map]; omega
    refine ⟨nc, cutsOf ns, G2, M, rfl, S2, hnc, by omega, fun r os G3 H3 e3 S3 hr hso hol => rd_nil ?_⟩
    refine mk_lst stt_world S3 (by show 1 ≤ _; decide) fun l G4 e4 S4 h4 => rd_var rfl ?_
    refine .inr ⟨l, (w : Nat), [.ref r], rfl, rfl, S4.ex _ _ h4, by omega, by omega, sz_of (by show 1 * w ≤ _; omega), ?_⟩
    rw [show (List.replicate ((w : Nat) : Int).toNat [V.ref r]).flatten = List.replicate w (V.ref r) from flat_rep w]
    refine mk_im (o := .lst (List.replicate w (V.ref r))) stt_world S4 fun p2 G5 e5 S5 h5 => rd_nil ?_
    refine ⟨p2, r, w, os, G5, M, rfl, S5, sq_of h5, ex_l (e4.trans e5) hr, w3, by omega, fun t us G6 H6 e6 S6 ht hus => rd_name ?_⟩
    have x0 := e1.trans (e2.trans (e3.trans (e4.trans (e5.trans e6))))
    have F6 := F.ex x0
    have ne : cutsOf ns ≠ [] := fun z => by rw [z] at cl; have cl : 0 = 2 * ns.length := cl; omega
    have gA : ∀ x, x ∈ A → GB w x := fun x hx => ⟨(F.gA x hx).1, fun z hz => ((F.gA x hx).2 z hz).1⟩
    have gB : ∀ x, x ∈ B → GB w x := fun x hx => ⟨(F.gB x hx).1, fun z hz => ((F.gB x hx).2 z hz).1⟩
    have cA : CutB (cutsOf ns) A := fun x hx z hz => ((F.gA x hx).2 z hz).2
    have cB : CutB (cutsOf ns) B := fun x hx z hz => ((F.gB x hx).2 z hz).2
    have lk : (prods os w).length ≤ 7000 := by
      rw [prods_len]
      have h1 : os.length ^ w ≤ 19 ^ w := Nat.pow_le_pow_left (by omega) w
      have h2 : 19 ^ w ≤ 19 ^ 3 := Nat.pow_le_pow_right (by decide) w3
      have h3 : (19 : Nat) ^ 3 = 6859 := by decide
      omega
    show t_law_1b_6 K lw _ _ _
    exact read_l6 F6 nb ht hus lk (all_keys ne (sides_of hso) cA gA) (cvs_keys ne (sides_of hso) cA cB gA gB) (cvs_keys ne (sides_of hso) cB cA gB gA) XZ (hB G6 H6 x0 S6) (hc.ex x0) fun σ' pt' G' H' sh e' B' k' => q σ' pt' G' H' sh (x0.trans e') B' k'
/-- both bounds -/
theorem read_l4 (h6 : BxL K G s6 A) (r6 : ∃ us, G s6 = some (.lst us)) (h7 : BxL K G s7 B) (gA : ∀ x, x ∈ A → CutOk ns w x) (gB : ∀ x, x ∈ B → CutOk ns w x) (lA : A.length ≤ 3) (lB : B.length ≤ 8) (w1 : 1 ≤ w) (w3 : w ≤ 3) (nb : ∀ n, n ∈ ns → n.natAbs < 10 ^ 19) (hn : G na = some (.lst (ns.map V.int))) (n0 : 0 < ns.length) (n3 : ns.length ≤ 3) (XZ : ExcOkZ K "OtherWidth") (Bg : Bag K G H b [(lw.P, .tbl pt)]) (hc : lw.codes G pt)
    (q : ∀ σ' pt' G' H', Sh s b σ' → Ex G G' → Bag K G' H' b [(lw.P, .tbl pt')] → lw.codes G' pt' → D.nx σ' H') :
    t_law_1b_4 K lw D [some (.ref s), some (.ref b), a2, some (.int (w : Nat)), a4, some (.ref na), some (.ref s6), some (.ref s7), a8, a9, a10, a11, a12, a13, a14, a15, a16, a17, a18, a19, a20, a21, a22, a23] H := by
  obtain ⟨M, S, hB⟩ := Bg.stt
  unfold t_law_1b_4
  refine rd_seq (rd_asg (rd_tup (rd_cons (rd_call (rd_cons (rd_var rfl (rd_cons (rd_var rfl (rd_nil ?_)))))))))
  refine ⟨w, s6, A, G, M, rfl, S, h6, w1, w3, by omega, cut_ok nb gA, fun x8 G1 H1 e1 S1 c8 => rd_cons (rd_call (rd_cons (rd_var rfl (rd_cons (rd_var rfl (rd_nil ?_))))))⟩
  refine ⟨w, s7, B, G1, M, rfl, S1, h7.ex e1, w1, w3, by omega, cut_ok nb gB, fun x9 G2 H2 e2 S2 c9 => rd_nil ?_⟩
  refine mk_tup stt_world S2 (by show 2 ≤ _; decide) fun pp G3 e3 S3 k3 => ?_
  refine rd_gtup2 (st_of (S3.ex _ _ k3)) ?_
  have x0 := e1.trans (e2.trans e3)
  have F : T31 K G3 w ns A B s6 s7 x8 x9 := ⟨h6.ex x0, have ⟨us, h⟩ := r6; ⟨us, x0 _ _ h⟩, h7.ex x0, c8.ex (e2.trans e3), c9.ex e3, gA, gB, lA, lB, w1, w3⟩
  show t_law_1b_5 K lw _ [some (.ref s), some (.ref b), a2, some (.int (w : Nat)), a4, some (.ref na), some (.ref s6), some (.ref s7), some (.ref x8), some (.ref x9), a10, a11, a12, a13, a14, a15, a16, a17, a18, a19, a20, a21, a22, a23] _
  exact read_l5 F nb (x0 _ _ hn) n0 n3 XZ (hB G3 _ x0 S3) (hc.ex x0) fun σ' pt' G' H' sh e' B' k' => q σ' pt' G' H' sh (x0.trans e') B' k'
/-- boxes(bag, width, numbers, most) -/
theorem rd_bxs {m : Nat} {R : VK} (W : Bag K G H b L) (hn : SqL K G na (ns.map V.int)) (n0 : 0 < ns.length) (n3 : ns.length ≤ 3) (w3 : w ≤ 3) (m9 : m ≤ 9) (i1 : σ[1]? = some (some (.ref b))) (i3 : σ[3]? = some (some (.int (w : Nat)))) (i5 : σ[5]? = some (some (.ref na)))
    (q : ∀ p us (bs : List BX) G' H', Ex G G' → Bag K G' H' b L → G' p = some (.lst us) → DpAll K G' us (bs.map boxD) → bs.length ≤ m → (∀ x, x ∈ bs → x.length = w ∧ ∀ s, s ∈ x → SOk ns s) → R (.ref p) H') :
    tCall (sp_boxes K) [] E0 (tCons (tVar 1) (tCons (tVar 3) (tCons (tVar 5) (tCons (tC (.int (m : Nat))) tNil)))) σ H R :=
  rd_call (rd_cons (rd_var i1 (rd_cons (rd_var i3 (rd_cons (rd_var i5 (rd_cons (rd_c (rd_nil ⟨b, na, w, m, ns, G, L, rfl, w3, m9, W, hn, n0, by omega, q⟩)))))))))
theorem rd_cut {R : VK} (W : Bag K G H b L) (h6 : BxL K G s6 A) (gA : ∀ x, x ∈ A → x.length = w ∧ ∀ s, s ∈ x → SOk ns s) (lA : A.length ≤ 3) (hn : SqL K G na (ns.map V.int)) (n0 : 0 < ns.length) (n3 : ns.length ≤ 3) (w1 : 1 ≤ w) (w3 : w ≤ 3) (i1 : σ[1]? = some (some (.ref b))) (i6 : σ[6]? = some (some (.ref s6))) (i5 : σ[5]? = some (some (.ref na)))
    (q : ∀ p (cs : List BX) G' H', Ex G G' → Bag K G' H' b L → BxL K G' p cs → cs.length ≤ 7 → (∀ x, x ∈ cs → CutOk ns w x) → R (.ref p) H') :
    tCall (sp_cut_boxes K) [] E0 (tCons (tVar 1) (tCons (tVar 6) (tCons (tVar 5) tNil))) σ H R :=
  rd_call (rd_cons (rd_var i1 (rd_cons (rd_var i6 (rd_cons (rd_var i5 (rd_nil ⟨b, s6, na, w, ns, A, G, L, rfl, W, h6, hn, n0, by omega, w1, w3, lA, gA, q⟩)))))))
/-- other boxes -/
theorem read_l3 (h6 : BxL K G s6 A) (r6 : ∃ us, G s6 = some (.lst us)) (gA : ∀ x, x ∈ A → x.length = w ∧ ∀ s, s ∈ x → SOk ns s) (lA : A.length ≤ 3) (w1 : 1 ≤ w) (w3 : w ≤ 3) (nb : ∀ n, n ∈ ns → n.natAbs < 10 ^ 19) (hn : G na = some (.lst (ns.map V.int))) (n0 : 0 < ns.length) (n3 : ns.length ≤ 3) (XZ : ExcOkZ K "OtherWidth") (Bg : Bag K G H b [(lw.P, .tbl pt)]) (hc : lw.codes G pt)
    (q : ∀ σ' pt' G' H', Sh s b σ' → Ex G G' → Bag K G' H' b [(lw.P, .tbl pt')] → lw.codes G' pt' → D.nx σ' H') :
    t_law_1b_3 K lw D [some (.ref s), some (.ref b), a2, some (.int (w : Nat)), a4, some (.ref na), some (.ref s6), a7, a8, a9, a10, a11, a12, a13, a14, a15, a16, a17, a18, a19, a20, a21, a22, a23] H := by
  have W := bag_world K b
  have sok : ∀ {bs : List BX}, (∀ x, x ∈ bs → x.length = w ∧ ∀ s, s ∈ x → SOk ns s) → ∀ x, x ∈ bs → CutOk ns w x := fun h x hx => cutOk_sok (h x hx)
  unfold t_law_1b_3
  refine rd_seq (rd_asg (rd_call (rd_cons (rd_var rfl (rd_cons (rd_lst (rd_cons ?_)))))))
  refine rd_cut Bg h6 gA lA (sq_of hn) n0 n3 w1 w3 rfl rfl rfl fun q1 c1 G1 H1 e1 B1 k1 l1 g1 => rd_cons (rd_op ?_)
  refine rd_cut B1 (h6.ex e1) gA lA (sq_of (e1 _ _ hn)) n0 n3 w1 w3 rfl rfl rfl fun q2 c2 G2 H2 e2 B2 k2 l2 g2 => ?_
  have e12 := e1.trans e2
  refine rd_bxs (m := 1) B2 (sq_of (e12 _ _ hn)) n0 n3 w3 (by decide) rfl rfl rfl fun q3 u3 c3 G3 H3 e3 B3 k3 d3 l3 g3 => ?_
  have e13 := e12.trans e3
  obtain ⟨u2, k2, d2⟩ := k2
  have ul2 := DpAll.length d2
  have ul3 := DpAll.length d3
  rw [List.length_map] at ul2 ul3
  refine rd_catS (ex_l (e3.trans B3.ex) k2) (ex_l B3.ex (sq_of k3)) (by omega) ?_
  refine mk_im (o := .lst (u2 ++ u3)) W B3 fun q4 G4 e4 B4 k4 => rd_cons ?_
  have e14 := e13.trans e4
  obtain ⟨u6, k6, d6⟩ := h6.ex e14
  refine rd_sl (rd_var rfl (rd_part (rd_c ⟨1, rfl, rd_noPart (rd_slL (ex_l B4.ex k6) ?_)⟩)))
  refine mk_im (o := .lst (cutV u6 (some 1) none)) W B4 fun q5 G5 e5 B5 k5 => rd_cons ?_
  rw [show (1 : Int) = ((1 : Nat) : Int) from rfl, cutT_from] at k5
  have e15 := e14.trans e5
  refine rd_bxs (m := 3) B5 (sq_of (e15 _ _ hn)) n0 n3 w3 (by decide) rfl rfl rfl fun q6 u7 c6 G6 H6 e6 B6 k7 d7 l6 g6 => rd_nil ?_
  refine mk_lst W B6 (by show 4 ≤ _; decide) fun l G7 e7 B7 k8 => rd_nil ?_
  refine ⟨b, l, _, G7, _, rfl, B7, fun H' B' => .inl (ex_l B'.ex (sq_of k8)), by show 0 < 4; decide, by show 4 < _; decide, fun y H8 hy B8 => rd_name ?_⟩
  have x0 := e15.trans (e6.trans e7)
  have mo : More K G7 ns w y := by
    rcases (List.mem_cons.mp hy) with rfl | hy
    · exact ⟨q1, c1, rfl, k1.ex (e2.trans (e3.trans (e4.trans (e5.trans (e6.trans e7))))), by omega, g1⟩
    rcases (List.mem_cons.mp hy) with rfl | hy
    · refine ⟨q4, c2 ++ c3, rfl, ⟨u2 ++ u3, ex_l (e5.trans (e6.trans e7)) (sq_of k4), ?_⟩, by rw [List.length_append]; omega, fun x hx => (List.mem_append.mp hx).elim (g2 x) (sok g3 x)⟩
      rw [List.map_append]
      have y4 := e4.trans (e5.trans (e6.trans e7))
      exact dp_app2 (DpAll.ex (e3.trans y4) _ _ d2) (DpAll.ex y4 _ _ d3)
    rcases (List.mem_cons.mp hy) with rfl | hy
    · refine ⟨q5, A.drop 1, rfl, ⟨u6.drop 1, ex_l (e6.trans e7) (sq_of k5), ?_⟩, by rw [List.length_drop]; omega, fun x hx => sok gA x (List.mem_of_mem_drop hx)⟩
      rw [List.map_drop]
      exact DpAll.drop 1 (DpAll.ex (e5.trans (e6.trans e7)) _ _ d6)
    · rw [List.mem_singleton.mp hy]
      exact ⟨q6, c6, rfl, ⟨u7, ex_l e7 (sq_of k7), DpAll.ex e7 _ _ d7⟩, by omega, sok g6⟩
  obtain ⟨p, B, rfl, hB, lB, gB⟩ := mo
  show t_law_1b_4 K lw _ _ _
  exact read_l4 (h6.ex x0) (have ⟨us, h⟩ := r6; ⟨us, x0 _ _ h⟩) hB (sok gA) gB lA lB w1 w3 nb (x0 _ _ hn) n0 n3 XZ B8 (hc.ex x0) fun σ' pt' G' H' sh e' B' k' => q σ' pt' G' H' sh (x0.trans e') B' k'
theorem read_l2 (w1 : 1 ≤ w) (w3 : w ≤ 3) (nb : ∀ n, n ∈ ns → n.natAbs < 10 ^ 19) (hn : G na = some (.lst (ns.map V.int))) (n0 : 0 < ns.length) (n3 : ns.length ≤ 3) (XZ : ExcOkZ K "OtherWidth") (Bg : Bag K G H b [(lw.P, .tbl pt)]) (hc : lw.codes G pt)
    (q : ∀ σ' pt' G' H', Sh s b σ' → Ex G G' → Bag K G' H' b [(lw.P, .tbl pt')] → lw.codes G' pt' → D.nx σ' H') :
    t_law_1b_2 K lw D [some (.ref s), some (.ref b), a2, some (.int (w : Nat)), a4, some (.ref na), a6, a7, a8, a9, a10, a11, a12, a13, a14, a15, a16, a17, a18, a19, a20, a21, a22, a23] H := by
  unfold t_law_1b_2
  refine rd_seq (rd_asg ?_)
  refine rd_call (rd_cons (rd_var rfl (rd_cons (rd_var rfl (rd_cons (rd_var rfl (rd_cons (rd_c (rd_nil ⟨b, na, w, 3, ns, G, _, rfl, w3, by decide, Bg, sq_of hn, n0, by omega, fun p us bs G1 H1 e1 B1 hp hd l3 gA => rd_name ?_⟩)))))))))
  show t_law_1b_3 K lw _ _ _
  exact read_l3 ⟨us, sq_of hp, hd⟩ ⟨us, hp⟩ gA l3 w1 w3 nb (e1 _ _ hn) n0 n3 XZ B1 (hc.ex e1) fun σ' pt' G' H' sh e' B' k' => q σ' pt' G' H' sh (e1.trans e') B' k'
theorem read_l1 {low : Int} (hl : low.natAbs ≤ 10 ^ 17) (w1 : 1 ≤ w) (w3 : w ≤ 3) (XZ : ExcOkZ K "OtherWidth") (Bg : Bag K G H b [(lw.P, .tbl pt)]) (hc : lw.codes G pt)
    (q : ∀ σ' pt' G' H', Sh s b σ' → Ex G G' → Bag K G' H' b [(lw.P, .tbl pt')] → lw.codes G' pt' → D.nx σ' H') :
    t_law_1b_1 K lw D [some (.ref s), some (.ref b), a2, some (.int (w : Nat)), some (.int low), a5, a6, a7, a8, a9, a10, a11, a12, a13, a14, a15, a16, a17, a18, a19, a20, a21, a22, a23] H := by
  have W := bag_world K b
  have go : ∀ m : Nat, 0 < m → m ≤ 3 → LcG (Itr 0 ((m : Nat) : Int).toNat) (gName 19) tYes (tOp (gAdd K) (tVar 4) (tCall (sp_draw K) [] E0 (tCons (tVar 1) (tCons (tC (.int 4)) tNil)))) [19] [some (.ref s), some (.ref b), a2, some (.int (w : Nat)), some (.int low), a5, a6, a7, a8, a9, a10, a11, a12, a13, a14, a15, a16, a17, a18, a19, a20, a21, a22, a23] H (fun x H1 => gName 5 x [some (.ref s), some (.ref b), a2, some (.int (w : Nat)), some (.int low), a5, a6, a7, a8, a9, a10, a11, a12, a13, a14, a15, a16, a17, a18, a19, a20, a21, a22, a23] H1 (t_law_1b_2 K lw D)) := fun m m0 m3 => by
    refine lc_go W (walk_range (lo := 0) (n := ((m : Nat) : Int).toNat)) Bg (by rw [Int.toNat_natCast]; omega) (fun _ _ _ => True) (fun i acc _ => ∃ ns : List Int, ns.length = i ∧ acc = ns.map V.int ∧ ∀ n, n ∈ ns → n.natAbs < 10 ^ 19)
      (fun _ _ => True.intro) (fun i x G1 H1 H2 L1 _ e1 S1 y => by
        obtain ⟨rfl, _⟩ := y
        exact ⟨G1, Ex.refl _, S1, True.intro⟩) ⟨[], rfl, rfl, fun _ h => nomatch h⟩ (fun _ _ _ _ _ h => h) ?_ ?_
    · intro D1 i x acc G2 H2 hi _ e2 B2 ⟨ns, hl1, hacc, nb⟩ _ Kp Sk kp sk
      refine rd_name ⟨rfl, rd_yes (rd_iT (rd_op (rd_var rfl (rd_call (rd_cons (rd_var rfl (rd_cons (rd_c (rd_nil ?_)))))))))⟩
      refine ⟨b, 4, G2, _, rfl, by decide, by decide, B2, fun d H3 d0 d4 B3 => ?_⟩
      refine rd_addI ?_
      exact kp _ G2 H3 (Ex.refl _) B3 ⟨ns ++ [low + d], by rw [List.length_append, hl1]; rfl, by rw [hacc, List.map_append]; rfl, fun n hn => (List.mem_append.mp hn).elim (nb n) fun h => by
        rw [List.mem_singleton.mp h]
        have k : (10 : Nat) ^ 17 + 4 < 10 ^ 19 := by decide
        omega⟩
    · intro na acc G2 H2 e2 B2 ⟨ns, hl1, hacc, nb⟩ _
      subst hacc
      have hl3 : ns.length = m := hl1
      obtain ⟨B3, e3⟩ := W.frz B2
      have hna : (upd G2 na (.lst (ns.map V.int))) na = some (.lst (ns.map V.int)) := upd_same
      have x0 := e2.trans e3
      refine rd_name ?_
      show t_law_1b_2 K lw _ _ _
      exact read_l2 w1 w3 nb hna (by omega) (by omega) XZ B3 (hc.ex x0) fun σ' pt' G' H' sh e' B' k' => q σ' pt' G' H' sh (x0.trans e') B' k'
  unfold t_law_1b_1
  refine rd_seq (rd_asg (rd_lc (rd_rng1 (rd_cons (rd_if (rd_test (rd_op (rd_var rfl (rd_c (rd_ltI (rd_bl ?_)))))))))))
  refine rd_dec (fun e => ?_) (fun e => ?_)
  · exact rd_c (rd_nil ⟨3, rfl, by decide, by decide, go 3 (by decide) (by decide)⟩)
  · exact rd_c (rd_nil ⟨2, rfl, by decide, by decide, go 2 (by decide) (by decide)⟩)
/-- a turn -/
theorem read_l0 (XZ : ExcOkZ K "OtherWidth") (Bg : Bag K G H b [(lw.P, .tbl pt)]) (hc : lw.codes G pt)
    (q : ∀ σ' pt' G' H', Sh s b σ' → Ex G G' → Bag K G' H' b [(lw.P, .tbl pt')] → lw.codes G' pt' → D.nx σ' H') :
    t_law_1b K lw D [some (.ref s), some (.ref b), a2, a3, a4, a5, a6, a7, a8, a9, a10, a11, a12, a13, a14, a15, a16, a17, a18, a19, a20, a21, a22, a23] H := by
  have W := bag_world K b
  unfold t_law_1b
  refine rd_seq (rd_asg (rd_tup (rd_cons (rd_op (rd_c (rd_call (rd_cons (rd_var rfl (rd_cons (rd_c (rd_nil ?_)))))))))))
  refine ⟨b, 3, G, _, rfl, by decide, by decide, Bg, fun d H1 d0 d3 B1 => ?_⟩
  refine rd_addI (rd_cons (rd_call (rd_cons (rd_var rfl (rd_cons (rd_lst (rd_cons (rd_c (rd_cons ?_)))))))))
  refine rd_op (rd_c (rd_c (rd_I0 (rd_cons (rd_op (rd_c (rd_c (rd_I ⟨by decide, by decide, by decide⟩ (rd_nil ?_)))))))))
  refine mk_lst W B1 (by show 3 ≤ _; decide) fun pl G2 e2 B2 h2 => rd_nil ?_
  refine ⟨b, pl, _, G2, _, rfl, B2, fun H' B' => .inl (ex_l B'.ex (sq_of h2)), by show 0 < 3; decide, by show 3 < _; decide, fun y H3 hy B3 => rd_nil ?_⟩
  obtain ⟨low, rfl, hl⟩ : ∃ low : Int, y = .int low ∧ low.natAbs ≤ 10 ^ 17 := by
    rcases List.mem_cons.mp hy with k | k
    · exact ⟨_, k, by decide⟩
    · rcases List.mem_cons.mp k with k | k
      · exact ⟨_, k, by decide⟩
      · exact ⟨_, List.mem_singleton.mp k, by decide⟩
  refine mk_tup W B3 (by show 2 ≤ _; decide) fun pp G4 e4 B4 h4 => ?_
  obtain ⟨w, hw⟩ : ∃ w : Nat, 1 + d = (w : Int) := ⟨(1 + d).toNat, by omega⟩
  rw [hw] at h4
  refine rd_gtup2 (st_of (B4.ex _ _ h4)) ?_
  have x0 := e2.trans e4
  show t_law_1b_1 K lw _ [some (.ref s), some (.ref b), a2, some (.int (w : Nat)), some (.int low), a5, a6, a7, a8, a9, a10, a11, a12, a13, a14, a15, a16, a17, a18, a19, a20, a21, a22, a23] _
  exact read_l1 hl (by omega) (by omega) XZ B4 (hc.ex x0) fun σ' pt' G' H' sh e' B' k' => q σ' pt' G' H' sh (x0.trans e') B' k'
/-- the end: written bounds -/
theorem read_end {D : Ends} (S : Stt G H M) (q : ∀ H', D.rt (.bl true) H') : t_law_2 K lw D σ H := by
  unfold t_law_2
  refine rd_ret (rd_andV (rd_op (rd_mkR (rd_cons (rd_c (rd_cons (rd_tup (rd_cons (rd_c (rd_nil ?_))))))))))
  refine mk_tup stt_world S (by show 1 ≤ _; decide) fun t1 G1 e1 S1 h1 => rd_cons (rd_tup (rd_cons (rd_tup (rd_cons (rd_c (rd_cons (rd_c (rd_nil ?_))))))))
  refine mk_tup stt_world S1 (by show 2 ≤ _; decide) fun t2 G2 e2 S2 h2 => rd_nil ?_
  refine mk_tup stt_world S2 (by show 1 ≤ _; decide) fun t3 G3 e3 S3 h3 => rd_cons (rd_tup (rd_cons (rd_tup (rd_cons (rd_c (rd_cons (rd_c (rd_nil ?_))))))))
  refine mk_tup stt_world S3 (by show 2 ≤ _; decide) fun t4 G4 e4 S4 h4 => rd_nil ?_
  refine mk_tup stt_world S4 (by show 1 ≤ _; decide) fun t5 G5 e5 S5 h5 => rd_nil ?_
  have y3 := e4.trans e5
  have y2 := e3.trans y3
  have y1 := e2.trans y2
  refine mkBd (w := 1) S5 (bs := [[none], [some (none, some 3)], [some (some 4, none)]]) ?_ (by decide) (by decide) (fun z hz => ?_) fun u G6 H6 e6 S6 hu => ?_
  · exact .cons (.tup (ex_t y1 (st_of h1)) (.cons .non .nil)) (.cons (.tup (ex_t y3 (st_of h3)) (.cons (.tup (ex_t y2 (st_of h2)) (.cons .non (.cons (.int 3) .nil))) .nil)) (.cons (.tup (st_of h5) (.cons (.tup (ex_t e5 (st_of h4)) (.cons (.int 4) (.cons .non .nil))) .nil)) .nil))
  · rcases List.mem_cons.mp hz with rfl | hz
    · exact ⟨rfl, fun s hs => by rw [List.mem_singleton.mp hs]; rfl⟩
    rcases (List.mem_cons.mp hz) with rfl | hz
    · exact ⟨rfl, fun s hs => by rw [List.mem_singleton.mp hs]; rfl⟩
    · rw [(List.mem_singleton.mp hz)]
      exact ⟨rfl, fun s hs => by rw [List.mem_singleton.mp hs]; rfl⟩
  refine rd_c ⟨rfl, rd_cons (rd_c (rd_nil ⟨1, G6, M, rfl, by decide, S6, fun u2 dx tb us G7 H7 e7 S7 k1 k2 k3 => ?_⟩))⟩
  have hw : BdAt K G7 u2 1 (whB 1) := ⟨⟨dx, tb, us, k1, k2, k3⟩, fun z hz => ⟨(whB_mem 1 z hz).1, whB_isSt hz⟩⟩
  refine rd_eqBd S7 (hu.ex e7) hw (by decide) (by decide) (by decide) (by decide) fun G8 H8 e8 S8 => ⟨_, rfl, ?_⟩
  rw [show bdEq 1 1 [[none], [some (none, some 3)], [some (some 4, none)]] (whB 1) = true by decide +kernel]
  refine rd_iT (rd_op (rd_mkR (rd_cons (rd_c (rd_cons (rd_tup (rd_cons (rd_tup (rd_cons (rd_c (rd_cons (rd_c (rd_nil ?_)))))))))))))
  refine mk_tup stt_world S8 (by show 2 ≤ _; decide) fun t2 G2 e2 S2 h2 => rd_nil ?_
  refine mk_tup stt_world S2 (by show 1 ≤ _; decide) fun t3 G3 e3 S3 h3 => rd_cons (rd_tup (rd_cons (rd_tup (rd_cons (rd_c (rd_cons (rd_c (rd_nil ?_))))))))
  refine mk_tup stt_world S3 (by show 2 ≤ _; decide) fun t4 G4 e4 S4 h4 => rd_nil ?_
  refine mk_tup stt_world S4 (by show 1 ≤ _; decide) fun t5 G5 e5 S5 h5 => rd_nil ?_
  have y3 := e4.trans e5
  have y2 := e3.trans y3
  refine mkBd (w := 1) S5 (bs := [[some (some 1, some 2)], [some (some 4, some 5)]]) ?_ (by decide) (by decide) (fun z hz => ?_) fun v G6 H6 e6 S6 hv => ?_
  · exact .cons (.tup (ex_t y3 (st_of h3)) (.cons (.tup (ex_t y2 (st_of h2)) (.cons (.int 1) (.cons (.int 2) .nil))) .nil)) (.cons (.tup (st_of h5) (.cons (.tup (ex_t e5 (st_of h4)) (.cons (.int 4) (.cons (.int 5) .nil))) .nil)) .nil)
  · rcases List.mem_cons.mp hz with rfl | hz
    · exact ⟨rfl, fun s hs => by rw [List.mem_singleton.mp hs]; rfl⟩
    · rw [(List.mem_singleton.mp hz)]
      exact ⟨rfl, fun s hs => by rw [List.mem_singleton.mp hs]; rfl⟩
  refine rd_mkR (rd_cons (rd_c (rd_cons (rd_tup (rd_cons (rd_tup (rd_cons (rd_c (rd_cons (rd_c (rd_nil ?_)))))))))))
  refine mk_tup stt_world S6 (by show 2 ≤ _; decide) fun t6 G7 e7 S7 h6 => rd_nil ?_
  refine mk_tup stt_world S7 (by show 1 ≤ _; decide) fun t7 G8 e8 S8 h7 => rd_nil ?_
  refine mkBd (w := 1) S8 (bs := [[some (some 1, some 5)]]) ?_ (by decide) (by decide) (fun z hz => ?_) fun v2 G9 H9 e9 S9 hv2 => ?_
  · exact .cons (.tup (st_of h7) (.cons (.tup (ex_t e8 (st_of h6)) (.cons (.int 1) (.cons (.int 5) .nil))) .nil)) .nil
  · rw [(List.mem_singleton.mp hz)]
    exact ⟨rfl, fun s hs => by rw [List.mem_singleton.mp hs]; rfl⟩
  refine rd_neBd S9 (hv.ex (e7.trans (e8.trans e9))) hv2 (by decide) (by decide) (by decide) (by decide) fun G10 H10 e10 S10 => ?_
  rw [show bdEq 1 1 [[some (some 1, some 2)], [some (some 4, some 5)]] [[some (some 1, some 5)]] = false by decide +kernel]
  exact q H10
end
def sp_law (K : PySem.W.Frag) (lw : LamW) : Sp := fun vs H Q _ => ∃ (a : Addr) (ns : List Int), vs = [.ref a] ∧ SqL K H a (ns.map V.int) ∧ H lw.P = some (.tbl #[]) ∧ ExcOkZ K "OtherWidth" ∧ (∀ H', Q (.bl true) H')
theorem sat_law {K : PySem.W.Frag} [SB : BndK K] [KB : KitB K] {lw : LamW} {vs : List V} {H : Hp} {Q : VK} {E : XK} (h : sp_law K lw vs H Q E) : vs.length = 1 ∧ t_law K lw { nx := fun _ H' => Q .non H', rt := Q } (vs.map some ++ List.replicate (24 - vs.length) none) H := by
  obtain ⟨a, ns, rfl, ha, hP, XZ, q⟩ := h
  refine ⟨rfl, ?_⟩
  unfold t_law
  refine rd_seq (rd_asg (rd_call (rd_cons (rd_var rfl (rd_nil ?_)))))
  refine ⟨a, ns, _, _, rfl, Stt.out1 hP, del_sq hP ha, fun b G1 H1 e1 B1 => rd_name ?_⟩
  have k1 : lw.codes G1 #[] := ⟨True.intro, fun _ _ h => nomatch h⟩
  show t_law_1 K lw _ _ _
  unfold t_law_1
  refine rd_seq (rd_for (rd_rng1 (rd_cons (rd_c (rd_nil ⟨4, rfl, by decide, by decide, ?_⟩)))))
  refine for_go (walk_range (lo := 0) (n := (4 : Int).toNat)) (G := G1)
    (fun i σ1 G4 H4 => ∃ pt, Sh a b σ1 ∧ Ex G1 G4 ∧ Bag K G4 H4 b [(lw.P, .tbl pt)] ∧ lw.codes G4 pt)
    ⟨_, ⟨_, _, _, _, _, _, _, _, _, _, _, _, _, _, _, _, _, _, _, _, _, _, rfl⟩, Ex.refl G1, B1, k1⟩ (fun _ _ _ _ _ _ => True.intro) ?_ ?_
  · rintro i v σ1 G4 H4 H5 hi ⟨pt, ⟨x2, x3, x4, x5, x6, x7, x8, x9, x10, x11, x12, x13, x14, x15, x16, x17, x18, x19, x20, x21, x22, x23, rfl⟩, e4, B4, k4⟩ y N hN
    obtain ⟨rfl, rfl⟩ := y
    refine rd_name ?_
    show t_law_1b K lw _ _ _
    exact read_l0 XZ B4 k4 fun σ' pt' G' H' sh e' B' k' => hN _ G' H' ⟨_, sh, e4.trans e', B', k'⟩
  · rintro σ1 G4 H4 ⟨pt, sh, e4, B4, k4⟩
    obtain ⟨M, S, _⟩ := B4.stt
    exact read_end (lw := lw) S q

end EE
namespace Q31
open PySem PySem.Spec PyProof.Rows L2 Evl RZ EE
def topS (i : Nat) : Stmt := PySem.Challenge.pw_eachentry_k31_whole_bounds_compared.main.body.getD i (.Pass ⟨0, 0, 0, 0⟩)
abbrev s_is_number : Stmt := topS 9
theorem sc_is_number : FnScope ["value"] ["value"] (defScope s_is_number) := ⟨rfl, rfl, rfl, by decide +kernel, rfl, by decide +kernel, by decide +kernel⟩
abbrev s_is_value : Stmt := topS 10
theorem sc_is_value : FnScope ["value"] ["value"] (defScope s_is_value) := ⟨rfl, rfl, rfl, by decide +kernel, rfl, by decide +kernel, by decide +kernel⟩
abbrev s_read_number : Stmt := topS 11
theorem sc_read_number : FnScope ["word", "figures", "figure"] ["word"] (defScope s_read_number) := ⟨rfl, rfl, rfl, by decide +kernel, rfl, by decide +kernel, by decide +kernel⟩
abbrev s_is_stretch : Stmt := topS 13
theorem sc_is_stretch : FnScope ["value", "low", "high"] ["value"] (defScope s_is_stretch) := ⟨rfl, rfl, rfl, by decide +kernel, rfl, by decide +kernel, by decide +kernel⟩
abbrev s_common : Stmt := topS 15
theorem sc_common : FnScope ["one", "other", "lows", "highs", "low", "high"] ["one", "other"] (defScope s_common) := ⟨rfl, rfl, rfl, by decide +kernel, rfl, by decide +kernel, by decide +kernel⟩
abbrev s_side_text : Stmt := topS 16
theorem sc_side_text : FnScope ["value"] ["value"] (defScope s_side_text) := ⟨rfl, rfl, rfl, by decide +kernel, rfl, by decide +kernel, by decide +kernel⟩
abbrev s_stretch_text : Stmt := topS 17
theorem sc_stretch_text : FnScope ["stretch"] ["stretch"] (defScope s_stretch_text) := ⟨rfl, rfl, rfl, by decide +kernel, rfl, by decide +kernel, by decide +kernel⟩
abbrev s_read_side : Stmt := topS 18
theorem sc_read_side : FnScope ["word"] ["word"] (defScope s_read_side) := ⟨rfl, rfl, rfl, by decide +kernel, rfl, by decide +kernel, by decide +kernel⟩
abbrev s_read_stretch : Stmt := topS 19
theorem sc_read_stretch : FnScope ["text", "sides", "found", "word"] ["text"] (defScope s_read_stretch) := ⟨rfl, rfl, rfl, by decide +kernel, rfl, by decide +kernel, by decide +kernel⟩
abbrev s_is_box : Stmt := topS 21
theorem sc_is_box : FnScope ["width", "value", "one"] ["width", "value"] (defScope s_is_box) := ⟨rfl, rfl, rfl, by decide +kernel, rfl, by decide +kernel, by decide +kernel⟩
abbrev s_stretch_minus : Stmt := topS 22
theorem sc_stretch_minus : FnScope ["one", "other", "both", "low", "high", "found"] ["one", "other"] (defScope s_stretch_minus) := ⟨rfl, rfl, rfl, by decide +kernel, rfl, by decide +kernel, by decide +kernel⟩
abbrev s_box_common : Stmt := topS 23
theorem sc_box_common : FnScope ["one", "other", "found", "first", "second"] ["one", "other"] (defScope s_box_common) := ⟨rfl, rfl, rfl, by decide +kernel, rfl, by decide +kernel, by decide +kernel⟩
abbrev s_box_minus : Stmt := topS 24
theorem sc_box_minus : FnScope ["one", "other", "found", "left", "right", "stretch", "here", "part"] ["one", "other"] (defScope s_box_minus) := ⟨rfl, rfl, rfl, by decide +kernel, rfl, by decide +kernel, by decide +kernel⟩
abbrev s_Bound_init : Stmt := inClass (topS 25) 0
theorem sc_Bound_init : FnScope ["self", "width", "boxes", "at", "box"] ["self", "width", "boxes"] (defScope s_Bound_init) := ⟨rfl, rfl, rfl, by decide +kernel, rfl, by decide +kernel, by decide +kernel⟩
abbrev s_Bound_eq : Stmt := inClass (topS 25) 1
theorem sc_Bound_eq : FnScope ["self", "other"] ["self", "other"] (defScope s_Bound_eq) := ⟨rfl, rfl, rfl, by decide +kernel, rfl, by decide +kernel, by decide +kernel⟩
abbrev s_Bound_boxes : Stmt := inClass (topS 25) 8
theorem sc_Bound_boxes : FnScope ["self"] ["self"] (defScope s_Bound_boxes) := ⟨rfl, rfl, rfl, by decide +kernel, rfl, by decide +kernel, by decide +kernel⟩
abbrev s_Bound_within : Stmt := inClass (topS 25) 9
theorem sc_Bound_within : FnScope ["self", "other"] ["self", "other"] (defScope s_Bound_within) := ⟨rfl, rfl, rfl, by decide +kernel, rfl, by decide +kernel, by decide +kernel⟩
abbrev s_Bound_text : Stmt := inClass (topS 25) 10
theorem sc_Bound_text : FnScope ["self", "box", "stretch"] ["self"] (defScope s_Bound_text) := ⟨rfl, rfl, rfl, by decide +kernel, rfl, by decide +kernel, by decide +kernel⟩
abbrev s_Bound_read : Stmt := inClass (topS 25) 11
theorem sc_Bound_read : FnScope ["width", "text"] ["width", "text"] (defScope s_Bound_read) := ⟨rfl, rfl, rfl, by decide +kernel, rfl, by decide +kernel, by decide +kernel⟩
abbrev s_Bound_whole : Stmt := inClass (topS 25) 12
theorem sc_Bound_whole : FnScope ["width", "boxes", "_", "box", "stretch"] ["width"] (defScope s_Bound_whole) := ⟨rfl, rfl, rfl, by decide +kernel, rfl, by decide +kernel, by decide +kernel⟩
abbrev s_need_width : Stmt := topS 26
theorem sc_need_width : FnScope ["width", "other"] ["width", "other"] (defScope s_need_width) := ⟨rfl, rfl, rfl, by decide +kernel, rfl, by decide +kernel, by decide +kernel⟩
abbrev s_covers : Stmt := topS 27
theorem sc_covers : FnScope ["bound", "other", "rest", "box", "one", "part"] ["bound", "other"] (defScope s_covers) := ⟨rfl, rfl, rfl, by decide +kernel, rfl, by decide +kernel, by decide +kernel⟩
abbrev s_read_bound : Stmt := topS 28
theorem sc_read_bound : FnScope ["width", "text", "boxes", "box", "row", "word"] ["width", "text"] (defScope s_read_bound) := ⟨rfl, rfl, rfl, by decide +kernel, rfl, by decide +kernel, by decide +kernel⟩
abbrev s_open : Stmt := topS 30
theorem sc_open : FnScope ["_law_script"] ["_law_script"] (defScope s_open) := ⟨rfl, rfl, rfl, by decide +kernel, rfl, by decide +kernel, by decide +kernel⟩
abbrev s_draw : Stmt := topS 31
theorem sc_draw : FnScope ["_law_bag", "_law_many", "_law_cell", "_law_digit", "_law_seed"] ["_law_bag", "_law_many"] (defScope s_draw) := ⟨rfl, rfl, rfl, by decide +kernel, rfl, by decide +kernel, by decide +kernel⟩
abbrev s_of : Stmt := topS 32
theorem sc_of : FnScope ["_law_bag", "_law_things"] ["_law_bag", "_law_things"] (defScope s_of) := ⟨rfl, rfl, rfl, by decide +kernel, rfl, by decide +kernel, by decide +kernel⟩
abbrev s_like : Stmt := topS 33
theorem sc_like : FnScope ["_law_found", "_law_due", "_law_one", "_law_other_z"] ["_law_found", "_law_due"] (defScope s_like) := ⟨rfl, rfl, rfl, by decide +kernel, rfl, by decide +kernel, by decide +kernel⟩
abbrev s_field : Stmt := topS 34
theorem sc_field : FnScope ["_law_e"] ["_law_e"] (defScope s_field) := ⟨rfl, rfl, rfl, by decide +kernel, rfl, by decide +kernel, by decide +kernel⟩
abbrev s_try : Stmt := topS 35
theorem sc_try : FnScope ["_law_ask", "_law_e"] ["_law_ask"] (defScope s_try) := ⟨rfl, rfl, rfl, by decide +kernel, rfl, by decide +kernel, by decide +kernel⟩
abbrev s_tries : Stmt := topS 36
theorem sc_tries : FnScope ["_law_asks", "_law_ask"] ["_law_asks"] (defScope s_tries) := ⟨rfl, rfl, rfl, by decide +kernel, rfl, by decide +kernel, by decide +kernel⟩
abbrev s_products : Stmt := topS 37
theorem sc_products : FnScope ["_law_lots", "_law_found", "_law_lot", "_law_longer", "_law_told", "_law_one"] ["_law_lots"] (defScope s_products) := ⟨rfl, rfl, rfl, by decide +kernel, rfl, by decide +kernel, by decide +kernel⟩
abbrev s_stretch : Stmt := topS 38
theorem sc_stretch : FnScope ["_law_bag", "_law_numbers", "_law_low", "_law_high"] ["_law_bag", "_law_numbers"] (defScope s_stretch) := ⟨rfl, rfl, rfl, by decide +kernel, rfl, by decide +kernel, by decide +kernel⟩
abbrev s_in : Stmt := topS 39
theorem sc_in : FnScope ["_law_stretch_here", "_law_value"] ["_law_stretch_here", "_law_value"] (defScope s_in) := ⟨rfl, rfl, rfl, by decide +kernel, rfl, by decide +kernel, by decide +kernel⟩
abbrev s_boxes : Stmt := topS 40
theorem sc_boxes : FnScope ["_law_bag", "_law_width", "_law_numbers", "_law_most", "_law_j", "_law_k"] ["_law_bag", "_law_width", "_law_numbers", "_law_most"] (defScope s_boxes) := ⟨rfl, rfl, rfl, by decide +kernel, rfl, by decide +kernel, by decide +kernel⟩
abbrev s_key_in : Stmt := topS 41
theorem sc_key_in : FnScope ["_law_boxes_here", "_law_key", "_law_box", "_law_stretch_here", "_law_value"] ["_law_boxes_here", "_law_key"] (defScope s_key_in) := ⟨rfl, rfl, rfl, by decide +kernel, rfl, by decide +kernel, by decide +kernel⟩
abbrev s_side : Stmt := topS 42
theorem sc_side : FnScope ["_law_value"] ["_law_value"] (defScope s_side) := ⟨rfl, rfl, rfl, by decide +kernel, rfl, by decide +kernel, by decide +kernel⟩
abbrev s_bound_text : Stmt := topS 43
theorem sc_bound_text : FnScope ["_law_boxes_here", "_law_rows", "_law_box", "_law_one"] ["_law_boxes_here"] (defScope s_bound_text) := ⟨rfl, rfl, rfl, by decide +kernel, rfl, by decide +kernel, by decide +kernel⟩
abbrev s_bound : Stmt := topS 44
theorem sc_bound : FnScope ["_law_width", "_law_boxes_here"] ["_law_width", "_law_boxes_here"] (defScope s_bound) := ⟨rfl, rfl, rfl, by decide +kernel, rfl, by decide +kernel, by decide +kernel⟩
abbrev s_sides : Stmt := topS 45
theorem sc_sides : FnScope ["_law_numbers", "_law_found", "_law_number", "_law_one"] ["_law_numbers"] (defScope s_sides) := ⟨rfl, rfl, rfl, by decide +kernel, rfl, by decide +kernel, by decide +kernel⟩
abbrev s_cut_boxes : Stmt := topS 46
theorem sc_cut_boxes : FnScope ["_law_bag", "_law_boxes_here", "_law_numbers", "_law_found", "_law_box", "_law_at", "_law_number", "_law_stretch_here"] ["_law_bag", "_law_boxes_here", "_law_numbers"] (defScope s_cut_boxes) := ⟨rfl, rfl, rfl, by decide +kernel, rfl, by decide +kernel, by decide +kernel⟩
abbrev s_law : Stmt := topS 47
theorem sc_law : FnScope ["_law_script", "_law_bag", "_law_turn", "_law_width", "_law_low", "_law_numbers", "_law_some", "_law_more", "_law_one", "_law_other_z", "_law_keys", "_law_a", "_law_b", "_law_up", "_law_down", "_law_found", "_law_whole", "_law_none", "_law_late", "_law_k", "_law_number", "_law_key", "_law_left", "_law_right"] ["_law_script"] (defScope s_law) := ⟨rfl, rfl, rfl, by decide +kernel, rfl, by decide +kernel, by decide +kernel⟩
section
variable {base : Heap} {P : Program} {w : World} {mg : Str → Option Value} {K : PySem.W.Frag} [SK_Bound : BndK K] [NK_Bound : KitB K]
theorem cal_is_number {f : Addr} {fd : FuncData} (F : Fun K "is_number" "is_number" s_is_number f fd) (g : mg "is_number" = some (.ref f)) (m_isinstance : mg "isinstance" = none) (m_int : mg "int" = none) (m_bool : mg "bool" = none) : C8.Cal P w K mg base 1 "is_number" (sp_is_number K) [] := by
  have G : FnOk P w K mg base CX0 (0 + 1) f fd ["value"] (sp_is_number K) := by
    refine F.ok sc_is_number (fun vs H Q E h => (sat_is_number h).1) (fun cdv A outer s H vs Q E hr h => ?_)
    have nd := sc_is_number.nd
    exact ⟨_, (pss_one (ps_ret (pe_and (pe_callB cg_isi (by rfl) m_isinstance (by decide +kernel) (pa_cons (pv 0) (pa_cons (pe_bltn (v := .ty "int") (u := .type "int") (by rfl) m_int (by decide +kernel) rfl) pa_nil))) (pe_one (pe_not (pe_callB cg_isi (by rfl) m_isinstance (by decide +kernel) (pa_cons (pv 0) (pa_cons (pe_bltn (v := .ty "bool") (u := .type "bool") (by rfl) m_bool (by decide +kernel) rfl) pa_nil)))))))), (sat_is_number h).2⟩
  exact cal_mk F G g fun _ _ _ _ _ _ us hl => match us, hl with | [_], _ => rfl
theorem cal_is_value {f : Addr} {fd : FuncData} (F : Fun K "is_value" "is_value" s_is_value f fd) (g : mg "is_value" = some (.ref f)) (C_is_number : C8.Cal P w K mg base 1 "is_number" (sp_is_number K) []) : C8.Cal P w K mg base 2 "is_value" (sp_is_value K) [] := by
  have G : FnOk P w K mg base CX0 (1 + 1) f fd ["value"] (sp_is_value K) := by
    refine F.ok sc_is_value (fun vs H Q E h => (sat_is_value h).1) (fun cdv A outer s H vs Q E hr h => ?_)
    have nd := sc_is_value.nd
    exact ⟨_, (pss_one (ps_ret (pe_or (pe_cmpR op_isN1 (pv 0) pe_non (nomark _)) (pe_one (C8.pe_c C_is_number hr (by decide) (by rfl) (pa_cons (pv 0) pa_nil)))))), (sat_is_value h).2⟩
  exact cal_mk F G g fun _ _ _ _ _ _ us hl => match us, hl with | [_], _ => rfl
theorem cal_read_number {f : Addr} {fd : FuncData} (F : Fun K "read_number" "read_number" s_read_number f fd) (g : mg "read_number" = some (.ref f)) (m_all : mg "all" = none) (m_int : mg "int" = none) (g_FIGURES : ∃ u, mg "FIGURES" = some u ∧ RelV v_FIGURES u) : C8.Cal P w K mg base 1 "read_number" (sp_read_number K) [] := by
  have G : FnOk P w K mg base CX0 (0 + 1) f fd ["word"] (sp_read_number K) := by
    refine F.ok sc_read_number (fun vs H Q E h => (sat_read_number h).1) (fun cdv A outer s H vs Q E hr h => ?_)
    have nd := sc_read_number.nd
    exact ⟨_, (pss_cons (ps_set (i := 1) nd rfl (.inl rfl) (pe_ifExp (pt_cmpR (og_eq hr.units) (pe_slice og_sl (pv 0) po_none (po_some pe_int)) pe_str (nomark _)) (pe_slice og_sl (pv 0) (po_some pe_int) po_none) (pv 0)))
  (pss_cons (ps_if (PW.pt (pw_or (pt_cmpR (og_eq hr.units) (pv 1) pe_str (nomark _)) (pw_or1 (pt_not (pt_val (pe_callB (cr_all rfl) (by rfl) m_all (by decide +kernel) (pa_cons (pe_lc (own := [("figure", 2)]) (g := (gName 2)) (tt := tYes) rfl nd (pi_str (pv 1)) (blkOk_by (N := ["word", "figures", "figure"]) (sc := defScope s_read_number) (by decide +kernel)) (fun _ _ _ _ _ => (pg_name (i := 2) nd rfl (.inl rfl))) (fun _ _ _ _ _ => pts_nil) (fun _ _ _ _ _ => (pe_cmpR og_in (pv 2) (C8.pe_gc (by rfl) g_FIGURES) (by rfl)))) pa_nil))))))) (pss_one (ps_ret (pe_lst pa_nil))) pss_nil)
  (pss_cons (ps_if (PW.pt (pw_and (pt_cmpR (og_eq hr.units) (pe_ix ix_seq (pv 1) pe_int (fun _ _ => rfl)) pe_str (nomark _)) (pw_and1 (pt_cmpR (og_ne hr.units) (pv 0) pe_str (nomark _))))) (pss_one (ps_ret (pe_lst pa_nil))) pss_nil)
  (pss_one (ps_ret (pe_lst (pa_cons (pe_callTy cg_int (by rfl) m_int (by decide +kernel) (pa_cons (pv 0) pa_nil)) pa_nil))))))), (sat_read_number h).2⟩
  exact cal_mk F G g fun _ _ _ _ _ _ us hl => match us, hl with | [_], _ => rfl
theorem cal_is_stretch {f : Addr} {fd : FuncData} (F : Fun K "is_stretch" "is_stretch" s_is_stretch f fd) (g : mg "is_stretch" = some (.ref f)) (C_is_value : C8.Cal P w K mg base 2 "is_value" (sp_is_value K) []) (m_isinstance : mg "isinstance" = none) (m_tuple : mg "tuple" = none) (m_len : mg "len" = none) (m_bool : mg "bool" = none) : C8.Cal P w K mg base 3 "is_stretch" (sp_is_stretch K) [] := by
  have G : FnOk P w K mg base CX0 (2 + 1) f fd ["value"] (sp_is_stretch K) := by
    refine F.ok sc_is_stretch (fun vs H Q E h => (sat_is_stretch h).1) (fun cdv A outer s H vs Q E hr h => ?_)
    have nd := sc_is_stretch.nd
    exact ⟨_, (pss_cons (ps_if (pt_cmpR op_isN1 (pv 0) pe_non (nomark _)) (pss_one (ps_ret pe_bl)) pss_nil)
  (pss_cons (ps_if (PW.pt (pw_or (pt_not (pt_val (pe_callB cg_isi (by rfl) m_isinstance (by decide +kernel) (pa_cons (pv 0) (pa_cons (pe_bltn (v := .ty "tuple") (u := .type "tuple") (by rfl) m_tuple (by decide +kernel) rfl) pa_nil))))) (pw_or1 (pt_cmpR (og_ne hr.units) (pe_callB cg_len (by rfl) m_len (by decide +kernel) (pa_cons (pv 0) pa_nil)) pe_int (nomark _))))) (pss_one (ps_ret pe_bl)) pss_nil)
  (pss_cons (ps_asg (pv 0) (pg_tup rfl (pgs_cons (pg_name (i := 1) nd rfl (.inl rfl)) (pgs_cons (pg_name (i := 2) nd rfl (.inl rfl)) pgs_nil))))
  (pss_cons (ps_if (PW.pt (pw_or (pt_not (pt_val (C8.pe_c C_is_value hr (by decide) (by rfl) (pa_cons (pv 1) pa_nil)))) (pw_or1 (pt_not (pt_val (C8.pe_c C_is_value hr (by decide) (by rfl) (pa_cons (pv 2) pa_nil))))))) (pss_one (ps_ret pe_bl)) pss_nil)
  (pss_one (ps_ret (pe_or (pe_cmpR op_isN1 (pv 1) pe_non (nomark _)) (pe_or (pe_cmpR op_isN1 (pv 2) pe_non (nomark _)) (pe_one (pe_callTy cg_bool (by rfl) m_bool (by decide +kernel) (pa_cons (pe_cmpR og_le (pv 1) (pv 2) (nomark _)) pa_nil))))))))))), (sat_is_stretch h).2⟩
  exact cal_mk F G g fun _ _ _ _ _ _ us hl => match us, hl with | [_], _ => rfl
theorem cal_common {f : Addr} {fd : FuncData} (F : Fun K "common" "common" s_common f fd) (g : mg "common" = some (.ref f)) (m_min : mg "min" = none) (m_max : mg "max" = none) : C8.Cal P w K mg base 1 "common" (sp_common K) [] := by
  have G : FnOk P w K mg base CX0 (0 + 1) f fd ["one", "other"] (sp_common K) := by
    refine F.ok sc_common (fun vs H Q E h => (sat_common h).1) (fun cdv A outer s H vs Q E hr h => ?_)
    have nd := sc_common.nd
    exact ⟨_, (pss_cons (ps_if (PW.pt (pw_or (pt_cmpR op_isN1 (pv 0) pe_non (nomark _)) (pw_or1 (pt_cmpR op_isN1 (pv 1) pe_non (nomark _))))) (pss_one (ps_ret (pe_ifExp (PW.pt (pw_and (pt_cmpR op_isN1 (pv 0) pe_non (nomark _)) (pw_and1 (pt_cmpR op_isN1 (pv 1) pe_non (nomark _))))) (pe_lst (pa_cons pe_non pa_nil)) (pe_lst pa_nil)))) pss_nil)
  (pss_cons (ps_setLc (i := 2) (own := [("low", 4)]) (g := (gName 4)) (tt := (tTest (tOp rNotN (tVar 4) (tC .non)))) rfl nd rfl rfl (sw_true rfl rfl rfl (by decide +kernel)) (pi_tup (pe_tup (pa_cons (pe_ix ix_seq (pv 0) pe_int (fun _ _ => rfl)) (pa_cons (pe_ix ix_seq (pv 1) pe_int (fun _ _ => rfl)) pa_nil)))) (blkOk_by (N := ["one", "other", "lows", "highs", "low", "high"]) (sc := defScope s_common) (by decide +kernel)) (fun _ _ _ _ _ => (pg_name (i := 4) nd rfl (.inl rfl))) (fun _ _ _ _ _ => (pts_one (pt_cmpR op_notN1 (pv 4) pe_non (nomark _)))) (fun _ _ _ _ _ => (pv 4)))
  (pss_cons (ps_setLc (i := 3) (own := [("high", 5)]) (g := (gName 5)) (tt := (tTest (tOp rNotN (tVar 5) (tC .non)))) rfl nd rfl rfl (sw_true rfl rfl rfl (by decide +kernel)) (pi_tup (pe_tup (pa_cons (pe_ix ix_seq (pv 0) pe_int (fun _ _ => rfl)) (pa_cons (pe_ix ix_seq (pv 1) pe_int (fun _ _ => rfl)) pa_nil)))) (blkOk_by (N := ["one", "other", "lows", "highs", "low", "high"]) (sc := defScope s_common) (by decide +kernel)) (fun _ _ _ _ _ => (pg_name (i := 5) nd rfl (.inl rfl))) (fun _ _ _ _ _ => (pts_one (pt_cmpR op_notN1 (pv 5) pe_non (nomark _)))) (fun _ _ _ _ _ => (pv 5)))
  (pss_cons (ps_par (i := 4) (j := 5) (by rfl) nd rfl rfl (by decide) rfl rfl (pa_cons (pe_bK (ck_max rfl hr.units) (by rfl) m_max (by decide +kernel) (pa_cons (pv 2) pa_nil) (pk_cons pe_non pk_nil)) (pa_cons (pe_bK (ck_min rfl hr.units) (by rfl) m_min (by decide +kernel) (pa_cons (pv 3) pa_nil) (pk_cons pe_non pk_nil)) pa_nil)) (by rfl))
  (pss_cons (ps_if (PW.pt (pw_and (pt_cmpR op_notN1 (pv 4) pe_non (nomark _)) (pw_and (pt_cmpR op_notN1 (pv 5) pe_non (nomark _)) (pw_and1 (pt_cmpR og_gt (pv 4) (pv 5) (nomark _)))))) (pss_one (ps_ret (pe_lst pa_nil))) pss_nil)
  (pss_one (ps_ret (pe_lst (pa_cons (pe_tup (pa_cons (pv 4) (pa_cons (pv 5) pa_nil))) pa_nil))))))))), (sat_common h).2⟩
  exact cal_mk F G g fun _ _ _ _ _ _ us hl => match us, hl with | [_, _], _ => rfl
theorem cal_side_text {f : Addr} {fd : FuncData} (F : Fun K "side_text" "side_text" s_side_text f fd) (g : mg "side_text" = some (.ref f)) (m_str : mg "str" = none) : C8.Cal P w K mg base 1 "side_text" (sp_side_text K) [] := by
  have G : FnOk P w K mg base CX0 (0 + 1) f fd ["value"] (sp_side_text K) := by
    refine F.ok sc_side_text (fun vs H Q E h => (sat_side_text h).1) (fun cdv A outer s H vs Q E hr h => ?_)
    have nd := sc_side_text.nd
    exact ⟨_, (pss_one (ps_ret (pe_ifExp (pt_cmpR op_isN1 (pv 0) pe_non (nomark _)) pe_str (pe_callTy call_str_int (by rfl) m_str (by decide +kernel) (pa_cons (pv 0) pa_nil))))), (sat_side_text h).2⟩
  exact cal_mk F G g fun _ _ _ _ _ _ us hl => match us, hl with | [_], _ => rfl
theorem cal_stretch_text {f : Addr} {fd : FuncData} (F : Fun K "stretch_text" "stretch_text" s_stretch_text f fd) (g : mg "stretch_text" = some (.ref f)) (C_side_text : C8.Cal P w K mg base 1 "side_text" (sp_side_text K) []) : C8.Cal P w K mg base 2 "stretch_text" (sp_stretch_text K) [] := by
  have G : FnOk P w K mg base CX0 (1 + 1) f fd ["stretch"] (sp_stretch_text K) := by
    refine F.ok sc_stretch_text (fun vs H Q E h => (sat_stretch_text h).1) (fun cdv A outer s H vs Q E hr h => ?_)
    have nd := sc_stretch_text.nd
    exact ⟨_, (pss_cons (ps_if (pt_cmpR op_isN1 (pv 0) pe_non (nomark _)) (pss_one (ps_ret pe_str)) pss_nil)
  (pss_one (ps_ret (pe_joined (PJ.cons (pe_fmt (C8.pe_c C_side_text hr (by decide) (by rfl) (pa_cons (pe_ix ix_seq (pv 0) pe_int (fun _ _ => rfl)) pa_nil))) (PJ.cons pe_str (PJ.cons (pe_fmt (C8.pe_c C_side_text hr (by decide) (by rfl) (pa_cons (pe_ix ix_seq (pv 0) pe_int (fun _ _ => rfl)) pa_nil))) PJ.nil))))))), (sat_stretch_text h).2⟩
  exact cal_mk F G g fun _ _ _ _ _ _ us hl => match us, hl with | [_], _ => rfl
theorem cal_read_side {f : Addr} {fd : FuncData} (F : Fun K "read_side" "read_side" s_read_side f fd) (g : mg "read_side" = some (.ref f)) (C_read_number : C8.Cal P w K mg base 1 "read_number" (sp_read_number K) []) : C8.Cal P w K mg base 2 "read_side" (sp_read_side K) [] := by
  have G : FnOk P w K mg base CX0 (1 + 1) f fd ["word"] (sp_read_side K) := by
    refine F.ok sc_read_side (fun vs H Q E h => (sat_read_side h).1) (fun cdv A outer s H vs Q E hr h => ?_)
    have nd := sc_read_side.nd
    exact ⟨_, (pss_one (ps_ret (pe_ifExp (pt_cmpR (og_eq hr.units) (pv 0) pe_str (nomark _)) (pe_lst (pa_cons pe_non pa_nil)) (C8.pe_c C_read_number hr (by decide) (by rfl) (pa_cons (pv 0) pa_nil))))), (sat_read_side h).2⟩
  exact cal_mk F G g fun _ _ _ _ _ _ us hl => match us, hl with | [_], _ => rfl
theorem cal_read_stretch {f : Addr} {fd : FuncData} (F : Fun K "read_stretch" "read_stretch" s_read_stretch f fd) (g : mg "read_stretch" = some (.ref f)) (C_read_side : C8.Cal P w K mg base 2 "read_side" (sp_read_side K) []) (C_is_stretch : C8.Cal P w K mg base 3 "is_stretch" (sp_is_stretch K) []) (m_isinstance : mg "isinstance" = none) (m_str : mg "str" = none) (m_len : mg "len" = none) (X_InvalidText : ExcN P K mg "InvalidText" "given" (cls_at K "InvalidText")) : CalX P w K mg base 4 "read_stretch" (sp_read_stretch K) := by
  have G : FnOk P w K mg base (L2.CX P w) (3 + 1) f fd ["text"] (sp_read_stretch K) := by
    refine F.okX sc_read_stretch (fun vs H Q E h => (sat_read_stretch h).1) (fun cdv A outer s H vs Q E hr h => ?_)
    have nd := sc_read_stretch.nd
    exact ⟨_, (pss_cons (ps_if (pt_not (pt_val (pe_callB cg_isi (by rfl) m_isinstance (by decide +kernel) (pa_cons (pv 0) (pa_cons (pe_bltn (v := .ty "str") (u := .type "str") (by rfl) m_str (by decide +kernel) rfl) pa_nil))))) (pss_one (ps_raiseX rfl X_InvalidText hr (by decide) (takes_of rfl rfl rfl rfl) (pv 0) (by rfl) (by decide))) pss_nil)
  (pss_cons (ps_if (pt_cmpR (og_eq hr.units) (pv 0) pe_str (nomark _)) (pss_one (ps_ret pe_non)) pss_nil)
  (pss_cons (ps_setLc (i := 1) (own := [("word", 3)]) (g := (gName 3)) (tt := tYes) rfl nd rfl rfl (sw_true rfl rfl rfl (by decide +kernel)) (pi_list (pe_bm PySem.F.plainAttrs_str PySem.F.slot_str_split PySem.F.type_str_split mt_split (pv 0) (pa_cons pe_str pa_nil))) (blkOk_by (N := ["text", "sides", "found", "word"]) (sc := defScope s_read_stretch) (by decide +kernel)) (fun _ _ _ _ _ => (pg_name (i := 3) nd rfl (.inl rfl))) (fun _ _ _ _ _ => pts_nil) (fun _ _ _ _ _ => (C8.pe_c C_read_side hr (by decide) (by rfl) (pa_cons (pv 3) pa_nil))))
  (pss_cons (ps_if (PW.pt (pw_or (pt_cmpR (og_ne hr.units) (pe_callB cg_len (by rfl) m_len (by decide +kernel) (pa_cons (pv 1) pa_nil)) pe_int (nomark _)) (pw_or1 (pt_cmpR (op_inD (inD_units hr)) (pe_lst pa_nil) (pv 1) (by rfl))))) (pss_one (ps_raiseX rfl X_InvalidText hr (by decide) (takes_of rfl rfl rfl rfl) (pv 0) (by rfl) (by decide))) pss_nil)
  (pss_cons (ps_set (i := 2) nd rfl (.inl rfl) (pe_tup (pa_cons (pe_ix ix_seq (pe_ix ix_seq (pv 1) pe_int (fun _ _ => rfl)) pe_int (fun _ _ => rfl)) (pa_cons (pe_ix ix_seq (pe_ix ix_seq (pv 1) pe_int (fun _ _ => rfl)) pe_int (fun _ _ => rfl)) pa_nil))))
  (pss_cons (ps_if (pt_not (pt_val (C8.pe_c C_is_stretch hr (by decide) (by rfl) (pa_cons (pv 2) pa_nil)))) (pss_one (ps_raiseX rfl X_InvalidText hr (by decide) (takes_of rfl rfl rfl rfl) (pv 0) (by rfl) (by decide))) pss_nil)
  (pss_one (ps_ret (pv 2))))))))), (sat_read_stretch h).2⟩
  exact calX_mk F G g fun _ _ _ _ _ _ us hl => match us, hl with | [_], _ => rfl
theorem cal_is_box {f : Addr} {fd : FuncData} (F : Fun K "is_box" "is_box" s_is_box f fd) (g : mg "is_box" = some (.ref f)) (C_is_stretch : C8.Cal P w K mg base 3 "is_stretch" (sp_is_stretch K) []) (m_isinstance : mg "isinstance" = none) (m_tuple : mg "tuple" = none) (m_len : mg "len" = none) (m_all : mg "all" = none) : C8.Cal P w K mg base 4 "is_box" (sp_is_box K) [] := by
  have G : FnOk P w K mg base CX0 (3 + 1) f fd ["width", "value"] (sp_is_box K) := by
    refine F.ok sc_is_box (fun vs H Q E h => (sat_is_box h).1) (fun cdv A outer s H vs Q E hr h => ?_)
    have nd := sc_is_box.nd
    exact ⟨_, (pss_one (ps_ret (pe_and (pe_callB cg_isi (by rfl) m_isinstance (by decide +kernel) (pa_cons (pv 1) (pa_cons (pe_bltn (v := .ty "tuple") (u := .type "tuple") (by rfl) m_tuple (by decide +kernel) rfl) pa_nil))) (pe_and (pe_cmpR (og_eq hr.units) (pe_callB cg_len (by rfl) m_len (by decide +kernel) (pa_cons (pv 1) pa_nil)) (pv 0) (nomark _)) (pe_one (pe_callB (cr_all rfl) (by rfl) m_all (by decide +kernel) (pa_cons (pe_lc (own := [("one", 2)]) (g := (gName 2)) (tt := tYes) rfl nd (pi_tup (pv 1)) (blkOk_by (N := ["width", "value", "one"]) (sc := defScope s_is_box) (by decide +kernel)) (fun _ _ _ _ _ => (pg_name (i := 2) nd rfl (.inl rfl))) (fun _ _ _ _ _ => pts_nil) (fun _ _ _ _ _ => (C8.pe_c C_is_stretch hr (by decide) (by rfl) (pa_cons (pv 2) pa_nil)))) pa_nil))))))), (sat_is_box h).2⟩
  exact cal_mk F G g fun _ _ _ _ _ _ us hl => match us, hl with | [_, _], _ => rfl
theorem cal_stretch_minus {f : Addr} {fd : FuncData} (F : Fun K "stretch_minus" "stretch_minus" s_stretch_minus f fd) (g : mg "stretch_minus" = some (.ref f)) (C_common : C8.Cal P w K mg base 1 "common" (sp_common K) []) : C8.Cal P w K mg base 2 "stretch_minus" (sp_stretch_minus K) [] := by
  have G : FnOk P w K mg base CX0 (1 + 1) f fd ["one", "other"] (sp_stretch_minus K) := by
    refine F.ok sc_stretch_minus (fun vs H Q E h => (sat_stretch_minus h).1) (fun cdv A outer s H vs Q E hr h => ?_)
    have nd := sc_stretch_minus.nd
    exact ⟨_, (pss_cons (ps_set (i := 2) nd rfl (.inl rfl) (C8.pe_c C_common hr (by decide) (by rfl) (pa_cons (pv 0) (pa_cons (pv 1) pa_nil))))
  (pss_cons (ps_if (pt_cmpR (og_eq hr.units) (pv 2) (pe_lst pa_nil) (nomark _)) (pss_one (ps_ret (pe_lst (pa_cons (pv 0) pa_nil)))) pss_nil)
  (pss_cons (ps_if (pt_cmpR op_isN1 (pv 0) pe_non (nomark _)) (pss_one (ps_ret (pe_lst pa_nil))) pss_nil)
  (pss_cons (ps_asg (pe_ix ix_seq (pv 2) pe_int (fun _ _ => rfl)) (pg_tup rfl (pgs_cons (pg_name (i := 3) nd rfl (.inl rfl)) (pgs_cons (pg_name (i := 4) nd rfl (.inl rfl)) pgs_nil))))
  (pss_cons (ps_set (i := 5) nd rfl (.inl rfl) (pe_lst pa_nil))
  (pss_cons (ps_if (PW.pt (pw_and (pt_cmpR op_notN1 (pv 3) pe_non (nomark _)) (pw_and1 (PW.pt (pw_or (pt_cmpR op_isN1 (pe_ix ix_seq (pv 0) pe_int (fun _ _ => rfl)) pe_non (nomark _)) (pw_or1 (pt_cmpR (og_lt hr.units) (pe_ix ix_seq (pv 0) pe_int (fun _ _ => rfl)) (pv 3) (nomark _)))))))) (pss_one (ps_set (i := 5) nd rfl (.inl rfl) (pe_lst (pa_cons (pe_tup (pa_cons (pe_ix ix_seq (pv 0) pe_int (fun _ _ => rfl)) (pa_cons (pe_op og_sub (pv 3) pe_int) pa_nil))) pa_nil)))) pss_nil)
  (pss_cons (ps_if (PW.pt (pw_and (pt_cmpR op_notN1 (pv 4) pe_non (nomark _)) (pw_and1 (PW.pt (pw_or (pt_cmpR op_isN1 (pe_ix ix_seq (pv 0) pe_int (fun _ _ => rfl)) pe_non (nomark _)) (pw_or1 (pt_cmpR (og_lt hr.units) (pv 4) (pe_ix ix_seq (pv 0) pe_int (fun _ _ => rfl)) (nomark _)))))))) (pss_one (ps_set (i := 5) nd rfl (.inl rfl) (pe_op og_add (pv 5) (pe_lst (pa_cons (pe_tup (pa_cons (pe_op og_add (pv 4) pe_int) (pa_cons (pe_ix ix_seq (pv 0) pe_int (fun _ _ => rfl)) pa_nil))) pa_nil))))) pss_nil)
  (pss_one (ps_ret (pv 5)))))))))), (sat_stretch_minus h).2⟩
  exact cal_mk F G g fun _ _ _ _ _ _ us hl => match us, hl with | [_, _], _ => rfl
theorem cal_box_common {f : Addr} {fd : FuncData} (F : Fun K "box_common" "box_common" s_box_common f fd) (g : mg "box_common" = some (.ref f)) (C_common : C8.Cal P w K mg base 1 "common" (sp_common K) []) (m_zip : mg "zip" = none) (m_len : mg "len" = none) (m_tuple : mg "tuple" = none) : C8.Cal P w K mg base 2 "box_common" (sp_box_common K) [] := by
  have G : FnOk P w K mg base CX0 (1 + 1) f fd ["one", "other"] (sp_box_common K) := by
    refine F.ok sc_box_common (fun vs H Q E h => (sat_box_common h).1) (fun cdv A outer s H vs Q E hr h => ?_)
    have nd := sc_box_common.nd
    exact ⟨_, (pss_cons (ps_set (i := 2) nd rfl (.inl rfl) (pe_lst pa_nil))
  (pss_cons (ps_for PassesOwn.never rfl (pi_zipA (by rfl) m_zip (pa_cons (pv 0) (pa_cons (pv 1) pa_nil))) (pg_tup rfl (pgs_cons (pg_name (i := 3) nd rfl (.inl rfl)) (pgs_cons (pg_name (i := 4) nd rfl (.inl rfl)) pgs_nil))) (pss_one (ps_set (i := 2) nd rfl (.inl rfl) (pe_op og_add (pv 2) (C8.pe_c C_common hr (by decide) (by rfl) (pa_cons (pv 3) (pa_cons (pv 4) pa_nil)))))))
  (pss_one (ps_ret (pe_ifExp (pt_cmpR (og_eq hr.units) (pe_callB cg_len (by rfl) m_len (by decide +kernel) (pa_cons (pv 2) pa_nil)) (pe_callB cg_len (by rfl) m_len (by decide +kernel) (pa_cons (pv 0) pa_nil)) (nomark _)) (pe_lst (pa_cons (pe_callTy cg_tuple (by rfl) m_tuple (by decide +kernel) (pa_cons (pv 2) pa_nil)) pa_nil)) (pe_lst pa_nil)))))), (sat_box_common h).2⟩
  exact cal_mk F G g fun _ _ _ _ _ _ us hl => match us, hl with | [_, _], _ => rfl
theorem cal_box_minus {f : Addr} {fd : FuncData} (F : Fun K "box_minus" "box_minus" s_box_minus f fd) (g : mg "box_minus" = some (.ref f)) (C_box_common : C8.Cal P w K mg base 2 "box_common" (sp_box_common K) []) (C_stretch_minus : C8.Cal P w K mg base 2 "stretch_minus" (sp_stretch_minus K) []) (C_common : C8.Cal P w K mg base 1 "common" (sp_common K) []) : C8.Cal P w K mg base 3 "box_minus" (sp_box_minus K) [] := by
  have G : FnOk P w K mg base CX0 (2 + 1) f fd ["one", "other"] (sp_box_minus K) := by
    refine F.ok sc_box_minus (fun vs H Q E h => (sat_box_minus h).1) (fun cdv A outer s H vs Q E hr h => ?_)
    have nd := sc_box_minus.nd
    exact ⟨_, (pss_cons (ps_if (pt_cmpR (og_eq hr.units) (C8.pe_c C_box_common hr (by decide) (by rfl) (pa_cons (pv 0) (pa_cons (pv 1) pa_nil))) (pe_lst pa_nil) (nomark _)) (pss_one (ps_ret (pe_lst (pa_cons (pv 0) pa_nil)))) pss_nil)
  (pss_cons (ps_asg (pe_tup (pa_cons (pe_lst pa_nil) (pa_cons (pe_tup pa_nil) (pa_cons (pv 0) pa_nil)))) (pg_tup rfl (pgs_cons (pg_name (i := 2) nd rfl (.inl rfl)) (pgs_cons (pg_name (i := 3) nd rfl (.inr rfl)) (pgs_cons (pg_name (i := 4) nd rfl (.inr rfl)) pgs_nil)))))
  (pss_cons (ps_for PassesOwn.never rfl (pi_tup (pv 1)) (pg_name (i := 5) nd rfl (.inl rfl)) (pss_cons (ps_asg (pe_tup (pa_cons (pe_ix ix_seq (pv 4) pe_int (fun _ _ => rfl)) (pa_cons (pe_slice sl_tupA (pv 4) (po_some pe_int) po_none) pa_nil))) (pg_tup rfl (pgs_cons (pg_name (i := 6) nd rfl (.inl rfl)) (pgs_cons (pg_name (i := 4) nd rfl (.inr rfl)) pgs_nil))))
  (pss_cons (ps_set (i := 2) nd rfl (.inl rfl) (pe_op og_add (pv 2) (pe_lc (own := [("part", 7)]) (g := (gName 7)) (tt := tYes) rfl nd (pi_list (C8.pe_c C_stretch_minus hr (by decide) (by rfl) (pa_cons (pv 6) (pa_cons (pv 5) pa_nil)))) (blkOk_by (N := ["one", "other", "found", "left", "right", "stretch", "here", "part"]) (sc := defScope s_box_minus) (by decide +kernel)) (fun _ _ _ _ _ => (pg_name (i := 7) nd rfl (.inl rfl))) (fun _ _ _ _ _ => pts_nil) (fun _ _ _ _ _ => (pe_op og_add (pe_op og_add (pv 3) (pe_tup (pa_cons (pv 7) pa_nil))) (pv 4))))))
  (pss_one (ps_set (i := 3) nd rfl (.inr rfl) (pe_op og_add (pv 3) (pe_tup (pa_cons (pe_ix ix_seq (C8.pe_c C_common hr (by decide) (by rfl) (pa_cons (pv 6) (pa_cons (pv 5) pa_nil))) pe_int (fun _ _ => rfl)) pa_nil))))))))
  (pss_one (ps_ret (pv 2)))))), (sat_box_minus h).2⟩
  exact cal_mk F G g fun _ _ _ _ _ _ us hl => match us, hl with | [_, _], _ => rfl
theorem mak_Bound_init {f : Addr} {fd : FuncData} (F : Fun K "__init__" "Bound.__init__" s_Bound_init f fd) (g : Mk K (cls_at K "Bound") f ∧ mg "Bound" = some (.ref (cls_at K "Bound"))) (C_is_box : C8.Cal P w K mg base 4 "is_box" (sp_is_box K) []) (m_enumerate : mg "enumerate" = none) (m_tuple : mg "tuple" = none) (X_InvalidBox : ExcN P K mg "InvalidBox" "at" (cls_at K "InvalidBox")) : MakRX P w K mg base 5 "Bound" (cls_at K "Bound") (sp_Bound_init K) := by
  have nd := sc_Bound_init.nd
  obtain ⟨oc, od, kV, doc, pm, an, cdv, ct, osl, rfl, lk, hcode⟩ := F.ex
  have G : FnR P w K mg base (L2.CX P w) (4 + 1) f (sp_Bound_init K) := by
    refine FnR.imp (StX.fn_star (ps := ["self", "width"]) (pv := "boxes") (sp := fun vs H Q E => vs.length = 3 ∧ t_Bound_init K E { nx := fun _ H' => Q .non H', rt := Q } (vs.map some ++ List.replicate (5 - vs.length) none) H) lk hcode sc_Bound_init StX.cxUp ?_ fun A outer s H vs Q E hr h => ?_) fun vs H Q E h => sat_Bound_init h
    · exact StX.bind_star2 (B := fun l => bindArgs (PySem.W.fnOf "__init__" "Bound.__init__" (defArgs s_Bound_init) (defBody s_Bound_init) (defScope s_Bound_init) .none kV doc pm an cdv ct) ⟨l, []⟩) (by intros; rfl) (by intros; rfl)
    · obtain ⟨hl, h⟩ := h
      have hr := hr
      refine ⟨_, (pss_cons (ps_for (passes_of rfl) rfl (pi_enumT (by rfl) m_enumerate (pa_cons (pv 2) pa_nil)) (pg_tup rfl (pgs_cons (pg_name (i := 3) nd rfl (.inl rfl)) (pgs_cons (pg_name (i := 4) nd rfl (.inl rfl)) pgs_nil))) (pss_one (ps_if (pt_not (pt_val (C8.pe_c C_is_box hr (by decide) (by rfl) (pa_cons (pv 1) (pa_cons (pv 4) pa_nil))))) (pss_one (ps_raiseX rfl X_InvalidBox hr (by decide) (takes_of rfl rfl rfl rfl) (pv 3) (by rfl) (by decide))) pss_nil)))
  (pss_cons (ps_fld (pv 0) (pv 1) rfl)
  (pss_one (ps_fld (pv 0) (pe_callTy cg_tuple (by rfl) m_tuple (by decide +kernel) (pa_cons (pv 2) pa_nil)) rfl)))), ?_⟩
      exact h
  exact ⟨f, g.1, G, g.2⟩
theorem met_Bound_eq {f : Addr} {fd : FuncData} (F : Fun K "__eq__" "Bound.__eq__" s_Bound_eq f fd) (g : Cls K (cls_at K "Bound") ∧ Meth K (cls_at K "Bound") "__eq__" f) (C_covers : C8.Cal P w K mg base 4 "covers" (sp_covers K) []) (m_isinstance : mg "isinstance" = none) (g_Bound : ∃ u, mg "Bound" = some u ∧ RelV (.ref (cls_at K "Bound")) u) : C8.Met P w K mg base 5 (cls_at K "Bound") "__eq__" (sp_Bound_eq K) [] := by
  have G : FnOk P w K mg base CX0 (4 + 1) f fd ["self", "other"] (sp_Bound_eq K) := by
    refine F.ok sc_Bound_eq (fun vs H Q E h => (sat_Bound_eq h).1) (fun cdv A outer s H vs Q E hr h => ?_)
    have nd := sc_Bound_eq.nd
    exact ⟨_, (pss_cons (ps_if (PW.pt (pw_or (pt_not (pt_val (pe_callB cg_isi (by rfl) m_isinstance (by decide +kernel) (pa_cons (pv 1) (pa_cons (C8.pe_gc (by rfl) g_Bound) pa_nil))))) (pw_or1 (pt_cmpR (og_ne hr.units) (pe_fld (pv 0) rfl) (pe_fld (pv 1) rfl) (nomark _))))) (pss_one (ps_ret pe_bl)) pss_nil)
  (pss_one (ps_ret (pe_and (C8.pe_c C_covers hr (by decide) (by rfl) (pa_cons (pv 1) (pa_cons (pv 0) pa_nil))) (pe_one (C8.pe_c C_covers hr (by decide) (by rfl) (pa_cons (pv 0) (pa_cons (pv 1) pa_nil)))))))), (sat_Bound_eq h).2⟩
  exact ⟨f, fd, _, [], g.1, g.2, G, F.binds (fun _ _ _ _ _ _ us hl => match us, hl with | [_, _], _ => rfl), .nil⟩
theorem met_Bound_boxes {f : Addr} {fd : FuncData} (F : Fun K "boxes" "Bound.boxes" s_Bound_boxes f fd) (g : Cls K (cls_at K "Bound") ∧ Meth K (cls_at K "Bound") "boxes" f) (m_list : mg "list" = none) : C8.Met P w K mg base 1 (cls_at K "Bound") "boxes" (sp_Bound_boxes K) [] := by
  have G : FnOk P w K mg base CX0 (0 + 1) f fd ["self"] (sp_Bound_boxes K) := by
    refine F.ok sc_Bound_boxes (fun vs H Q E h => (sat_Bound_boxes h).1) (fun cdv A outer s H vs Q E hr h => ?_)
    have nd := sc_Bound_boxes.nd
    exact ⟨_, (pss_one (ps_ret (pe_callTy cg_list (by rfl) m_list (by decide +kernel) (pa_cons (pe_fld (pv 0) rfl) pa_nil)))), (sat_Bound_boxes h).2⟩
  exact ⟨f, fd, _, [], g.1, g.2, G, F.binds (fun _ _ _ _ _ _ us hl => match us, hl with | [_], _ => rfl), .nil⟩
theorem met_Bound_within {f : Addr} {fd : FuncData} (F : Fun K "within" "Bound.within" s_Bound_within f fd) (g : Cls K (cls_at K "Bound") ∧ Meth K (cls_at K "Bound") "within" f) (C_need_width : CalX P w K mg base 2 "need_width" (sp_need_width K)) (C_covers : C8.Cal P w K mg base 4 "covers" (sp_covers K) []) : MetX P w K mg base 5 (cls_at K "Bound") "within" (sp_Bound_within K) := by
  have G : FnOk P w K mg base (L2.CX P w) (4 + 1) f fd ["self", "other"] (sp_Bound_within K) := by
    refine F.okX sc_Bound_within (fun vs H Q E h => (sat_Bound_within h).1) (fun cdv A outer s H vs Q E hr h => ?_)
    have nd := sc_Bound_within.nd
    exact ⟨_, (pss_cons (ps_expr (pe_cX C_need_width hr (by decide) (by rfl) (passes_call (takes_of rfl rfl rfl rfl) (fun _ _ _ _ h => h)) (pa_cons (pe_fld (pv 0) rfl) (pa_cons (pe_fld (pv 1) rfl) pa_nil))))
  (pss_one (ps_ret (C8.pe_c C_covers hr (by decide) (by rfl) (pa_cons (pv 1) (pa_cons (pv 0) pa_nil)))))), (sat_Bound_within h).2⟩
  exact ⟨f, fd, _, g.1, g.2, G, F.binds (fun _ _ _ _ _ _ us hl => match us, hl with | [_, _], _ => rfl)⟩
theorem met_Bound_text {f : Addr} {fd : FuncData} (F : Fun K "text" "Bound.text" s_Bound_text f fd) (g : Cls K (cls_at K "Bound") ∧ Meth K (cls_at K "Bound") "text" f) (C_stretch_text : C8.Cal P w K mg base 2 "stretch_text" (sp_stretch_text K) []) (m_len : mg "len" = none) : C8.Met P w K mg base 3 (cls_at K "Bound") "text" (sp_Bound_text K) [] := by
  have G : FnOk P w K mg base CX0 (2 + 1) f fd ["self"] (sp_Bound_text K) := by
    refine F.ok sc_Bound_text (fun vs H Q E h => (sat_Bound_text h).1) (fun cdv A outer s H vs Q E hr h => ?_)
    have nd := sc_Bound_text.nd
    exact ⟨_, (pss_cons (ps_if (pt_cmpR (og_eq hr.units) (pe_callB cg_len (by rfl) m_len (by decide +kernel) (pa_cons (pe_fld (pv 0) rfl) pa_nil)) pe_int (nomark _)) (pss_one (ps_ret pe_str)) pss_nil)
  (pss_one (ps_ret (pe_joinS (pe_lc (own := [("box", 1)]) (g := (gName 1)) (tt := tYes) rfl nd (pi_tup (pe_fld (pv 0) rfl)) (blkOk_by (N := ["self", "box", "stretch"]) (sc := defScope s_Bound_text) (by decide +kernel)) (fun _ _ _ _ _ => (pg_name (i := 1) nd rfl (.inl rfl))) (fun _ _ _ _ _ => pts_nil) (fun _ _ _ _ _ => (pe_joinS (pe_lc (own := [("stretch", 2)]) (g := (gName 2)) (tt := tYes) rfl nd (pi_tup (pv 1)) (blkOk_by (N := ["self", "box", "stretch"]) (sc := relS _ (defScope s_Bound_text)) (by decide +kernel)) (fun _ _ _ _ _ => (pg_name (i := 2) nd rfl (.inl rfl))) (fun _ _ _ _ _ => pts_nil) (fun _ _ _ _ _ => (C8.pe_c C_stretch_text hr (by decide) (by rfl) (pa_cons (pv 2) pa_nil))))))))))), (sat_Bound_text h).2⟩
  exact ⟨f, fd, _, [], g.1, g.2, G, F.binds (fun _ _ _ _ _ _ us hl => match us, hl with | [_], _ => rfl), .nil⟩
theorem sta_Bound_read {f : Addr} {fd : FuncData} (F : Fun K "read" "Bound.read" s_Bound_read f fd) {p : Addr} {rest : List Value} (g : ClX.CRead K (cls_at K "Bound") (.type "type") ∧ PySem.W.findCls K (.ref (cls_at K "Bound")) (.type "type") "read" = some (.get (.builtin "staticmethod.__get__") (.ref p) .none (.ref (cls_at K "Bound"))) ∧ PySem.W.recIn K p "staticmethod" = some (.ref f :: rest)) (C_read_bound : C8.Cal P w K mg base 7 "read_bound" (sp_read_bound K) []) : Sta P w K mg base 8 (cls_at K "Bound") "read" (sp_Bound_read K) := by
  have G : FnOk P w K mg base CX0 (7 + 1) f fd ["width", "text"] (sp_Bound_read K) := by
    refine F.ok sc_Bound_read (fun vs H Q E h => (sat_Bound_read h).1) (fun cdv A outer s H vs Q E hr h => ?_)
    have nd := sc_Bound_read.nd
    exact ⟨_, (pss_one (ps_ret (C8.pe_c C_read_bound hr (by decide) (by rfl) (pa_cons (pv 0) (pa_cons (pv 1) pa_nil))))), (sat_Bound_read h).2⟩
  exact ⟨_, p, f, g.1, g.2.1, ⟨rest, g.2.2⟩, F.kp, (FnR.imp (G.raw (F.binds (fun _ _ _ _ _ _ us hl => match us, hl with | [_, _], _ => rfl)) .nil) fun vs H Q E h => by rw [List.append_nil]; exact h)⟩
theorem sta_Bound_whole {f : Addr} {fd : FuncData} (F : Fun K "whole" "Bound.whole" s_Bound_whole f fd) {p : Addr} {rest : List Value} (g : ClX.CRead K (cls_at K "Bound") (.type "type") ∧ PySem.W.findCls K (.ref (cls_at K "Bound")) (.type "type") "whole" = some (.get (.builtin "staticmethod.__get__") (.ref p) .none (.ref (cls_at K "Bound"))) ∧ PySem.W.recIn K p "staticmethod" = some (.ref f :: rest)) (N_Bound : MakRX P w K mg base 5 "Bound" (cls_at K "Bound") (sp_Bound_init K)) (m_range : mg "range" = none) : Sta P w K mg base 7 (cls_at K "Bound") "whole" (sp_Bound_whole K) := by
  have G : FnOk P w K mg base CX0 (6 + 1) f fd ["width"] (sp_Bound_whole K) := by
    refine F.ok sc_Bound_whole (fun vs H Q E h => (sat_Bound_whole h).1) (fun cdv A outer s H vs Q E hr h => ?_)
    have nd := sc_Bound_whole.nd
    exact ⟨_, (pss_cons (ps_set (i := 1) nd rfl (.inl rfl) (pe_lst (pa_cons (pe_tup pa_nil) pa_nil)))
  (pss_cons (ps_for PassesOwn.never rfl (pi_range1 (by rfl) m_range (pa_cons (pv 0) pa_nil)) (pg_name (i := 2) nd rfl (.inl rfl)) (pss_one (ps_setLc2 (i := 1) (own := [("box", 3), ("stretch", 4)]) (vs1 := [4]) (g := (gName 3)) (tt := tYes) (g1 := (gName 4)) (tt1 := tYes) rfl nd rfl rfl (sw_true rfl rfl rfl (by decide +kernel)) (pi_list (pv 1)) (blkOk_by (N := ["width", "boxes", "_", "box", "stretch"]) (sc := defScope s_Bound_whole) (by decide +kernel)) (by decide) (fun _ _ _ _ _ => (pg_name (i := 3) nd rfl (.inl rfl))) (fun _ _ _ _ _ => pts_nil) (fun _ _ _ _ _ => (pi_tup (pe_tup (pa_cons pe_non (pa_cons (pe_tup (pa_cons pe_non (pa_cons pe_non pa_nil))) pa_nil))))) (fun _ _ _ _ _ => (pg_name (i := 4) nd rfl (.inl rfl))) (fun _ _ _ _ _ => pts_nil) (fun _ _ _ _ _ => (pe_op og_add (pv 3) (pe_tup (pa_cons (pv 4) pa_nil)))))))
  (pss_one (ps_ret (pe_mkSX N_Bound hr (by decide) (by rfl) passL (pa_cons (pv 0) (StX.pa_star (pv 1) pa_nil))))))), (sat_Bound_whole h).2⟩
  exact ⟨_, p, f, g.1, g.2.1, ⟨rest, g.2.2⟩, F.kp, (FnR.imp (G.raw (F.binds (fun _ _ _ _ _ _ us hl => match us, hl with | [_], _ => rfl)) .nil) fun vs H Q E h => by rw [List.append_nil]; exact h)⟩
theorem cal_need_width {f : Addr} {fd : FuncData} (F : Fun K "need_width" "need_width" s_need_width f fd) (g : mg "need_width" = some (.ref f)) (Z_OtherWidth : ExcZ P K mg "OtherWidth" (cls_at K "OtherWidth")) : CalX P w K mg base 2 "need_width" (sp_need_width K) := by
  have G : FnOk P w K mg base (L2.CX P w) (1 + 1) f fd ["width", "other"] (sp_need_width K) := by
    refine F.okX sc_need_width (fun vs H Q E h => (sat_need_width h).1) (fun cdv A outer s H vs Q E hr h => ?_)
    have nd := sc_need_width.nd
    exact ⟨_, (pss_one (ps_if (pt_cmpR (og_ne hr.units) (pv 0) (pv 1) (nomark _)) (pss_one (ps_raiseZ rfl Z_OtherWidth hr (by decide) (takes_of rfl rfl rfl rfl) (by rfl) (by decide))) pss_nil)), (sat_need_width h).2⟩
  exact calX_mk F G g fun _ _ _ _ _ _ us hl => match us, hl with | [_, _], _ => rfl
theorem cal_covers {f : Addr} {fd : FuncData} (F : Fun K "covers" "covers" s_covers f fd) (g : mg "covers" = some (.ref f)) (C_box_minus : C8.Cal P w K mg base 3 "box_minus" (sp_box_minus K) []) (M_Bound_boxes : C8.Met P w K mg base 1 (cls_at K "Bound") "boxes" (sp_Bound_boxes K) []) : C8.Cal P w K mg base 4 "covers" (sp_covers K) [] := by
  have G : FnOk P w K mg base CX0 (3 + 1) f fd ["bound", "other"] (sp_covers K) := by
    refine F.ok sc_covers (fun vs H Q E h => (sat_covers h).1) (fun cdv A outer s H vs Q E hr h => ?_)
    have nd := sc_covers.nd
    exact ⟨_, (pss_cons (ps_set (i := 2) nd rfl (.inl rfl) (C8.pe_mt0 M_Bound_boxes hr (by decide) (pv 1)))
  (pss_cons (ps_for PassesOwn.never rfl (pi_list (C8.pe_mt0 M_Bound_boxes hr (by decide) (pv 0))) (pg_name (i := 3) nd rfl (.inr rfl)) (pss_one (ps_setLc2 (i := 2) (own := [("one", 4), ("part", 5)]) (vs1 := [5]) (g := (gName 4)) (tt := tYes) (g1 := (gName 5)) (tt1 := tYes) rfl nd rfl rfl (sw_true rfl rfl rfl (by decide +kernel)) (pi_list (pv 2)) (blkOk_by (N := ["bound", "other", "rest", "box", "one", "part"]) (sc := defScope s_covers) (by decide +kernel)) (by decide) (fun _ _ _ _ _ => (pg_name (i := 4) nd rfl (.inl rfl))) (fun _ _ _ _ _ => pts_nil) (fun _ _ _ _ _ => (pi_list (C8.pe_c C_box_minus hr (by decide) (by rfl) (pa_cons (pv 4) (pa_cons (pv 3) pa_nil))))) (fun _ _ _ _ _ => (pg_name (i := 5) nd rfl (.inl rfl))) (fun _ _ _ _ _ => pts_nil) (fun _ _ _ _ _ => (pv 5)))))
  (pss_one (ps_ret (pe_cmpR (og_eq hr.units) (pv 2) (pe_lst pa_nil) (nomark _)))))), (sat_covers h).2⟩
  exact cal_mk F G g fun _ _ _ _ _ _ us hl => match us, hl with | [_, _], _ => rfl
theorem cal_read_bound {f : Addr} {fd : FuncData} (F : Fun K "read_bound" "read_bound" s_read_bound f fd) (g : mg "read_bound" = some (.ref f)) (C_read_stretch : CalX P w K mg base 4 "read_stretch" (sp_read_stretch K)) (C_need_width : CalX P w K mg base 2 "need_width" (sp_need_width K)) (N_Bound : MakRX P w K mg base 5 "Bound" (cls_at K "Bound") (sp_Bound_init K)) (m_isinstance : mg "isinstance" = none) (m_str : mg "str" = none) (m_tuple : mg "tuple" = none) (m_len : mg "len" = none) : C8.Cal P w K mg base 7 "read_bound" (sp_read_bound K) [] := by
  have G : FnOk P w K mg base CX0 (6 + 1) f fd ["width", "text"] (sp_read_bound K) := by
    refine F.ok sc_read_bound (fun vs H Q E h => (sat_read_bound h).1) (fun cdv A outer s H vs Q E hr h => ?_)
    have nd := sc_read_bound.nd
    exact ⟨_, (pss_cons (ps_if (pt_not (pt_val (pe_callB cg_isi (by rfl) m_isinstance (by decide +kernel) (pa_cons (pv 1) (pa_cons (pe_bltn (v := .ty "str") (u := .type "str") (by rfl) m_str (by decide +kernel) rfl) pa_nil))))) (pss_one ps_no) pss_nil)
  (pss_cons (ps_if (pt_cmpR (og_eq hr.units) (pv 1) pe_str (nomark _)) (pss_one (ps_ret (pe_mkRX N_Bound hr (by decide) (by rfl) passL (pa_cons (pv 0) pa_nil)))) pss_nil)
  (pss_cons (ps_try_thru0 (pss_one (ps_setLc (i := 2) (own := [("row", 4)]) (g := (gName 4)) (tt := tYes) rfl nd rfl rfl (sw_true rfl rfl rfl (by decide +kernel)) (pi_list (pe_bm PySem.F.plainAttrs_str PySem.F.slot_str_split PySem.F.type_str_split mt_split (pv 1) (pa_cons pe_str pa_nil))) (blkOk_by (N := ["width", "text", "boxes", "box", "row", "word"]) (sc := defScope s_read_bound) (by decide +kernel)) (fun _ _ _ _ _ => (pg_name (i := 4) nd rfl (.inl rfl))) (fun _ _ _ _ _ => pts_nil) (fun _ _ _ _ _ => (pe_callTy cg_tuple (by rfl) m_tuple (by decide +kernel) (pa_cons (pe_lc (own := [("word", 5)]) (g := (gName 5)) (tt := tYes) rfl nd (pi_list (pe_bm PySem.F.plainAttrs_str PySem.F.slot_str_split PySem.F.type_str_split mt_split (pv 4) (pa_cons pe_str pa_nil))) (blkOk_by (N := ["width", "text", "boxes", "box", "row", "word"]) (sc := relS _ (defScope s_read_bound)) (by decide +kernel)) (fun _ _ _ _ _ => (pg_name (i := 5) nd rfl (.inl rfl))) (fun _ _ _ _ _ => pts_nil) (fun _ _ _ _ _ => (pe_cX C_read_stretch hr (by decide) (by rfl) passL (pa_cons (pv 5) pa_nil)))) pa_nil))))))
  (pss_cons (ps_for PassesOwn.never rfl (pi_list (pv 2)) (pg_name (i := 3) nd rfl (.inl rfl)) (pss_one (ps_expr (pe_cX C_need_width hr (by decide) (by rfl) passL (pa_cons (pv 0) (pa_cons (pe_callB cg_len (by rfl) m_len (by decide +kernel) (pa_cons (pv 3) pa_nil)) pa_nil))))))
  (pss_one (ps_ret (pe_mkSX N_Bound hr (by decide) (by rfl) passL (pa_cons (pv 0) (StX.pa_star (pv 2) pa_nil))))))))), (sat_read_bound h).2⟩
  exact cal_mk F G g fun _ _ _ _ _ _ us hl => match us, hl with | [_, _], _ => rfl
theorem cal_open {f : Addr} {fd : FuncData} (F : Fun K "_law_open" "_law_open" s_open f fd) (g : mg "_law_open" = some (.ref f)) (m_list : mg "list" = none) : C8.Cal P w K mg base 1 "_law_open" (sp_open K) [] := by
  have G : FnOk P w K mg base CX0 (0 + 1) f fd ["_law_script"] (sp_open K) := by
    refine F.ok sc_open (fun vs H Q E h => (sat_open h).1) (fun cdv A outer s H vs Q E hr h => ?_)
    have nd := sc_open.nd
    exact ⟨_, (pss_one (ps_ret (pe_lst (pa_cons (pe_callTy cg_list (by rfl) m_list (by decide +kernel) (pa_cons (pe_slice og_sl (pv 0) po_none (po_some pe_int)) pa_nil)) (pa_cons pe_int (pa_cons pe_int (pa_cons pe_int (pa_cons pe_int pa_nil)))))))), (sat_open h).2⟩
  exact cal_mk F G g fun _ _ _ _ _ _ us hl => match us, hl with | [_], _ => rfl
theorem cal_draw {f : Addr} {fd : FuncData} (F : Fun K "_law_draw" "_law_draw" s_draw f fd) (g : mg "_law_draw" = some (.ref f)) (m_len : mg "len" = none) (m_int : mg "int" = none) : C8.Cal P w K mg base 1 "_law_draw" (sp_draw K) [] := by
  have G : FnOk P w K mg base CX0 (0 + 1) f fd ["_law_bag", "_law_many"] (sp_draw K) := by
    refine F.ok sc_draw (fun vs H Q E h => (sat_draw h).1) (fun cdv A outer s H vs Q E hr h => ?_)
    have nd := sc_draw.nd
    exact ⟨_, (pss_cons (ps_if (PW.pt (pw_and (pt_cmpR (og_eq hr.units) (pe_ix ix_seq (pv 0) pe_int (fun _ _ => rfl)) pe_int (nomark _)) (pw_and1 (pt_cmpR (og_lt hr.units) (pe_ix ix_seq (pv 0) pe_int (fun _ _ => rfl)) (pe_callB cg_len (by rfl) m_len (by decide +kernel) (pa_cons (pe_ix ix_seq (pv 0) pe_int (fun _ _ => rfl)) pa_nil)) (nomark _))))) (pss_cons (ps_set (i := 2) nd rfl (.inl rfl) (pe_ix ix_seq (pe_ix ix_seq (pv 0) pe_int (fun _ _ => rfl)) (pe_ix ix_seq (pv 0) pe_int (fun _ _ => rfl)) (fun _ _ => rfl)))
  (pss_cons (ps_asg (pe_op og_add (pe_ix ix_seq (pv 0) pe_int (fun _ _ => rfl)) pe_int) (pg_sub (pv 0) pe_int set_list))
  (pss_cons (ps_asg (pe_ifExp (pt_cmpR og_ge (pv 2) (pe_op og_pow pe_int pe_int) (nomark _)) (pv 2) pe_int) (pg_sub (pv 0) pe_int set_list))
  (pss_one (ps_asg (pe_op og_mod (pe_callTy cg_int (by rfl) m_int (by decide +kernel) (pa_cons (pe_op og_add (pe_op og_add (pe_op og_mul (pe_ix ix_seq (pv 0) pe_int (fun _ _ => rfl)) pe_int) (pe_op og_mul (pe_op og_mod (pe_callTy cg_int (by rfl) m_int (by decide +kernel) (pa_cons (pv 2) pa_nil)) pe_int) pe_int)) pe_int) pa_nil)) pe_int) (pg_sub (pv 0) pe_int set_list)))))) pss_nil)
  (pss_cons (ps_if (pt_cmpR og_gt (pe_ix ix_seq (pv 0) pe_int (fun _ _ => rfl)) pe_int (nomark _)) (pss_cons (ps_set (i := 3) nd rfl (.inl rfl) (pe_op og_mod (pe_callTy cg_int (by rfl) m_int (by decide +kernel) (pa_cons (pe_ix ix_seq (pv 0) pe_int (fun _ _ => rfl)) pa_nil)) (pv 1)))
  (pss_cons (ps_asg (pe_op og_fdiv (pe_ix ix_seq (pv 0) pe_int (fun _ _ => rfl)) (pv 1)) (pg_sub (pv 0) pe_int set_list))
  (pss_one (ps_ret (pv 3))))) pss_nil)
  (pss_cons (ps_asg (pe_op og_add (pe_ix ix_seq (pv 0) pe_int (fun _ _ => rfl)) pe_int) (pg_sub (pv 0) pe_int set_list))
  (pss_cons (ps_set (i := 4) nd rfl (.inl rfl) (pe_ix ix_seq (pv 0) pe_int (fun _ _ => rfl)))
  (pss_cons (ps_asg (pe_op og_mod (pe_callTy cg_int (by rfl) m_int (by decide +kernel) (pa_cons (pe_op og_add (pe_op og_add (pe_op og_add (pe_op og_mul (pv 4) (pv 4)) (pe_op og_mul pe_int (pv 4))) (pe_op og_mul pe_int (pe_ix ix_seq (pv 0) pe_int (fun _ _ => rfl)))) pe_int) pa_nil)) pe_int) (pg_sub (pv 0) pe_int set_list))
  (pss_one (ps_ret (pe_op og_mod (pe_callTy cg_int (by rfl) m_int (by decide +kernel) (pa_cons (pe_op og_add (pe_op og_add (pe_op og_fdiv (pe_ix ix_seq (pv 0) pe_int (fun _ _ => rfl)) pe_int) (pe_op og_mul (pv 4) pe_int)) (pe_ix ix_seq (pv 0) pe_int (fun _ _ => rfl))) pa_nil)) (pv 1))))))))), (sat_draw h).2⟩
  exact cal_mk F G g fun _ _ _ _ _ _ us hl => match us, hl with | [_, _], _ => rfl
theorem cal_of {f : Addr} {fd : FuncData} (F : Fun K "_law_of" "_law_of" s_of f fd) (g : mg "_law_of" = some (.ref f)) (C__law_draw : C8.Cal P w K mg base 1 "_law_draw" (sp_draw K) []) (m_len : mg "len" = none) : C8.Cal P w K mg base 2 "_law_of" (sp_of K) [] := by
  have G : FnOk P w K mg base CX0 (1 + 1) f fd ["_law_bag", "_law_things"] (sp_of K) := by
    refine F.ok sc_of (fun vs H Q E h => (sat_of h).1) (fun cdv A outer s H vs Q E hr h => ?_)
    have nd := sc_of.nd
    exact ⟨_, (pss_one (ps_ret (pe_ix ix_seq (pv 1) (C8.pe_c C__law_draw hr (by decide) (by rfl) (pa_cons (pv 0) (pa_cons (pe_callB cg_len (by rfl) m_len (by decide +kernel) (pa_cons (pv 1) pa_nil)) pa_nil))) (fun _ _ => rfl)))), (sat_of h).2⟩
  exact cal_mk F G g fun _ _ _ _ _ _ us hl => match us, hl with | [_, _], _ => rfl
theorem cal_like {f : Addr} {fd : FuncData} (F : Fun K "_law_like" "_law_like" s_like f fd) (g : mg "_law_like" = some (.ref f)) (m_isinstance : mg "isinstance" = none) (m_tuple : mg "tuple" = none) (m_list : mg "list" = none) (m_len : mg "len" = none) (m_all : mg "all" = none) (m_zip : mg "zip" = none) (m_bool : mg "bool" = none) (m_int : mg "int" = none) (m_str : mg "str" = none) : ∀ n, C8.Cal P w K mg base (0 + 1 * n) "_law_like" (sp_like K n) []
  | 0 => ⟨f, fd, ["_law_found", "_law_due"], [], fnOk_never (never_like K), g, F.kp, F.binds fun _ _ _ _ _ _ us hl => match us, hl with | [_, _], _ => rfl, .nil⟩
  | n + 1 => by
    have C__law_like := cal_like F g m_isinstance m_tuple m_list m_len m_all m_zip m_bool m_int m_str n
    have G : FnOk P w K mg base CX0 ((0 + 1 * n + 0) + 1) f fd ["_law_found", "_law_due"] (sp_like K (n + 1)) := by
      refine F.ok sc_like (fun vs H Q E h => (sat_like (n := n) h).1) (fun cdv A outer s H vs Q E hr h => ?_)
      have nd := sc_like.nd
      exact ⟨_, (pss_cons (ps_if (pt_val (pe_callB cg_isi (by rfl) m_isinstance (by decide +kernel) (pa_cons (pv 1) (pa_cons (pe_tup (pa_cons (pe_bltn (v := .ty "list") (u := .type "list") (by rfl) m_list (by decide +kernel) rfl) (pa_cons (pe_bltn (v := .ty "tuple") (u := .type "tuple") (by rfl) m_tuple (by decide +kernel) rfl) pa_nil))) pa_nil)))) (pss_cons (ps_if (PW.pt (pw_or (pt_cmpR (og_ne hr.units) (pe_callB cg_isi (by rfl) m_isinstance (by decide +kernel) (pa_cons (pv 0) (pa_cons (pe_bltn (v := .ty "list") (u := .type "list") (by rfl) m_list (by decide +kernel) rfl) pa_nil))) (pe_callB cg_isi (by rfl) m_isinstance (by decide +kernel) (pa_cons (pv 1) (pa_cons (pe_bltn (v := .ty "list") (u := .type "list") (by rfl) m_list (by decide +kernel) rfl) pa_nil))) (nomark _)) (pw_or1 (pt_cmpR (og_ne hr.units) (pe_callB cg_isi (by rfl) m_isinstance (by decide +kernel) (pa_cons (pv 0) (pa_cons (pe_bltn (v := .ty "tuple") (u := .type "tuple") (by rfl) m_tuple (by decide +kernel) rfl) pa_nil))) (pe_callB cg_isi (by rfl) m_isinstance (by decide +kernel) (pa_cons (pv 1) (pa_cons (pe_bltn (v := .ty "tuple") (u := .type "tuple") (by rfl) m_tuple (by decide +kernel) rfl) pa_nil))) (nomark _))))) (pss_one (ps_ret pe_bl)) pss_nil)
    (pss_one (ps_ret (pe_and (pe_cmpR (og_eq hr.units) (pe_callB cg_len (by rfl) m_len (by decide +kernel) (pa_cons (pv 0) pa_nil)) (pe_callB cg_len (by rfl) m_len (by decide +kernel) (pa_cons (pv 1) pa_nil)) (nomark _)) (pe_one (pe_callB (cr_all rfl) (by rfl) m_all (by decide +kernel) (pa_cons (pe_lc (own := [("_law_one", 2), ("_law_other_z", 3)]) (g := (gTup K 2 (gCons (gName 2) (gCons (gName 3) gNil)))) (tt := tYes) rfl nd (pi_zipA (by rfl) m_zip (pa_cons (pv 0) (pa_cons (pv 1) pa_nil))) (blkOk_by (N := ["_law_found", "_law_due", "_law_one", "_law_other_z"]) (sc := defScope s_like) (by decide +kernel)) (fun _ _ _ _ _ => (pg_tup rfl (pgs_cons (pg_name (i := 2) nd rfl (.inl rfl)) (pgs_cons (pg_name (i := 3) nd rfl (.inl rfl)) pgs_nil)))) (fun _ _ _ _ _ => pts_nil) (fun _ _ _ _ _ => (C8.pe_c C__law_like hr (by omega) (by rfl) (pa_cons (pv 2) (pa_cons (pv 3) pa_nil))))) pa_nil))))))) pss_nil)
    (pss_cons (ps_if (PW.pt (pw_or (pt_cmpR op_isN1 (pv 1) pe_non (nomark _)) (pw_or1 (pt_cmpR op_isN1 (pv 0) pe_non (nomark _))))) (pss_one (ps_ret (pe_and (pe_cmpR op_isN1 (pv 1) pe_non (nomark _)) (pe_one (pe_cmpR op_isN1 (pv 0) pe_non (nomark _)))))) pss_nil)
    (pss_cons (ps_if (PW.pt (pw_or (pt_cmpR (og_ne hr.units) (pe_callB cg_isi (by rfl) m_isinstance (by decide +kernel) (pa_cons (pv 0) (pa_cons (pe_bltn (v := .ty "bool") (u := .type "bool") (by rfl) m_bool (by decide +kernel) rfl) pa_nil))) (pe_callB cg_isi (by rfl) m_isinstance (by decide +kernel) (pa_cons (pv 1) (pa_cons (pe_bltn (v := .ty "bool") (u := .type "bool") (by rfl) m_bool (by decide +kernel) rfl) pa_nil))) (nomark _)) (pw_or1 (pt_cmpR (og_ne hr.units) (pe_callB cg_isi (by rfl) m_isinstance (by decide +kernel) (pa_cons (pv 0) (pa_cons (pe_bltn (v := .ty "int") (u := .type "int") (by rfl) m_int (by decide +kernel) rfl) pa_nil))) (pe_callB cg_isi (by rfl) m_isinstance (by decide +kernel) (pa_cons (pv 1) (pa_cons (pe_bltn (v := .ty "int") (u := .type "int") (by rfl) m_int (by decide +kernel) rfl) pa_nil))) (nomark _))))) (pss_one (ps_ret pe_bl)) pss_nil)
    (pss_one (ps_ret (pe_and (pe_cmpR (og_eq hr.units) (pe_callB cg_isi (by rfl) m_isinstance (by decide +kernel) (pa_cons (pv 0) (pa_cons (pe_bltn (v := .ty "str") (u := .type "str") (by rfl) m_str (by decide +kernel) rfl) pa_nil))) (pe_callB cg_isi (by rfl) m_isinstance (by decide +kernel) (pa_cons (pv 1) (pa_cons (pe_bltn (v := .ty "str") (u := .type "str") (by rfl) m_str (by decide +kernel) rfl) pa_nil))) (nomark _)) (pe_one (pe_cmpR (og_eq hr.units) (pv 0) (pv 1) (nomark _))))))))), (sat_like (n := n) h).2⟩
    exact cal_mk F G g fun _ _ _ _ _ _ us hl => match us, hl with | [_, _], _ => rfl
theorem cal_field {f : Addr} {fd : FuncData} (F : Fun K "_law_field" "_law_field" s_field f fd) (g : mg "_law_field" = some (.ref f)) : FldOk P w K mg base 1 "_law_field" := by
  have nd := sc_field.nd
  have kp := F.kp
  have b := F.binds (ps := ["_law_e"]) (fun _ _ _ _ _ _ us hl => match us, hl with | [_], _ => rfl)
  obtain ⟨oc, od, kV, doc, pm, an, cdv, ct, osl, rfl, lk, hcd⟩ := F.ex; exact ⟨f, _, fnE_of (k := 0) lk hcd sc_field (fun a cls d vs H Q E h => (sat_field h).1) (fun A outer s H vs Q p cls d hu hz hf h => ⟨_, (pss_cons (ps_if (pt_cmpR og_in (pe_xfA (.head _) hz hf (pv 0)) (pe_lst (pa_cons pe_str (pa_cons pe_str (pa_cons pe_str (pa_cons pe_str (pa_cons pe_str pa_nil)))))) (by rfl)) (pss_one (ps_ret (pe_xfA (.head _) hz hf (pv 0)))) pss_nil)
  (pss_cons (ps_if (pt_cmpR og_in (pe_xfA (.head _) hz hf (pv 0)) (pe_lst (pa_cons pe_str (pa_cons pe_str pa_nil))) (by rfl)) (pss_one (ps_ret (pe_xfA (.head _) hz hf (pv 0)))) pss_nil)
  (pss_cons (ps_if (pt_cmpR og_in (pe_xfA (.head _) hz hf (pv 0)) (pe_lst (pa_cons pe_str (pa_cons pe_str pa_nil))) (by rfl)) (pss_one (ps_ret (pe_xfA (.head _) hz hf (pv 0)))) pss_nil)
  (pss_cons (ps_if (pt_cmpR (og_eq hu) (pe_xfA (.head _) hz hf (pv 0)) pe_str (nomark _)) (pss_one (ps_ret (pe_xfA (.head _) hz hf (pv 0)))) pss_nil)
  (pss_cons (ps_if (pt_cmpR (og_eq hu) (pe_xfA (.head _) hz hf (pv 0)) pe_str (nomark _)) (pss_one (ps_ret (pe_xfA (.head _) hz hf (pv 0)))) pss_nil)
  (pss_one (ps_ret (pe_ifExp (pt_cmpR og_in (pe_xfA (.head _) hz hf (pv 0)) (pe_lst (pa_cons pe_str (pa_cons pe_str (pa_cons pe_str pa_nil)))) (by rfl)) pe_non (pe_xfA (.head _) hz hf (pv 0)))))))))), (sat_field h).2⟩), g, kp, b⟩
theorem cal_try {f : Addr} {fd : FuncData} (F : Fun K "_law_try" "_law_try" s_try f fd) (g : mg "_law_try" = some (.ref f)) (C__law_field : FldOk P w K mg base 1 "_law_field") (e_EntryError : mg "EntryError" = some (.ref (cls_at K "EntryError"))) (e_Missing : mg "Missing" = some (.ref (cls_at K "Missing"))) (e_NothingLeft : mg "NothingLeft" = some (.ref (cls_at K "NothingLeft"))) : C8.Cal P w K mg base 7 "_law_try" (sp_try K (CanH P w K mg base 6)) [] := by
  have nd := sc_try.nd
  obtain ⟨f1, fd1, FE, gm, kp, b⟩ := C__law_field.ex
  have G : FnOk P w K mg base CX0 (6 + 1) f fd ["_law_ask"] (sp_try K (CanH P w K mg base 6)) := by
    refine F.ok sc_try (fun vs H Q E ⟨_, _, e, _⟩ => by rw [e]; rfl) (fun cdv A outer s H vs Q E hr ⟨f, tl, e, cn, h⟩ => ?_)
    subst e
    have c := cn.can outer s H
    exact ⟨t_try K f tl, pss_one (ps_try_asT rfl rfl nd rfl rfl ⟨by rfl, by decide, .inl e_EntryError⟩ ⟨by rfl, by decide, .inl e_Missing⟩ ⟨by rfl, by decide, .inl e_NothingLeft⟩
    (fun W pn xe tk => pss_ask c rfl tk hr rfl (.inl rfl) (by decide) (by decide)) (fun a oe cls d pn hz hf => pss_one (ps_ret (pe_tup (pa_cons (pe_xfA (.head _) hz hf (pv 1)) (pa_cons (pe_callE FE (L2H.roomH_mark (hr.mono (by decide)) _) (.head _) hz hf (by rfl) gm kp b (pa_cons (pv 1) pa_nil)) pa_nil)))))), h⟩
  exact cal_mk F G g fun _ _ _ _ _ _ us hl => match us, hl with | [_], _ => rfl
theorem cal_tries {f : Addr} {fd : FuncData} (F : Fun K "_law_tries" "_law_tries" s_tries f fd) (g : mg "_law_tries" = some (.ref f)) (C__law_try : C8.Cal P w K mg base 7 "_law_try" (sp_try K (CanH P w K mg base 6)) []) : C8.Cal P w K mg base 8 "_law_tries" (sp_tries K (CanH P w K mg base 6)) [] := by
  have G : FnOk P w K mg base CX0 (7 + 1) f fd ["_law_asks"] (sp_tries K (CanH P w K mg base 6)) := by
    refine F.ok sc_tries (fun vs H Q E h => (sat_tries h).1) (fun cdv A outer s H vs Q E hr h => ?_)
    have nd := sc_tries.nd
    exact ⟨_, (pss_one (ps_ret (pe_lc (own := [("_law_ask", 1)]) (g := (gName 1)) (tt := tYes) rfl nd (pi_list (pv 0)) (blkOk_by (N := ["_law_asks", "_law_ask"]) (sc := defScope s_tries) (by decide +kernel)) (fun _ _ _ _ _ => (pg_name (i := 1) nd rfl (.inl rfl))) (fun _ _ _ _ _ => pts_nil) (fun _ _ _ _ _ => (C8.pe_c C__law_try hr (by decide) (by rfl) (pa_cons (pv 1) pa_nil)))))), (sat_tries h).2⟩
  exact cal_mk F G g fun _ _ _ _ _ _ us hl => match us, hl with | [_], _ => rfl
theorem cal_products {f : Addr} {fd : FuncData} (F : Fun K "_law_products" "_law_products" s_products f fd) (g : mg "_law_products" = some (.ref f)) : C8.Cal P w K mg base 1 "_law_products" (sp_products K) [] := by
  have G : FnOk P w K mg base CX0 (0 + 1) f fd ["_law_lots"] (sp_products K) := by
    refine F.ok sc_products (fun vs H Q E h => (sat_products h).1) (fun cdv A outer s H vs Q E hr h => ?_)
    have nd := sc_products.nd
    exact ⟨_, (pss_cons (ps_set (i := 1) nd rfl (.inl rfl) (pe_lst (pa_cons (pe_tup pa_nil) pa_nil)))
  (pss_cons (ps_for PassesOwn.never rfl (pi_list (pv 0)) (pg_name (i := 2) nd rfl (.inl rfl)) (pss_cons (ps_set (i := 3) nd rfl (.inl rfl) (pe_lst pa_nil))
  (pss_cons (ps_for PassesOwn.never rfl (pi_list (pv 1)) (pg_name (i := 4) nd rfl (.inr rfl)) (pss_one (ps_set (i := 3) nd rfl (.inl rfl) (pe_op og_add (pv 3) (pe_lc (own := [("_law_one", 5)]) (g := (gName 5)) (tt := tYes) rfl nd (pi_list (pv 2)) (blkOk_by (N := ["_law_lots", "_law_found", "_law_lot", "_law_longer", "_law_told", "_law_one"]) (sc := defScope s_products) (by decide +kernel)) (fun _ _ _ _ _ => (pg_name (i := 5) nd rfl (.inl rfl))) (fun _ _ _ _ _ => pts_nil) (fun _ _ _ _ _ => (pe_op og_add (pv 4) (pe_tup (pa_cons (pv 5) pa_nil)))))))))
  (pss_one (ps_set (i := 1) nd rfl (.inl rfl) (pv 3))))))
  (pss_one (ps_ret (pv 1))))), (sat_products h).2⟩
  exact cal_mk F G g fun _ _ _ _ _ _ us hl => match us, hl with | [_], _ => rfl
theorem cal_stretch {f : Addr} {fd : FuncData} (F : Fun K "_law_stretch" "_law_stretch" s_stretch f fd) (g : mg "_law_stretch" = some (.ref f)) (C__law_draw : C8.Cal P w K mg base 1 "_law_draw" (sp_draw K) []) (C__law_of : C8.Cal P w K mg base 2 "_law_of" (sp_of K) []) (m_max : mg "max" = none) (m_min : mg "min" = none) : C8.Cal P w K mg base 3 "_law_stretch" (sp_stretch K) [] := by
  have G : FnOk P w K mg base CX0 (2 + 1) f fd ["_law_bag", "_law_numbers"] (sp_stretch K) := by
    refine F.ok sc_stretch (fun vs H Q E h => (sat_stretch h).1) (fun cdv A outer s H vs Q E hr h => ?_)
    have nd := sc_stretch.nd
    exact ⟨_, (pss_cons (ps_if (pt_cmpR (og_eq hr.units) (C8.pe_c C__law_draw hr (by decide) (by rfl) (pa_cons (pv 0) (pa_cons pe_int pa_nil))) pe_int (nomark _)) (pss_one (ps_ret pe_non)) pss_nil)
  (pss_cons (ps_par (i := 2) (j := 3) (by rfl) nd rfl rfl (by decide) rfl rfl (pa_cons (C8.pe_c C__law_of hr (by decide) (by rfl) (pa_cons (pv 0) (pa_cons (pe_lst (pa_cons pe_non (pa_cons (C8.pe_c C__law_of hr (by decide) (by rfl) (pa_cons (pv 0) (pa_cons (pv 1) pa_nil))) pa_nil))) pa_nil))) (pa_cons (C8.pe_c C__law_of hr (by decide) (by rfl) (pa_cons (pv 0) (pa_cons (pe_lst (pa_cons pe_non (pa_cons (C8.pe_c C__law_of hr (by decide) (by rfl) (pa_cons (pv 0) (pa_cons (pv 1) pa_nil))) pa_nil))) pa_nil))) pa_nil)) (by rfl))
  (pss_one (ps_ret (pe_ifExp (PW.pt (pw_or (pt_cmpR op_isN1 (pv 2) pe_non (nomark _)) (pw_or1 (pt_cmpR op_isN1 (pv 3) pe_non (nomark _))))) (pe_tup (pa_cons (pv 2) (pa_cons (pv 3) pa_nil))) (pe_tup (pa_cons (pe_callB (cg_min2 rfl) (by rfl) m_min (by decide +kernel) (pa_cons (pv 2) (pa_cons (pv 3) pa_nil))) (pa_cons (pe_callB (cg_max2 rfl) (by rfl) m_max (by decide +kernel) (pa_cons (pv 2) (pa_cons (pv 3) pa_nil))) pa_nil)))))))), (sat_stretch h).2⟩
  exact cal_mk F G g fun _ _ _ _ _ _ us hl => match us, hl with | [_, _], _ => rfl
theorem cal_in {f : Addr} {fd : FuncData} (F : Fun K "_law_in" "_law_in" s_in f fd) (g : mg "_law_in" = some (.ref f)) : C8.Cal P w K mg base 1 "_law_in" (sp_in K) [] := by
  have G : FnOk P w K mg base CX0 (0 + 1) f fd ["_law_stretch_here", "_law_value"] (sp_in K) := by
    refine F.ok sc_in (fun vs H Q E h => (sat_in h).1) (fun cdv A outer s H vs Q E hr h => ?_)
    have nd := sc_in.nd
    exact ⟨_, (pss_cons (ps_if (PW.pt (pw_or (pt_cmpR op_isN1 (pv 0) pe_non (nomark _)) (pw_or1 (pt_cmpR op_isN1 (pv 1) pe_non (nomark _))))) (pss_one (ps_ret (pe_and (pe_cmpR op_isN1 (pv 0) pe_non (nomark _)) (pe_one (pe_cmpR op_isN1 (pv 1) pe_non (nomark _)))))) pss_nil)
  (pss_one (ps_ret (pe_and (pe_or (pe_cmpR op_isN1 (pe_ix ix_seq (pv 0) pe_int (fun _ _ => rfl)) pe_non (nomark _)) (pe_one (pe_cmpR og_le (pe_ix ix_seq (pv 0) pe_int (fun _ _ => rfl)) (pv 1) (nomark _)))) (pe_one (pe_or (pe_cmpR op_isN1 (pe_ix ix_seq (pv 0) pe_int (fun _ _ => rfl)) pe_non (nomark _)) (pe_one (pe_cmpR og_le (pv 1) (pe_ix ix_seq (pv 0) pe_int (fun _ _ => rfl)) (nomark _))))))))), (sat_in h).2⟩
  exact cal_mk F G g fun _ _ _ _ _ _ us hl => match us, hl with | [_, _], _ => rfl
theorem cal_boxes {f : Addr} {fd : FuncData} (F : Fun K "_law_boxes" "_law_boxes" s_boxes f fd) (g : mg "_law_boxes" = some (.ref f)) (C__law_draw : C8.Cal P w K mg base 1 "_law_draw" (sp_draw K) []) (C__law_stretch : C8.Cal P w K mg base 3 "_law_stretch" (sp_stretch K) []) (m_range : mg "range" = none) (m_tuple : mg "tuple" = none) : C8.Cal P w K mg base 4 "_law_boxes" (sp_boxes K) [] := by
  have G : FnOk P w K mg base CX0 (3 + 1) f fd ["_law_bag", "_law_width", "_law_numbers", "_law_most"] (sp_boxes K) := by
    refine F.ok sc_boxes (fun vs H Q E h => (sat_boxes h).1) (fun cdv A outer s H vs Q E hr h => ?_)
    have nd := sc_boxes.nd
    exact ⟨_, (pss_one (ps_ret (pe_lc (own := [("_law_j", 4)]) (g := (gName 4)) (tt := tYes) rfl nd (pi_range1 (by rfl) m_range (pa_cons (C8.pe_c C__law_draw hr (by decide) (by rfl) (pa_cons (pv 0) (pa_cons (pe_op og_add (pv 3) pe_int) pa_nil))) pa_nil)) (blkOk_by (N := ["_law_bag", "_law_width", "_law_numbers", "_law_most", "_law_j", "_law_k"]) (sc := defScope s_boxes) (by decide +kernel)) (fun _ _ _ _ _ => (pg_name (i := 4) nd rfl (.inl rfl))) (fun _ _ _ _ _ => pts_nil) (fun _ _ _ _ _ => (pe_callTy cg_tuple (by rfl) m_tuple (by decide +kernel) (pa_cons (pe_lc (own := [("_law_k", 5)]) (g := (gName 5)) (tt := tYes) rfl nd (pi_range1 (by rfl) m_range (pa_cons (pv 1) pa_nil)) (blkOk_by (N := ["_law_bag", "_law_width", "_law_numbers", "_law_most", "_law_j", "_law_k"]) (sc := relS _ (defScope s_boxes)) (by decide +kernel)) (fun _ _ _ _ _ => (pg_name (i := 5) nd rfl (.inl rfl))) (fun _ _ _ _ _ => pts_nil) (fun _ _ _ _ _ => (C8.pe_c C__law_stretch hr (by decide) (by rfl) (pa_cons (pv 0) (pa_cons (pv 2) pa_nil))))) pa_nil)))))), (sat_boxes h).2⟩
  exact cal_mk F G g fun _ _ _ _ _ _ us hl => match us, hl with | [_, _, _, _], _ => rfl
theorem cal_key_in {f : Addr} {fd : FuncData} (F : Fun K "_law_key_in" "_law_key_in" s_key_in f fd) (g : mg "_law_key_in" = some (.ref f)) (C__law_in : C8.Cal P w K mg base 1 "_law_in" (sp_in K) []) (m_any : mg "any" = none) (m_all : mg "all" = none) (m_zip : mg "zip" = none) : C8.Cal P w K mg base 2 "_law_key_in" (sp_key_in K) [] := by
  have G : FnOk P w K mg base CX0 (1 + 1) f fd ["_law_boxes_here", "_law_key"] (sp_key_in K) := by
    refine F.ok sc_key_in (fun vs H Q E h => (sat_key_in h).1) (fun cdv A outer s H vs Q E hr h => ?_)
    have nd := sc_key_in.nd
    exact ⟨_, (pss_one (ps_ret (pe_callB (cr_any rfl) (by rfl) m_any (by decide +kernel) (pa_cons (pe_lc (own := [("_law_box", 2)]) (g := (gName 2)) (tt := tYes) rfl nd (pi_list (pv 0)) (blkOk_by (N := ["_law_boxes_here", "_law_key", "_law_box", "_law_stretch_here", "_law_value"]) (sc := defScope s_key_in) (by decide +kernel)) (fun _ _ _ _ _ => (pg_name (i := 2) nd rfl (.inl rfl))) (fun _ _ _ _ _ => pts_nil) (fun _ _ _ _ _ => (pe_callB (cr_all rfl) (by rfl) m_all (by decide +kernel) (pa_cons (pe_lc (own := [("_law_stretch_here", 3), ("_law_value", 4)]) (g := (gTup K 2 (gCons (gName 3) (gCons (gName 4) gNil)))) (tt := tYes) rfl nd (pi_zipA (by rfl) m_zip (pa_cons (pv 2) (pa_cons (pv 1) pa_nil))) (blkOk_by (N := ["_law_boxes_here", "_law_key", "_law_box", "_law_stretch_here", "_law_value"]) (sc := relS _ (defScope s_key_in)) (by decide +kernel)) (fun _ _ _ _ _ => (pg_tup rfl (pgs_cons (pg_name (i := 3) nd rfl (.inl rfl)) (pgs_cons (pg_name (i := 4) nd rfl (.inl rfl)) pgs_nil)))) (fun _ _ _ _ _ => pts_nil) (fun _ _ _ _ _ => (C8.pe_c C__law_in hr (by decide) (by rfl) (pa_cons (pv 3) (pa_cons (pv 4) pa_nil))))) pa_nil)))) pa_nil)))), (sat_key_in h).2⟩
  exact cal_mk F G g fun _ _ _ _ _ _ us hl => match us, hl with | [_, _], _ => rfl
theorem cal_side {f : Addr} {fd : FuncData} (F : Fun K "_law_side" "_law_side" s_side f fd) (g : mg "_law_side" = some (.ref f)) (m_str : mg "str" = none) : C8.Cal P w K mg base 1 "_law_side" (sp_side K) [] := by
  have G : FnOk P w K mg base CX0 (0 + 1) f fd ["_law_value"] (sp_side K) := by
    refine F.ok sc_side (fun vs H Q E h => (sat_side h).1) (fun cdv A outer s H vs Q E hr h => ?_)
    have nd := sc_side.nd
    exact ⟨_, (pss_one (ps_ret (pe_ifExp (pt_cmpR op_isN1 (pv 0) pe_non (nomark _)) pe_str (pe_callTy call_str_int (by rfl) m_str (by decide +kernel) (pa_cons (pv 0) pa_nil))))), (sat_side h).2⟩
  exact cal_mk F G g fun _ _ _ _ _ _ us hl => match us, hl with | [_], _ => rfl
theorem cal_bound_text {f : Addr} {fd : FuncData} (F : Fun K "_law_bound_text" "_law_bound_text" s_bound_text f fd) (g : mg "_law_bound_text" = some (.ref f)) (C__law_side : C8.Cal P w K mg base 1 "_law_side" (sp_side K) []) : C8.Cal P w K mg base 2 "_law_bound_text" (sp_bound_text K) [] := by
  have G : FnOk P w K mg base CX0 (1 + 1) f fd ["_law_boxes_here"] (sp_bound_text K) := by
    refine F.ok sc_bound_text (fun vs H Q E h => (sat_bound_text h).1) (fun cdv A outer s H vs Q E hr h => ?_)
    have nd := sc_bound_text.nd
    exact ⟨_, (pss_cons (ps_setLc (i := 1) (own := [("_law_box", 2)]) (g := (gName 2)) (tt := tYes) rfl nd rfl rfl (sw_true rfl rfl rfl (by decide +kernel)) (pi_list (pv 0)) (blkOk_by (N := ["_law_boxes_here", "_law_rows", "_law_box", "_law_one"]) (sc := defScope s_bound_text) (by decide +kernel)) (fun _ _ _ _ _ => (pg_name (i := 2) nd rfl (.inl rfl))) (fun _ _ _ _ _ => pts_nil) (fun _ _ _ _ _ => (pe_joinS (pe_lc (own := [("_law_one", 3)]) (g := (gName 3)) (tt := tYes) rfl nd (pi_tup (pv 2)) (blkOk_by (N := ["_law_boxes_here", "_law_rows", "_law_box", "_law_one"]) (sc := relS _ (defScope s_bound_text)) (by decide +kernel)) (fun _ _ _ _ _ => (pg_name (i := 3) nd rfl (.inl rfl))) (fun _ _ _ _ _ => pts_nil) (fun _ _ _ _ _ => (pe_ifExp (pt_cmpR op_isN1 (pv 3) pe_non (nomark _)) pe_str (pe_op og_add (pe_op og_add (C8.pe_c C__law_side hr (by decide) (by rfl) (pa_cons (pe_ix ix_seq (pv 3) pe_int (fun _ _ => rfl)) pa_nil)) pe_str) (C8.pe_c C__law_side hr (by decide) (by rfl) (pa_cons (pe_ix ix_seq (pv 3) pe_int (fun _ _ => rfl)) pa_nil)))))))))
  (pss_one (ps_ret (pe_ifExp (pt_cmpR (og_ne hr.units) (pv 1) (pe_lst pa_nil) (nomark _)) (pe_joinS (pv 1)) pe_str)))), (sat_bound_text h).2⟩
  exact cal_mk F G g fun _ _ _ _ _ _ us hl => match us, hl with | [_], _ => rfl
theorem cal_bound {f : Addr} {fd : FuncData} (F : Fun K "_law_bound" "_law_bound" s_bound f fd) (g : mg "_law_bound" = some (.ref f)) (C__law_bound_text : C8.Cal P w K mg base 2 "_law_bound_text" (sp_bound_text K) []) (S_Bound_read : Sta P w K mg base 8 (cls_at K "Bound") "read" (sp_Bound_read K)) (g_Bound : ∃ u, mg "Bound" = some u ∧ RelV (.ref (cls_at K "Bound")) u) : C8.Cal P w K mg base 9 "_law_bound" (sp_bound K) [] := by
  have G : FnOk P w K mg base CX0 (8 + 1) f fd ["_law_width", "_law_boxes_here"] (sp_bound K) := by
    refine F.ok sc_bound (fun vs H Q E h => (sat_bound h).1) (fun cdv A outer s H vs Q E hr h => ?_)
    have nd := sc_bound.nd
    exact ⟨_, (pss_one (ps_ret (pe_st S_Bound_read hr (by decide) (C8.pe_gc (by rfl) g_Bound) (pa_cons (pv 0) (pa_cons (C8.pe_c C__law_bound_text hr (by decide) (by rfl) (pa_cons (pv 1) pa_nil)) pa_nil))))), (sat_bound h).2⟩
  exact cal_mk F G g fun _ _ _ _ _ _ us hl => match us, hl with | [_, _], _ => rfl
theorem cal_sides {f : Addr} {fd : FuncData} (F : Fun K "_law_sides" "_law_sides" s_sides f fd) (g : mg "_law_sides" = some (.ref f)) (m_sorted : mg "sorted" = none) (m_set : mg "set" = none) : C8.Cal P w K mg base 1 "_law_sides" (sp_sides K) [] := by
  have G : FnOk P w K mg base CX0 (0 + 1) f fd ["_law_numbers"] (sp_sides K) := by
    refine F.ok sc_sides (fun vs H Q E h => (sat_sides h).1) (fun cdv A outer s H vs Q E hr h => ?_)
    have nd := sc_sides.nd
    exact ⟨_, (pss_cons (ps_set (i := 1) nd rfl (.inr rfl) (pe_lst (pa_cons pe_non pa_nil)))
  (pss_cons (ps_for PassesOwn.never rfl (pi_list (pe_srt rfl (by rfl) m_sorted (by rfl) m_set (pv 0))) (pg_name (i := 2) nd rfl (.inl rfl)) (pss_one (ps_set (i := 1) nd rfl (.inr rfl) (pe_op og_add (pv 1) (pe_lc (own := [("_law_one", 3)]) (g := (gName 3)) (tt := (tTest (tOp (gNotIn K) (tVar 3) (tVar 1)))) rfl nd (pi_list (pe_lst (pa_cons (pe_op og_sub (pv 2) pe_int) (pa_cons (pv 2) (pa_cons (pe_op og_add (pv 2) pe_int) pa_nil))))) (blkOk_by (N := ["_law_numbers", "_law_found", "_law_number", "_law_one"]) (sc := defScope s_sides) (by decide +kernel)) (fun _ _ _ _ _ => (pg_name (i := 3) nd rfl (.inl rfl))) (fun _ _ _ _ _ => (pts_one (pt_cmpR og_notIn (pv 3) (pv 1) (by rfl)))) (fun _ _ _ _ _ => (pv 3)))))))
  (pss_one (ps_ret (pv 1))))), (sat_sides h).2⟩
  exact cal_mk F G g fun _ _ _ _ _ _ us hl => match us, hl with | [_], _ => rfl
theorem cal_cut_boxes {f : Addr} {fd : FuncData} (F : Fun K "_law_cut_boxes" "_law_cut_boxes" s_cut_boxes f fd) (g : mg "_law_cut_boxes" = some (.ref f)) (C__law_of : C8.Cal P w K mg base 2 "_law_of" (sp_of K) []) (C__law_draw : C8.Cal P w K mg base 1 "_law_draw" (sp_draw K) []) (C__law_in : C8.Cal P w K mg base 1 "_law_in" (sp_in K) []) (m_len : mg "len" = none) : C8.Cal P w K mg base 3 "_law_cut_boxes" (sp_cut_boxes K) [] := by
  have G : FnOk P w K mg base CX0 (2 + 1) f fd ["_law_bag", "_law_boxes_here", "_law_numbers"] (sp_cut_boxes K) := by
    refine F.ok sc_cut_boxes (fun vs H Q E h => (sat_cut_boxes h).1) (fun cdv A outer s H vs Q E hr h => ?_)
    have nd := sc_cut_boxes.nd
    exact ⟨_, (pss_cons (ps_set (i := 3) nd rfl (.inl rfl) (pe_lst pa_nil))
  (pss_cons (ps_for PassesOwn.never rfl (pi_list (pv 1)) (pg_name (i := 4) nd rfl (.inl rfl)) (pss_cons (ps_par (i := 5) (j := 6) (by rfl) nd rfl rfl (by decide) rfl rfl (pa_cons (C8.pe_c C__law_draw hr (by decide) (by rfl) (pa_cons (pv 0) (pa_cons (pe_callB cg_len (by rfl) m_len (by decide +kernel) (pa_cons (pv 4) pa_nil)) pa_nil))) (pa_cons (C8.pe_c C__law_of hr (by decide) (by rfl) (pa_cons (pv 0) (pa_cons (pv 2) pa_nil))) pa_nil)) (by rfl))
  (pss_cons (ps_set (i := 7) nd rfl (.inl rfl) (pe_ix ix_seq (pv 4) (pv 5) (fun _ _ => rfl)))
  (pss_one (ps_if (PW.pt (pw_and (pt_cmpR op_notN1 (pv 7) pe_non (nomark _)) (pw_and (pt_val (C8.pe_c C__law_in hr (by decide) (by rfl) (pa_cons (pv 7) (pa_cons (pv 6) pa_nil)))) (pw_and1 (pt_val (C8.pe_c C__law_in hr (by decide) (by rfl) (pa_cons (pv 7) (pa_cons (pe_op og_add (pv 6) pe_int) pa_nil)))))))) (pss_one (ps_set (i := 3) nd rfl (.inl rfl) (pe_op og_add (pv 3) (pe_lst (pa_cons (pe_op og_add (pe_op og_add (pe_slice sl_tupA (pv 4) po_none (po_some (pv 5))) (pe_tup (pa_cons (pe_tup (pa_cons (pe_ix ix_seq (pv 7) pe_int (fun _ _ => rfl)) (pa_cons (pv 6) pa_nil))) pa_nil))) (pe_slice sl_tupA (pv 4) (po_some (pe_op og_add (pv 5) pe_int)) po_none)) (pa_cons (pe_op og_add (pe_op og_add (pe_slice sl_tupA (pv 4) po_none (po_some (pv 5))) (pe_tup (pa_cons (pe_tup (pa_cons (pe_op og_add (pv 6) pe_int) (pa_cons (pe_ix ix_seq (pv 7) pe_int (fun _ _ => rfl)) pa_nil))) pa_nil))) (pe_slice sl_tupA (pv 4) (po_some (pe_op og_add (pv 5) pe_int)) po_none)) pa_nil)))))) (pss_one (ps_expr (pe_bm PySem.F.plainAttrs_list PySem.F.slot_list_append PySem.F.type_list_append mt_append (pv 3) (pa_cons (pv 4) pa_nil)))))))))
  (pss_cons (ps_if (pt_cmpR (og_ne hr.units) (pv 3) (pe_lst pa_nil) (nomark _)) (pss_one (ps_expr (pe_bm PySem.F.plainAttrs_list PySem.F.slot_list_insert PySem.F.type_list_insert mt_ins (pv 3) (pa_cons (C8.pe_c C__law_draw hr (by decide) (by rfl) (pa_cons (pv 0) (pa_cons (pe_op og_add (pe_callB cg_len (by rfl) m_len (by decide +kernel) (pa_cons (pv 3) pa_nil)) pe_int) pa_nil))) (pa_cons (C8.pe_c C__law_of hr (by decide) (by rfl) (pa_cons (pv 0) (pa_cons (pv 3) pa_nil))) pa_nil))))) pss_nil)
  (pss_one (ps_ret (pe_revL (pv 3))))))), (sat_cut_boxes h).2⟩
  exact cal_mk F G g fun _ _ _ _ _ _ us hl => match us, hl with | [_, _, _], _ => rfl
theorem ok_law {f cl Pt : Addr} {oc kV doc pm ct : Value} {od an : Option Addr} {osl : Array (Option Value)} (lk : K.lookup f = some ⟨oc, od, .func (PySem.W.fnOf "law" "law" (defArgs s_law) (defBody s_law) (defScope s_law) .none kV doc pm an (.ref cl) ct), osl⟩) (hcd : PySem.W.codeIn K (.ref cl) "law" = true) (TB : LamX.TabB base mg cl Pt) (C__law_open : C8.Cal P w K mg base 1 "_law_open" (sp_open K) []) (C__law_of : C8.Cal P w K mg base 2 "_law_of" (sp_of K) []) (C__law_draw : C8.Cal P w K mg base 1 "_law_draw" (sp_draw K) []) (C__law_boxes : C8.Cal P w K mg base 4 "_law_boxes" (sp_boxes K) []) (C__law_cut_boxes : C8.Cal P w K mg base 3 "_law_cut_boxes" (sp_cut_boxes K) []) (C__law_bound : C8.Cal P w K mg base 9 "_law_bound" (sp_bound K) []) (C__law_products : C8.Cal P w K mg base 1 "_law_products" (sp_products K) []) (C__law_sides : C8.Cal P w K mg base 1 "_law_sides" (sp_sides K) []) (C__law_key_in : C8.Cal P w K mg base 2 "_law_key_in" (sp_key_in K) []) (C__law_like : C8.Cal P w K mg base 9 "_law_like" (sp_like K 9) []) (C__law_tries : C8.Cal P w K mg base 8 "_law_tries" (sp_tries K (CanH P w K mg base 6)) []) (M_Bound_eq : C8.Met P w K mg base 5 (cls_at K "Bound") "__eq__" (sp_Bound_eq K) []) (M_Bound_within : MetX P w K mg base 5 (cls_at K "Bound") "within" (sp_Bound_within K)) (M_Bound_text : C8.Met P w K mg base 3 (cls_at K "Bound") "text" (sp_Bound_text K) []) (N_Bound : MakRX P w K mg base 5 "Bound" (cls_at K "Bound") (sp_Bound_init K)) (S_Bound_whole : Sta P w K mg base 7 (cls_at K "Bound") "whole" (sp_Bound_whole K)) (MK_Bound_within_other : MetK P w K mg base (L2.CX P w) 5 (cls_at K "Bound") "within" (sp_Bound_within K) ["other"] [0]) (m_range : mg "range" = none) (m_all : mg "all" = none) (m_zip : mg "zip" = none) (m_int : mg "int" = none) (g_Bound : ∃ u, mg "Bound" = some u ∧ RelV (.ref (cls_at K "Bound")) u) :
    FnOk P w K mg base CX0 10 f (PySem.W.fnOf "law" "law" (defArgs s_law) (defBody s_law) (defScope s_law) .none kV doc pm an (.ref cl) ct) ["_law_script"] (fun vs H Q E => ∀ lw : LamW, lw.P = Pt → sp_law K lw vs H Q E) := by
  refine fn_of (k := 9) lk hcd sc_law (fun vs H Q E h => (sat_law (h ⟨Pt, "", fun _ _ _ _ => .tbl #[], fun _ => false⟩ rfl)).1) fun A outer s H vs Q E hr h => ?_
  have nd := sc_law.nd
  exact ⟨t_law K ⟨Pt, _, ((fun (o0 o1 : Addr → Addr → Addr → HO) (i : Nat) => match i with | 0 => o0 | _ => o1) _ _), (fun i => match i with | 0 => false | _ => true)⟩, PSs.nox (pss_cons (ps_set (i := 1) nd rfl (.inr rfl) (C8.pe_c C__law_open hr (by decide) (by rfl) (pa_cons (pv 0) pa_nil)))
  (pss_cons (ps_for PassesOwn.never rfl (pi_range1 (by rfl) m_range (pa_cons pe_int pa_nil)) (pg_name (i := 2) nd rfl (.inl rfl)) (pss_cons (ps_asg (pe_tup (pa_cons (pe_op og_add pe_int (C8.pe_c C__law_draw hr (by decide) (by rfl) (pa_cons (pv 1) (pa_cons pe_int pa_nil)))) (pa_cons (C8.pe_c C__law_of hr (by decide) (by rfl) (pa_cons (pv 1) (pa_cons (pe_lst (pa_cons pe_int (pa_cons (pe_op og_sub pe_int pe_int) (pa_cons (pe_op og_pow pe_int pe_int) pa_nil)))) pa_nil))) pa_nil))) (pg_tup rfl (pgs_cons (pg_name (i := 3) nd rfl (.inl rfl)) (pgs_cons (pg_name (i := 4) nd rfl (.inr rfl)) pgs_nil))))
  (pss_cons (ps_setLc (i := 5) (own := [("_law_k", 19)]) (g := (gName 19)) (tt := tYes) rfl nd rfl rfl (sw_true rfl rfl rfl (by decide +kernel)) (pi_range1 (by rfl) m_range (pa_cons (pe_ifExp (pt_cmpR (og_lt hr.units) (pv 3) pe_int (nomark _)) pe_int pe_int) pa_nil)) (blkOk_by (N := ["_law_script", "_law_bag", "_law_turn", "_law_width", "_law_low", "_law_numbers", "_law_some", "_law_more", "_law_one", "_law_other_z", "_law_keys", "_law_a", "_law_b", "_law_up", "_law_down", "_law_found", "_law_whole", "_law_none", "_law_late", "_law_k", "_law_number", "_law_key", "_law_left", "_law_right"]) (sc := defScope s_law) (by decide +kernel)) (fun _ _ _ _ _ => (pg_name (i := 19) nd rfl (.inl rfl))) (fun _ _ _ _ _ => pts_nil) (fun _ _ _ _ _ => (pe_op og_add (pv 4) (C8.pe_c C__law_draw hr (by decide) (by rfl) (pa_cons (pv 1) (pa_cons pe_int pa_nil))))))
  (pss_cons (ps_set (i := 6) nd rfl (.inr rfl) (C8.pe_c C__law_boxes hr (by decide) (by rfl) (pa_cons (pv 1) (pa_cons (pv 3) (pa_cons (pv 5) (pa_cons pe_int pa_nil))))))
  (pss_cons (ps_set (i := 7) nd rfl (.inr rfl) (C8.pe_c C__law_of hr (by decide) (by rfl) (pa_cons (pv 1) (pa_cons (pe_lst (pa_cons (C8.pe_c C__law_cut_boxes hr (by decide) (by rfl) (pa_cons (pv 1) (pa_cons (pv 6) (pa_cons (pv 5) pa_nil)))) (pa_cons (pe_op op_catS (C8.pe_c C__law_cut_boxes hr (by decide) (by rfl) (pa_cons (pv 1) (pa_cons (pv 6) (pa_cons (pv 5) pa_nil)))) (C8.pe_c C__law_boxes hr (by decide) (by rfl) (pa_cons (pv 1) (pa_cons (pv 3) (pa_cons (pv 5) (pa_cons pe_int pa_nil)))))) (pa_cons (pe_slice og_sl (pv 6) (po_some pe_int) po_none) (pa_cons (C8.pe_c C__law_boxes hr (by decide) (by rfl) (pa_cons (pv 1) (pa_cons (pv 3) (pa_cons (pv 5) (pa_cons pe_int pa_nil))))) pa_nil))))) pa_nil))))
  (pss_cons (ps_asg (pe_tup (pa_cons (C8.pe_c C__law_bound hr (by decide) (by rfl) (pa_cons (pv 3) (pa_cons (pv 6) pa_nil))) (pa_cons (C8.pe_c C__law_bound hr (by decide) (by rfl) (pa_cons (pv 3) (pa_cons (pv 7) pa_nil))) pa_nil))) (pg_tup rfl (pgs_cons (pg_name (i := 8) nd rfl (.inr rfl)) (pgs_cons (pg_name (i := 9) nd rfl (.inl rfl)) pgs_nil))))
  (pss_cons (ps_set (i := 10) nd rfl (.inl rfl) (C8.pe_c C__law_products hr (by decide) (by rfl) (pa_cons (pe_op og_mul (pe_lst (pa_cons (C8.pe_c C__law_sides hr (by decide) (by rfl) (pa_cons (pe_op og_add (pv 5) (pe_lc (own := [("_law_number", 20)]) (g := (gName 20)) (tt := tYes) rfl nd (pi_list (pv 5)) (blkOk_by (N := ["_law_script", "_law_bag", "_law_turn", "_law_width", "_law_low", "_law_numbers", "_law_some", "_law_more", "_law_one", "_law_other_z", "_law_keys", "_law_a", "_law_b", "_law_up", "_law_down", "_law_found", "_law_whole", "_law_none", "_law_late", "_law_k", "_law_number", "_law_key", "_law_left", "_law_right"]) (sc := defScope s_law) (by decide +kernel)) (fun _ _ _ _ _ => (pg_name (i := 20) nd rfl (.inl rfl))) (fun _ _ _ _ _ => pts_nil) (fun _ _ _ _ _ => (pe_op og_add (pv 20) pe_int)))) pa_nil)) pa_nil)) (pv 3)) pa_nil)))
  (pss_cons (ps_par (i := 11) (j := 12) (by rfl) nd rfl rfl (by decide) rfl rfl (pa_cons (pe_lc (own := [("_law_key", 21)]) (g := (gName 21)) (tt := tYes) rfl nd (pi_list (pv 10)) (blkOk_by (N := ["_law_script", "_law_bag", "_law_turn", "_law_width", "_law_low", "_law_numbers", "_law_some", "_law_more", "_law_one", "_law_other_z", "_law_keys", "_law_a", "_law_b", "_law_up", "_law_down", "_law_found", "_law_whole", "_law_none", "_law_late", "_law_k", "_law_number", "_law_key", "_law_left", "_law_right"]) (sc := defScope s_law) (by decide +kernel)) (fun _ _ _ _ _ => (pg_name (i := 21) nd rfl (.inl rfl))) (fun _ _ _ _ _ => pts_nil) (fun _ _ _ _ _ => (C8.pe_c C__law_key_in hr (by decide) (by rfl) (pa_cons (pv 6) (pa_cons (pv 21) pa_nil))))) (pa_cons (pe_lc (own := [("_law_key", 21)]) (g := (gName 21)) (tt := tYes) rfl nd (pi_list (pv 10)) (blkOk_by (N := ["_law_script", "_law_bag", "_law_turn", "_law_width", "_law_low", "_law_numbers", "_law_some", "_law_more", "_law_one", "_law_other_z", "_law_keys", "_law_a", "_law_b", "_law_up", "_law_down", "_law_found", "_law_whole", "_law_none", "_law_late", "_law_k", "_law_number", "_law_key", "_law_left", "_law_right"]) (sc := defScope s_law) (by decide +kernel)) (fun _ _ _ _ _ => (pg_name (i := 21) nd rfl (.inl rfl))) (fun _ _ _ _ _ => pts_nil) (fun _ _ _ _ _ => (C8.pe_c C__law_key_in hr (by decide) (by rfl) (pa_cons (pv 7) (pa_cons (pv 21) pa_nil))))) pa_nil)) (by rfl))
  (pss_cons (ps_par (i := 13) (j := 14) (by rfl) nd rfl rfl (by decide) rfl rfl (pa_cons (pe_callB (cr_all rfl) (by rfl) m_all (by decide +kernel) (pa_cons (pe_lc (own := [("_law_left", 22), ("_law_right", 23)]) (g := (gTup K 2 (gCons (gName 22) (gCons (gName 23) gNil)))) (tt := tYes) rfl nd (pi_zipA (by rfl) m_zip (pa_cons (pv 11) (pa_cons (pv 12) pa_nil))) (blkOk_by (N := ["_law_script", "_law_bag", "_law_turn", "_law_width", "_law_low", "_law_numbers", "_law_some", "_law_more", "_law_one", "_law_other_z", "_law_keys", "_law_a", "_law_b", "_law_up", "_law_down", "_law_found", "_law_whole", "_law_none", "_law_late", "_law_k", "_law_number", "_law_key", "_law_left", "_law_right"]) (sc := defScope s_law) (by decide +kernel)) (fun _ _ _ _ _ => (pg_tup rfl (pgs_cons (pg_name (i := 22) nd rfl (.inl rfl)) (pgs_cons (pg_name (i := 23) nd rfl (.inl rfl)) pgs_nil)))) (fun _ _ _ _ _ => pts_nil) (fun _ _ _ _ _ => (pe_or (pv 23) (pe_one (pe_not (pv 22)))))) pa_nil)) (pa_cons (pe_callB (cr_all rfl) (by rfl) m_all (by decide +kernel) (pa_cons (pe_lc (own := [("_law_left", 22), ("_law_right", 23)]) (g := (gTup K 2 (gCons (gName 22) (gCons (gName 23) gNil)))) (tt := tYes) rfl nd (pi_zipA (by rfl) m_zip (pa_cons (pv 11) (pa_cons (pv 12) pa_nil))) (blkOk_by (N := ["_law_script", "_law_bag", "_law_turn", "_law_width", "_law_low", "_law_numbers", "_law_some", "_law_more", "_law_one", "_law_other_z", "_law_keys", "_law_a", "_law_b", "_law_up", "_law_down", "_law_found", "_law_whole", "_law_none", "_law_late", "_law_k", "_law_number", "_law_key", "_law_left", "_law_right"]) (sc := defScope s_law) (by decide +kernel)) (fun _ _ _ _ _ => (pg_tup rfl (pgs_cons (pg_name (i := 22) nd rfl (.inl rfl)) (pgs_cons (pg_name (i := 23) nd rfl (.inl rfl)) pgs_nil)))) (fun _ _ _ _ _ => pts_nil) (fun _ _ _ _ _ => (pe_or (pv 22) (pe_one (pe_not (pv 23)))))) pa_nil)) pa_nil)) (by rfl))
  (pss_cons (ps_set (i := 15) nd rfl (.inl rfl) (pe_lst (pa_cons (pe_mX M_Bound_within hr (by decide) passL (pv 8) (pa_cons (pv 9) pa_nil)) (pa_cons (pe_mK (ks := ["other"]) (perm := [0]) MK_Bound_within_other hr (by decide) passL (pv 9) (pk_cons (pv 8) pk_nil)) (pa_cons (pe_cmpR (op_eqO M_Bound_eq hr (by decide)) (pv 8) (pv 9) (nomark _)) (pa_cons (pe_cmpR (op_eqO M_Bound_eq hr (by decide)) (pv 9) (pv 8) (nomark _)) (pa_cons (pe_cmpR (op_neO M_Bound_eq NK_Bound.ne SK_Bound.ins.hm hr (by decide)) (pv 8) (pv 9) (nomark _)) pa_nil)))))))
  (pss_cons (ps_if (pt_not (pt_val (C8.pe_c C__law_like hr (by decide) (by rfl) (pa_cons (pv 15) (pa_cons (pe_lst (pa_cons (pv 13) (pa_cons (pv 14) (pa_cons (pe_and (pv 13) (pe_one (pv 14))) (pa_cons (pe_and (pv 13) (pe_one (pv 14))) (pa_cons (pe_not (pe_and (pv 13) (pe_one (pv 14)))) pa_nil)))))) pa_nil))))) (pss_one (ps_ret pe_bl)) pss_nil)
  (pss_cons (ps_par (i := 16) (j := 17) (by rfl) nd rfl rfl (by decide) rfl rfl (pa_cons (pe_st S_Bound_whole hr (by decide) (C8.pe_gc (by rfl) g_Bound) (pa_cons (pv 3) pa_nil)) (pa_cons (C8.pe_c C__law_bound hr (by decide) (by rfl) (pa_cons (pv 3) (pa_cons (pe_lst pa_nil) pa_nil))) pa_nil)) (by rfl))
  (pss_cons (ps_if (pt_not (pt_val (C8.pe_c C__law_like hr (by decide) (by rfl) (pa_cons (pe_lst (pa_cons (pe_mX M_Bound_within hr (by decide) passL (pv 8) (pa_cons (pv 16) pa_nil)) (pa_cons (pe_mX M_Bound_within hr (by decide) passL (pv 17) (pa_cons (pv 8) pa_nil)) (pa_cons (pe_mX M_Bound_within hr (by decide) passL (pv 16) (pa_cons (pv 8) pa_nil)) (pa_cons (pe_cmpR (op_eqO M_Bound_eq hr (by decide)) (pv 8) (pv 8) (nomark _)) pa_nil))))) (pa_cons (pe_lst (pa_cons pe_bl (pa_cons pe_bl (pa_cons (pe_callB (cr_all rfl) (by rfl) m_all (by decide +kernel) (pa_cons (pv 11) pa_nil)) (pa_cons pe_bl pa_nil))))) pa_nil))))) (pss_one (ps_ret pe_bl)) pss_nil)
  (pss_cons (ps_set (i := 18) nd rfl (.inr rfl) (C8.pe_c C__law_bound hr (by decide) (by rfl) (pa_cons (pe_op og_add pe_int (pe_op og_mod (pe_callTy cg_int (by rfl) m_int (by decide +kernel) (pa_cons (pv 3) pa_nil)) pe_int)) (pa_cons (pe_lst pa_nil) pa_nil))))
  (pss_cons (ps_if (PW.pt (pw_or (pt_cmpR (op_eqO M_Bound_eq hr (by decide)) (pv 8) (pv 18) (nomark _)) (pw_or (pt_cmpR (op_eqO M_Bound_eq hr (by decide)) (pv 18) (pv 17) (nomark _)) (pw_or (pt_cmpR (op_eqO M_Bound_eq hr (by decide)) (pv 8) (pv 6) (nomark _)) (pw_or (pt_cmpR (op_eqO M_Bound_eq hr (by decide)) (pv 8) (C8.pe_mt0 M_Bound_text hr (by decide) (pv 8)) (nomark _)) (pw_or1 (pt_cmpR (op_eqO M_Bound_eq hr (by decide)) (pv 8) pe_non (nomark _)))))))) (pss_one (ps_ret pe_bl)) pss_nil)
  (pss_one (ps_if (pt_not (pt_val (C8.pe_c C__law_like hr (by decide) (by rfl) (pa_cons (pe_triesC C__law_tries ⟨TB, rfl, rfl⟩ (tbs := t_law_tb K) (mk := []) (n := 2) (lams_snoc (lams_snoc lams_nil ⟨⟨_, _, _, false⟩, (lamN0 (N := ["_law_script", "_law_bag", "_law_turn", "_law_width", "_law_low", "_law_numbers", "_law_some", "_law_more", "_law_one", "_law_other_z", "_law_keys", "_law_a", "_law_b", "_law_up", "_law_down", "_law_found", "_law_whole", "_law_none", "_law_late", "_law_k", "_law_number", "_law_key", "_law_left", "_law_right"]) (sc := defScope s_law) (by decide +kernel)), rfl, rfl, fun A outer s H E f c hr => (pe_mX M_Bound_within hr (by decide) (passes_call (takes_of rfl rfl rfl rfl) (fun _ _ _ _ h => h)) (pv 8) (pa_cons (pv 18) pa_nil))⟩) ⟨⟨_, _, _, true⟩, (lamN1 (nm := "_law_z") (N := ["_law_script", "_law_bag", "_law_turn", "_law_width", "_law_low", "_law_numbers", "_law_some", "_law_more", "_law_one", "_law_other_z", "_law_keys", "_law_a", "_law_b", "_law_up", "_law_down", "_law_found", "_law_whole", "_law_none", "_law_late", "_law_k", "_law_number", "_law_key", "_law_left", "_law_right"]) (sc := defScope s_law) (by decide +kernel)), rfl, rfl, fun A outer s H E f c hr => (pe_mX M_Bound_within hr (by decide) (passes_call (takes_of rfl rfl rfl rfl) (fun _ _ _ _ h => h)) (pv 18) (pa_cons (pv 8) pa_nil))⟩) (fun _ => rfl) hr (by decide) (by rfl) (pa_cons (pe_lst (pa_cons (pe_lam (T := ⟨_, _, _, false⟩) (mk := []) ⟨TB, rfl, rfl⟩ (lamN0 (N := ["_law_script", "_law_bag", "_law_turn", "_law_width", "_law_low", "_law_numbers", "_law_some", "_law_more", "_law_one", "_law_other_z", "_law_keys", "_law_a", "_law_b", "_law_up", "_law_down", "_law_found", "_law_whole", "_law_none", "_law_late", "_law_k", "_law_number", "_law_key", "_law_left", "_law_right"]) (sc := defScope s_law) (by decide +kernel)) rfl rfl) (pa_cons (pe_lam (T := ⟨_, _, _, true⟩) (mk := []) ⟨TB, rfl, rfl⟩ (lamN1 (nm := "_law_z") (N := ["_law_script", "_law_bag", "_law_turn", "_law_width", "_law_low", "_law_numbers", "_law_some", "_law_more", "_law_one", "_law_other_z", "_law_keys", "_law_a", "_law_b", "_law_up", "_law_down", "_law_found", "_law_whole", "_law_none", "_law_late", "_law_k", "_law_number", "_law_key", "_law_left", "_law_right"]) (sc := defScope s_law) (by decide +kernel)) rfl rfl) pa_nil))) pa_nil)) (pa_cons (pe_op og_mul (pe_lst (pa_cons (pe_tup (pa_cons pe_str (pa_cons pe_non pa_nil))) pa_nil)) pe_int) pa_nil))))) (pss_one (ps_ret pe_bl)) pss_nil)))))))))))))))))
  (pss_one (ps_ret (pe_and (pe_cmpR (op_eqO M_Bound_eq hr (by decide)) (pe_mkRX N_Bound hr (by decide) (by rfl) passL (pa_cons pe_int (pa_cons (pe_tup (pa_cons pe_non pa_nil)) (pa_cons (pe_tup (pa_cons (pe_tup (pa_cons pe_non (pa_cons pe_int pa_nil))) pa_nil)) (pa_cons (pe_tup (pa_cons (pe_tup (pa_cons pe_int (pa_cons pe_non pa_nil))) pa_nil)) pa_nil))))) (pe_st S_Bound_whole hr (by decide) (C8.pe_gc (by rfl) g_Bound) (pa_cons pe_int pa_nil)) (nomark _)) (pe_one (pe_cmpR (op_neO M_Bound_eq NK_Bound.ne SK_Bound.ins.hm hr (by decide)) (pe_mkRX N_Bound hr (by decide) (by rfl) passL (pa_cons pe_int (pa_cons (pe_tup (pa_cons (pe_tup (pa_cons pe_int (pa_cons pe_int pa_nil))) pa_nil)) (pa_cons (pe_tup (pa_cons (pe_tup (pa_cons pe_int (pa_cons pe_int pa_nil))) pa_nil)) pa_nil)))) (pe_mkRX N_Bound hr (by decide) (by rfl) passL (pa_cons pe_int (pa_cons (pe_tup (pa_cons (pe_tup (pa_cons pe_int (pa_cons pe_int pa_nil))) pa_nil)) pa_nil))) (nomark _)))))))), (sat_law (h _ rfl)).2⟩
theorem metK_Bound_within_other {f : Addr} {fd : FuncData} (F : Fun K "within" "Bound.within" s_Bound_within f fd) (g : Cls K (cls_at K "Bound") ∧ Meth K (cls_at K "Bound") "within" f) (C_need_width : CalX P w K mg base 2 "need_width" (sp_need_width K)) (C_covers : C8.Cal P w K mg base 4 "covers" (sp_covers K) []) : MetK P w K mg base (L2.CX P w) 5 (cls_at K "Bound") "within" (sp_Bound_within K) ["other"] [0] := by
  have G : FnOk P w K mg base (L2.CX P w) (4 + 1) f fd ["self", "other"] (sp_Bound_within K) := by
    refine F.okX sc_Bound_within (fun vs H Q E h => (sat_Bound_within h).1) (fun cdv A outer s H vs Q E hr h => ?_)
    have nd := sc_Bound_within.nd
    exact ⟨_, (pss_cons (ps_expr (pe_cX C_need_width hr (by decide) (by rfl) (passes_call (takes_of rfl rfl rfl rfl) (fun _ _ _ _ h => h)) (pa_cons (pe_fld (pv 0) rfl) (pa_cons (pe_fld (pv 1) rfl) pa_nil))))
  (pss_one (ps_ret (C8.pe_c C_covers hr (by decide) (by rfl) (pa_cons (pv 1) (pa_cons (pv 0) pa_nil)))))), (sat_Bound_within h).2⟩
  exact ⟨f, fd, _, g.1, g.2, G, kbindsM_of F (by decide) fun _ _ _ _ _ _ _ ws hl => match ws, hl with | [_], _ => rfl⟩
end
/-! ### the end -/
theorem all_mk {l : PySem.W.OpenLaw} {w : World} {K : PySem.W.Frag} {h : Heap} {mg : Str → Option Value} {fa : Addr} (X : K.In h) (G : h.Ns mainGlobals mg) (hfa : mg "law" = some (.ref fa))
    {h_EntryError : Addr}
    {h_Missing : Addr}
    {h_NothingLeft : Addr}
    {h_InvalidText : Addr}
    {h_InvalidBox : Addr}
    {h_OtherWidth : Addr}
    {h_Bound : Addr}
    {f0 : Addr} {od0 an0 : Option Addr} {sl0 : Array (Option Value)} {oc0 kV0 dc0 pm0 cd0 ct0 : Value}
    {f1 : Addr} {od1 an1 : Option Addr} {sl1 : Array (Option Value)} {oc1 kV1 dc1 pm1 cd1 ct1 : Value}
    {f2 : Addr} {od2 an2 : Option Addr} {sl2 : Array (Option Value)} {oc2 kV2 dc2 pm2 cd2 ct2 : Value}
    {f3 : Addr} {od3 an3 : Option Addr} {sl3 : Array (Option Value)} {oc3 kV3 dc3 pm3 cd3 ct3 : Value}
    {f4 : Addr} {od4 an4 : Option Addr} {sl4 : Array (Option Value)} {oc4 kV4 dc4 pm4 cd4 ct4 : Value}
    {f5 : Addr} {od5 an5 : Option Addr} {sl5 : Array (Option Value)} {oc5 kV5 dc5 pm5 cd5 ct5 : Value}
    {f6 : Addr} {od6 an6 : Option Addr} {sl6 : Array (Option Value)} {oc6 kV6 dc6 pm6 cd6 ct6 : Value}
    {f7 : Addr} {od7 an7 : Option Addr} {sl7 : Array (Option Value)} {oc7 kV7 dc7 pm7 cd7 ct7 : Value}
    {f8 : Addr} {od8 an8 : Option Addr} {sl8 : Array (Option Value)} {oc8 kV8 dc8 pm8 cd8 ct8 : Value}
    {f9 : Addr} {od9 an9 : Option Addr} {sl9 : Array (Option Value)} {oc9 kV9 dc9 pm9 cd9 ct9 : Value}
    {f10 : Addr} {od10 an10 : Option Addr} {sl10 : Array (Option Value)} {oc10 kV10 dc10 pm10 cd10 ct10 : Value}
    {f11 : Addr} {od11 an11 : Option Addr} {sl11 : Array (Option Value)} {oc11 kV11 dc11 pm11 cd11 ct11 : Value}
    {f12 : Addr} {od12 an12 : Option Addr} {sl12 : Array (Option Value)} {oc12 kV12 dc12 pm12 cd12 ct12 : Value}
    {f13 : Addr} {od13 an13 : Option Addr} {sl13 : Array (Option Value)} {oc13 kV13 dc13 pm13 cd13 ct13 : Value}
    {f14 : Addr} {od14 an14 : Option Addr} {sl14 : Array (Option Value)} {oc14 kV14 dc14 pm14 cd14 ct14 : Value}
    {f15 : Addr} {od15 an15 : Option Addr} {sl15 : Array (Option Value)} {oc15 kV15 dc15 pm15 cd15 ct15 : Value}
    {f16 : Addr} {od16 an16 : Option Addr} {sl16 : Array (Option Value)} {oc16 kV16 dc16 pm16 cd16 ct16 : Value}
    {f17 : Addr} {od17 an17 : Option Addr} {sl17 : Array (Option Value)} {oc17 kV17 dc17 pm17 cd17 ct17 : Value}
    {f18 : Addr} {od18 an18 : Option Addr} {sl18 : Array (Option Value)} {oc18 kV18 dc18 pm18 cd18 ct18 : Value}
    {p18 : Addr} {r18 : List Value}
    {f19 : Addr} {od19 an19 : Option Addr} {sl19 : Array (Option Value)} {oc19 kV19 dc19 pm19 cd19 ct19 : Value}
    {p19 : Addr} {r19 : List Value}
    {f20 : Addr} {od20 an20 : Option Addr} {sl20 : Array (Option Value)} {oc20 kV20 dc20 pm20 cd20 ct20 : Value}
    {f21 : Addr} {od21 an21 : Option Addr} {sl21 : Array (Option Value)} {oc21 kV21 dc21 pm21 cd21 ct21 : Value}
    {f22 : Addr} {od22 an22 : Option Addr} {sl22 : Array (Option Value)} {oc22 kV22 dc22 pm22 cd22 ct22 : Value}
    {f23 : Addr} {od23 an23 : Option Addr} {sl23 : Array (Option Value)} {oc23 kV23 dc23 pm23 cd23 ct23 : Value}
    {f24 : Addr} {od24 an24 : Option Addr} {sl24 : Array (Option Value)} {oc24 kV24 dc24 pm24 cd24 ct24 : Value}
    {f25 : Addr} {od25 an25 : Option Addr} {sl25 : Array (Option Value)} {oc25 kV25 dc25 pm25 cd25 ct25 : Value}
    {f26 : Addr} {od26 an26 : Option Addr} {sl26 : Array (Option Value)} {oc26 kV26 dc26 pm26 cd26 ct26 : Value}
    {f27 : Addr} {od27 an27 : Option Addr} {sl27 : Array (Option Value)} {oc27 kV27 dc27 pm27 cd27 ct27 : Value}
    {f28 : Addr} {od28 an28 : Option Addr} {sl28 : Array (Option Value)} {oc28 kV28 dc28 pm28 cd28 ct28 : Value}
    {f29 : Addr} {od29 an29 : Option Addr} {sl29 : Array (Option Value)} {oc29 kV29 dc29 pm29 cd29 ct29 : Value}
    {f30 : Addr} {od30 an30 : Option Addr} {sl30 : Array (Option Value)} {oc30 kV30 dc30 pm30 cd30 ct30 : Value}
    {f31 : Addr} {od31 an31 : Option Addr} {sl31 : Array (Option Value)} {oc31 kV31 dc31 pm31 cd31 ct31 : Value}
    {f32 : Addr} {od32 an32 : Option Addr} {sl32 : Array (Option Value)} {oc32 kV32 dc32 pm32 cd32 ct32 : Value}
    {f33 : Addr} {od33 an33 : Option Addr} {sl33 : Array (Option Value)} {oc33 kV33 dc33 pm33 cd33 ct33 : Value}
    {f34 : Addr} {od34 an34 : Option Addr} {sl34 : Array (Option Value)} {oc34 kV34 dc34 pm34 cd34 ct34 : Value}
    {f35 : Addr} {od35 an35 : Option Addr} {sl35 : Array (Option Value)} {oc35 kV35 dc35 pm35 cd35 ct35 : Value}
    {f36 : Addr} {od36 an36 : Option Addr} {sl36 : Array (Option Value)} {oc36 kV36 dc36 pm36 cd36 ct36 : Value}
    {f37 : Addr} {od37 an37 : Option Addr} {sl37 : Array (Option Value)} {oc37 kV37 dc37 pm37 cd37 ct37 : Value}
    {f38 : Addr} {od38 an38 : Option Addr} {sl38 : Array (Option Value)} {oc38 kV38 dc38 pm38 cd38 ct38 : Value}
    {f39 : Addr} {od39 an39 : Option Addr} {sl39 : Array (Option Value)} {oc39 kV39 dc39 pm39 cd39 ct39 : Value}
    {f40 : Addr} {od40 an40 : Option Addr} {sl40 : Array (Option Value)} {oc40 kV40 dc40 pm40 ct40 : Value}
    {h_cl h_P : Addr} {e_cl : Value} {d_cl : Option Addr} {vs_cl : Array Value} {sl_cl : Array (Option Value)}
    {fI_InvalidText : Addr}
    {fI_InvalidBox : Addr}
    {fI_OtherWidth : Addr}
    {t_FIGURES : Tok}
    (aC_EntryError : PySem.W.nsIn K mainGlobals "EntryError" = some (some (.ref h_EntryError)))
    (aC_Missing : PySem.W.nsIn K mainGlobals "Missing" = some (some (.ref h_Missing)))
    (aC_NothingLeft : PySem.W.nsIn K mainGlobals "NothingLeft" = some (some (.ref h_NothingLeft)))
    (aC_InvalidText : PySem.W.nsIn K mainGlobals "InvalidText" = some (some (.ref h_InvalidText)))
    (aC_InvalidBox : PySem.W.nsIn K mainGlobals "InvalidBox" = some (some (.ref h_InvalidBox)))
    (aC_OtherWidth : PySem.W.nsIn K mainGlobals "OtherWidth" = some (some (.ref h_OtherWidth)))
    (aC_Bound : PySem.W.nsIn K mainGlobals "Bound" = some (some (.ref h_Bound)))
    (pg_Bound : PySem.W.plainGet K h_Bound Str.empty = true) (hd_Bound : PySem.W.hasDictIn K h_Bound = true) (po_Bound : PySem.W.plainOver K h_Bound = true) (sa_Bound : PySem.W.findIn K (.ref h_Bound) "__setattr__" = some (some (.builtin "object.__setattr__"))) (mk_Bound : PySem.W.makesIn K h_Bound = true) (kc_Bound : PySem.W.keepIn K (.ref h_Bound) = true)
    (ha_Bound : PySem.W.findIn K (.ref h_Bound) "__class__" = some (some (.builtin "object.__class__"))) (hn_Bound : PySem.W.specialIn K (.builtin "object.__class__") "__get__" = some (some (.builtin "getset_descriptor.__get__"))) (ht_Bound : PySem.W.takesIn K (.builtin "object.__class__") = some true) (hm_Bound : PySem.W.mroIn K h_Bound (.type "object") = some true)
    (n_Bound_width : PySem.W.findIn K (.ref h_Bound) "width" = some none)
    (n_Bound__boxes : PySem.W.findIn K (.ref h_Bound) "_boxes" = some none)
    (rd_Bound : PySem.W.readsIn K h_Bound (.type "type") = true) (ga_Bound : PySem.W.specialIn K (.ref h_Bound) "__getattribute__" = some (some (.builtin "type.__getattribute__")))
    (a0 : PySem.W.nsIn K mainGlobals "is_number" = some (some (.ref f0))) (l0 : K.lookup f0 = some ⟨oc0, od0, .func (PySem.W.fnOf "is_number" "is_number" (defArgs s_is_number) (defBody s_is_number) (defScope s_is_number) .none kV0 dc0 pm0 an0 cd0 ct0), sl0⟩) (c0 : PySem.W.codeIn K cd0 "is_number" = true) (k0 : PySem.W.keepIn K (.ref f0) = true)
    (a1 : PySem.W.nsIn K mainGlobals "is_value" = some (some (.ref f1))) (l1 : K.lookup f1 = some ⟨oc1, od1, .func (PySem.W.fnOf "is_value" "is_value" (defArgs s_is_value) (defBody s_is_value) (defScope s_is_value) .none kV1 dc1 pm1 an1 cd1 ct1), sl1⟩) (c1 : PySem.W.codeIn K cd1 "is_value" = true) (k1 : PySem.W.keepIn K (.ref f1) = true)
    (a2 : PySem.W.nsIn K mainGlobals "read_number" = some (some (.ref f2))) (l2 : K.lookup f2 = some ⟨oc2, od2, .func (PySem.W.fnOf "read_number" "read_number" (defArgs s_read_number) (defBody s_read_number) (defScope s_read_number) .none kV2 dc2 pm2 an2 cd2 ct2), sl2⟩) (c2 : PySem.W.codeIn K cd2 "read_number" = true) (k2 : PySem.W.keepIn K (.ref f2) = true)
    (a3 : PySem.W.nsIn K mainGlobals "is_stretch" = some (some (.ref f3))) (l3 : K.lookup f3 = some ⟨oc3, od3, .func (PySem.W.fnOf "is_stretch" "is_stretch" (defArgs s_is_stretch) (defBody s_is_stretch) (defScope s_is_stretch) .none kV3 dc3 pm3 an3 cd3 ct3), sl3⟩) (c3 : PySem.W.codeIn K cd3 "is_stretch" = true) (k3 : PySem.W.keepIn K (.ref f3) = true)
    (a4 : PySem.W.nsIn K mainGlobals "common" = some (some (.ref f4))) (l4 : K.lookup f4 = some ⟨oc4, od4, .func (PySem.W.fnOf "common" "common" (defArgs s_common) (defBody s_common) (defScope s_common) .none kV4 dc4 pm4 an4 cd4 ct4), sl4⟩) (c4 : PySem.W.codeIn K cd4 "common" = true) (k4 : PySem.W.keepIn K (.ref f4) = true)
    (a5 : PySem.W.nsIn K mainGlobals "side_text" = some (some (.ref f5))) (l5 : K.lookup f5 = some ⟨oc5, od5, .func (PySem.W.fnOf "side_text" "side_text" (defArgs s_side_text) (defBody s_side_text) (defScope s_side_text) .none kV5 dc5 pm5 an5 cd5 ct5), sl5⟩) (c5 : PySem.W.codeIn K cd5 "side_text" = true) (k5 : PySem.W.keepIn K (.ref f5) = true)
    (a6 : PySem.W.nsIn K mainGlobals "stretch_text" = some (some (.ref f6))) (l6 : K.lookup f6 = some ⟨oc6, od6, .func (PySem.W.fnOf "stretch_text" "stretch_text" (defArgs s_stretch_text) (defBody s_stretch_text) (defScope s_stretch_text) .none kV6 dc6 pm6 an6 cd6 ct6), sl6⟩) (c6 : PySem.W.codeIn K cd6 "stretch_text" = true) (k6 : PySem.W.keepIn K (.ref f6) = true)
    (a7 : PySem.W.nsIn K mainGlobals "read_side" = some (some (.ref f7))) (l7 : K.lookup f7 = some ⟨oc7, od7, .func (PySem.W.fnOf "read_side" "read_side" (defArgs s_read_side) (defBody s_read_side) (defScope s_read_side) .none kV7 dc7 pm7 an7 cd7 ct7), sl7⟩) (c7 : PySem.W.codeIn K cd7 "read_side" = true) (k7 : PySem.W.keepIn K (.ref f7) = true)
    (a8 : PySem.W.nsIn K mainGlobals "read_stretch" = some (some (.ref f8))) (l8 : K.lookup f8 = some ⟨oc8, od8, .func (PySem.W.fnOf "read_stretch" "read_stretch" (defArgs s_read_stretch) (defBody s_read_stretch) (defScope s_read_stretch) .none kV8 dc8 pm8 an8 cd8 ct8), sl8⟩) (c8 : PySem.W.codeIn K cd8 "read_stretch" = true) (k8 : PySem.W.keepIn K (.ref f8) = true)
    (a9 : PySem.W.nsIn K mainGlobals "is_box" = some (some (.ref f9))) (l9 : K.lookup f9 = some ⟨oc9, od9, .func (PySem.W.fnOf "is_box" "is_box" (defArgs s_is_box) (defBody s_is_box) (defScope s_is_box) .none kV9 dc9 pm9 an9 cd9 ct9), sl9⟩) (c9 : PySem.W.codeIn K cd9 "is_box" = true) (k9 : PySem.W.keepIn K (.ref f9) = true)
    (a10 : PySem.W.nsIn K mainGlobals "stretch_minus" = some (some (.ref f10))) (l10 : K.lookup f10 = some ⟨oc10, od10, .func (PySem.W.fnOf "stretch_minus" "stretch_minus" (defArgs s_stretch_minus) (defBody s_stretch_minus) (defScope s_stretch_minus) .none kV10 dc10 pm10 an10 cd10 ct10), sl10⟩) (c10 : PySem.W.codeIn K cd10 "stretch_minus" = true) (k10 : PySem.W.keepIn K (.ref f10) = true)
    (a11 : PySem.W.nsIn K mainGlobals "box_common" = some (some (.ref f11))) (l11 : K.lookup f11 = some ⟨oc11, od11, .func (PySem.W.fnOf "box_common" "box_common" (defArgs s_box_common) (defBody s_box_common) (defScope s_box_common) .none kV11 dc11 pm11 an11 cd11 ct11), sl11⟩) (c11 : PySem.W.codeIn K cd11 "box_common" = true) (k11 : PySem.W.keepIn K (.ref f11) = true)
    (a12 : PySem.W.nsIn K mainGlobals "box_minus" = some (some (.ref f12))) (l12 : K.lookup f12 = some ⟨oc12, od12, .func (PySem.W.fnOf "box_minus" "box_minus" (defArgs s_box_minus) (defBody s_box_minus) (defScope s_box_minus) .none kV12 dc12 pm12 an12 cd12 ct12), sl12⟩) (c12 : PySem.W.codeIn K cd12 "box_minus" = true) (k12 : PySem.W.keepIn K (.ref f12) = true)
    (a13 : PySem.W.findIn K (.ref h_Bound) "__init__" = some (some (.ref f13))) (i13 : PySem.W.isFn K (.ref f13) = true) (l13 : K.lookup f13 = some ⟨oc13, od13, .func (PySem.W.fnOf "__init__" "Bound.__init__" (defArgs s_Bound_init) (defBody s_Bound_init) (defScope s_Bound_init) .none kV13 dc13 pm13 an13 cd13 ct13), sl13⟩) (c13 : PySem.W.codeIn K cd13 "Bound.__init__" = true) (k13 : PySem.W.keepIn K (.ref f13) = true)
    (a14 : PySem.W.findIn K (.ref h_Bound) "__eq__" = some (some (.ref f14))) (i14 : PySem.W.isFn K (.ref f14) = true) (l14 : K.lookup f14 = some ⟨oc14, od14, .func (PySem.W.fnOf "__eq__" "Bound.__eq__" (defArgs s_Bound_eq) (defBody s_Bound_eq) (defScope s_Bound_eq) .none kV14 dc14 pm14 an14 cd14 ct14), sl14⟩) (c14 : PySem.W.codeIn K cd14 "Bound.__eq__" = true) (k14 : PySem.W.keepIn K (.ref f14) = true)
    (a15 : PySem.W.findIn K (.ref h_Bound) "boxes" = some (some (.ref f15))) (i15 : PySem.W.isFn K (.ref f15) = true) (l15 : K.lookup f15 = some ⟨oc15, od15, .func (PySem.W.fnOf "boxes" "Bound.boxes" (defArgs s_Bound_boxes) (defBody s_Bound_boxes) (defScope s_Bound_boxes) .none kV15 dc15 pm15 an15 cd15 ct15), sl15⟩) (c15 : PySem.W.codeIn K cd15 "Bound.boxes" = true) (k15 : PySem.W.keepIn K (.ref f15) = true)
    (a16 : PySem.W.findIn K (.ref h_Bound) "within" = some (some (.ref f16))) (i16 : PySem.W.isFn K (.ref f16) = true) (l16 : K.lookup f16 = some ⟨oc16, od16, .func (PySem.W.fnOf "within" "Bound.within" (defArgs s_Bound_within) (defBody s_Bound_within) (defScope s_Bound_within) .none kV16 dc16 pm16 an16 cd16 ct16), sl16⟩) (c16 : PySem.W.codeIn K cd16 "Bound.within" = true) (k16 : PySem.W.keepIn K (.ref f16) = true)
    (a17 : PySem.W.findIn K (.ref h_Bound) "text" = some (some (.ref f17))) (i17 : PySem.W.isFn K (.ref f17) = true) (l17 : K.lookup f17 = some ⟨oc17, od17, .func (PySem.W.fnOf "text" "Bound.text" (defArgs s_Bound_text) (defBody s_Bound_text) (defScope s_Bound_text) .none kV17 dc17 pm17 an17 cd17 ct17), sl17⟩) (c17 : PySem.W.codeIn K cd17 "Bound.text" = true) (k17 : PySem.W.keepIn K (.ref f17) = true)
    (a18 : PySem.W.findCls K (.ref h_Bound) (.type "type") "read" = some (.get (.builtin "staticmethod.__get__") (.ref p18) .none (.ref h_Bound))) (e18 : PySem.W.recIn K p18 "staticmethod" = some (.ref f18 :: r18)) (l18 : K.lookup f18 = some ⟨oc18, od18, .func (PySem.W.fnOf "read" "Bound.read" (defArgs s_Bound_read) (defBody s_Bound_read) (defScope s_Bound_read) .none kV18 dc18 pm18 an18 cd18 ct18), sl18⟩) (c18 : PySem.W.codeIn K cd18 "Bound.read" = true) (k18 : PySem.W.keepIn K (.ref f18) = true)
    (a19 : PySem.W.findCls K (.ref h_Bound) (.type "type") "whole" = some (.get (.builtin "staticmethod.__get__") (.ref p19) .none (.ref h_Bound))) (e19 : PySem.W.recIn K p19 "staticmethod" = some (.ref f19 :: r19)) (l19 : K.lookup f19 = some ⟨oc19, od19, .func (PySem.W.fnOf "whole" "Bound.whole" (defArgs s_Bound_whole) (defBody s_Bound_whole) (defScope s_Bound_whole) .none kV19 dc19 pm19 an19 cd19 ct19), sl19⟩) (c19 : PySem.W.codeIn K cd19 "Bound.whole" = true) (k19 : PySem.W.keepIn K (.ref f19) = true)
    (a20 : PySem.W.nsIn K mainGlobals "need_width" = some (some (.ref f20))) (l20 : K.lookup f20 = some ⟨oc20, od20, .func (PySem.W.fnOf "need_width" "need_width" (defArgs s_need_width) (defBody s_need_width) (defScope s_need_width) .none kV20 dc20 pm20 an20 cd20 ct20), sl20⟩) (c20 : PySem.W.codeIn K cd20 "need_width" = true) (k20 : PySem.W.keepIn K (.ref f20) = true)
    (a21 : PySem.W.nsIn K mainGlobals "covers" = some (some (.ref f21))) (l21 : K.lookup f21 = some ⟨oc21, od21, .func (PySem.W.fnOf "covers" "covers" (defArgs s_covers) (defBody s_covers) (defScope s_covers) .none kV21 dc21 pm21 an21 cd21 ct21), sl21⟩) (c21 : PySem.W.codeIn K cd21 "covers" = true) (k21 : PySem.W.keepIn K (.ref f21) = true)
    (a22 : PySem.W.nsIn K mainGlobals "read_bound" = some (some (.ref f22))) (l22 : K.lookup f22 = some ⟨oc22, od22, .func (PySem.W.fnOf "read_bound" "read_bound" (defArgs s_read_bound) (defBody s_read_bound) (defScope s_read_bound) .none kV22 dc22 pm22 an22 cd22 ct22), sl22⟩) (c22 : PySem.W.codeIn K cd22 "read_bound" = true) (k22 : PySem.W.keepIn K (.ref f22) = true)
    (a23 : PySem.W.nsIn K mainGlobals "_law_open" = some (some (.ref f23))) (l23 : K.lookup f23 = some ⟨oc23, od23, .func (PySem.W.fnOf "_law_open" "_law_open" (defArgs s_open) (defBody s_open) (defScope s_open) .none kV23 dc23 pm23 an23 cd23 ct23), sl23⟩) (c23 : PySem.W.codeIn K cd23 "_law_open" = true) (k23 : PySem.W.keepIn K (.ref f23) = true)
    (a24 : PySem.W.nsIn K mainGlobals "_law_draw" = some (some (.ref f24))) (l24 : K.lookup f24 = some ⟨oc24, od24, .func (PySem.W.fnOf "_law_draw" "_law_draw" (defArgs s_draw) (defBody s_draw) (defScope s_draw) .none kV24 dc24 pm24 an24 cd24 ct24), sl24⟩) (c24 : PySem.W.codeIn K cd24 "_law_draw" = true) (k24 : PySem.W.keepIn K (.ref f24) = true)
    (a25 : PySem.W.nsIn K mainGlobals "_law_of" = some (some (.ref f25))) (l25 : K.lookup f25 = some ⟨oc25, od25, .func (PySem.W.fnOf "_law_of" "_law_of" (defArgs s_of) (defBody s_of) (defScope s_of) .none kV25 dc25 pm25 an25 cd25 ct25), sl25⟩) (c25 : PySem.W.codeIn K cd25 "_law_of" = true) (k25 : PySem.W.keepIn K (.ref f25) = true)
    (a26 : PySem.W.nsIn K mainGlobals "_law_like" = some (some (.ref f26))) (l26 : K.lookup f26 = some ⟨oc26, od26, .func (PySem.W.fnOf "_law_like" "_law_like" (defArgs s_like) (defBody s_like) (defScope s_like) .none kV26 dc26 pm26 an26 cd26 ct26), sl26⟩) (c26 : PySem.W.codeIn K cd26 "_law_like" = true) (k26 : PySem.W.keepIn K (.ref f26) = true)
    (a27 : PySem.W.nsIn K mainGlobals "_law_field" = some (some (.ref f27))) (l27 : K.lookup f27 = some ⟨oc27, od27, .func (PySem.W.fnOf "_law_field" "_law_field" (defArgs s_field) (defBody s_field) (defScope s_field) .none kV27 dc27 pm27 an27 cd27 ct27), sl27⟩) (c27 : PySem.W.codeIn K cd27 "_law_field" = true) (k27 : PySem.W.keepIn K (.ref f27) = true)
    (a28 : PySem.W.nsIn K mainGlobals "_law_try" = some (some (.ref f28))) (l28 : K.lookup f28 = some ⟨oc28, od28, .func (PySem.W.fnOf "_law_try" "_law_try" (defArgs s_try) (defBody s_try) (defScope s_try) .none kV28 dc28 pm28 an28 cd28 ct28), sl28⟩) (c28 : PySem.W.codeIn K cd28 "_law_try" = true) (k28 : PySem.W.keepIn K (.ref f28) = true)
    (a29 : PySem.W.nsIn K mainGlobals "_law_tries" = some (some (.ref f29))) (l29 : K.lookup f29 = some ⟨oc29, od29, .func (PySem.W.fnOf "_law_tries" "_law_tries" (defArgs s_tries) (defBody s_tries) (defScope s_tries) .none kV29 dc29 pm29 an29 cd29 ct29), sl29⟩) (c29 : PySem.W.codeIn K cd29 "_law_tries" = true) (k29 : PySem.W.keepIn K (.ref f29) = true)
    (a30 : PySem.W.nsIn K mainGlobals "_law_products" = some (some (.ref f30))) (l30 : K.lookup f30 = some ⟨oc30, od30, .func (PySem.W.fnOf "_law_products" "_law_products" (defArgs s_products) (defBody s_products) (defScope s_products) .none kV30 dc30 pm30 an30 cd30 ct30), sl30⟩) (c30 : PySem.W.codeIn K cd30 "_law_products" = true) (k30 : PySem.W.keepIn K (.ref f30) = true)
    (a31 : PySem.W.nsIn K mainGlobals "_law_stretch" = some (some (.ref f31))) (l31 : K.lookup f31 = some ⟨oc31, od31, .func (PySem.W.fnOf "_law_stretch" "_law_stretch" (defArgs s_stretch) (defBody s_stretch) (defScope s_stretch) .none kV31 dc31 pm31 an31 cd31 ct31), sl31⟩) (c31 : PySem.W.codeIn K cd31 "_law_stretch" = true) (k31 : PySem.W.keepIn K (.ref f31) = true)
    (a32 : PySem.W.nsIn K mainGlobals "_law_in" = some (some (.ref f32))) (l32 : K.lookup f32 = some ⟨oc32, od32, .func (PySem.W.fnOf "_law_in" "_law_in" (defArgs s_in) (defBody s_in) (defScope s_in) .none kV32 dc32 pm32 an32 cd32 ct32), sl32⟩) (c32 : PySem.W.codeIn K cd32 "_law_in" = true) (k32 : PySem.W.keepIn K (.ref f32) = true)
    (a33 : PySem.W.nsIn K mainGlobals "_law_boxes" = some (some (.ref f33))) (l33 : K.lookup f33 = some ⟨oc33, od33, .func (PySem.W.fnOf "_law_boxes" "_law_boxes" (defArgs s_boxes) (defBody s_boxes) (defScope s_boxes) .none kV33 dc33 pm33 an33 cd33 ct33), sl33⟩) (c33 : PySem.W.codeIn K cd33 "_law_boxes" = true) (k33 : PySem.W.keepIn K (.ref f33) = true)
    (a34 : PySem.W.nsIn K mainGlobals "_law_key_in" = some (some (.ref f34))) (l34 : K.lookup f34 = some ⟨oc34, od34, .func (PySem.W.fnOf "_law_key_in" "_law_key_in" (defArgs s_key_in) (defBody s_key_in) (defScope s_key_in) .none kV34 dc34 pm34 an34 cd34 ct34), sl34⟩) (c34 : PySem.W.codeIn K cd34 "_law_key_in" = true) (k34 : PySem.W.keepIn K (.ref f34) = true)
    (a35 : PySem.W.nsIn K mainGlobals "_law_side" = some (some (.ref f35))) (l35 : K.lookup f35 = some ⟨oc35, od35, .func (PySem.W.fnOf "_law_side" "_law_side" (defArgs s_side) (defBody s_side) (defScope s_side) .none kV35 dc35 pm35 an35 cd35 ct35), sl35⟩) (c35 : PySem.W.codeIn K cd35 "_law_side" = true) (k35 : PySem.W.keepIn K (.ref f35) = true)
    (a36 : PySem.W.nsIn K mainGlobals "_law_bound_text" = some (some (.ref f36))) (l36 : K.lookup f36 = some ⟨oc36, od36, .func (PySem.W.fnOf "_law_bound_text" "_law_bound_text" (defArgs s_bound_text) (defBody s_bound_text) (defScope s_bound_text) .none kV36 dc36 pm36 an36 cd36 ct36), sl36⟩) (c36 : PySem.W.codeIn K cd36 "_law_bound_text" = true) (k36 : PySem.W.keepIn K (.ref f36) = true)
    (a37 : PySem.W.nsIn K mainGlobals "_law_bound" = some (some (.ref f37))) (l37 : K.lookup f37 = some ⟨oc37, od37, .func (PySem.W.fnOf "_law_bound" "_law_bound" (defArgs s_bound) (defBody s_bound) (defScope s_bound) .none kV37 dc37 pm37 an37 cd37 ct37), sl37⟩) (c37 : PySem.W.codeIn K cd37 "_law_bound" = true) (k37 : PySem.W.keepIn K (.ref f37) = true)
    (a38 : PySem.W.nsIn K mainGlobals "_law_sides" = some (some (.ref f38))) (l38 : K.lookup f38 = some ⟨oc38, od38, .func (PySem.W.fnOf "_law_sides" "_law_sides" (defArgs s_sides) (defBody s_sides) (defScope s_sides) .none kV38 dc38 pm38 an38 cd38 ct38), sl38⟩) (c38 : PySem.W.codeIn K cd38 "_law_sides" = true) (k38 : PySem.W.keepIn K (.ref f38) = true)
    (a39 : PySem.W.nsIn K mainGlobals "_law_cut_boxes" = some (some (.ref f39))) (l39 : K.lookup f39 = some ⟨oc39, od39, .func (PySem.W.fnOf "_law_cut_boxes" "_law_cut_boxes" (defArgs s_cut_boxes) (defBody s_cut_boxes) (defScope s_cut_boxes) .none kV39 dc39 pm39 an39 cd39 ct39), sl39⟩) (c39 : PySem.W.codeIn K cd39 "_law_cut_boxes" = true) (k39 : PySem.W.keepIn K (.ref f39) = true)
    (a40 : PySem.W.nsIn K mainGlobals "law" = some (some (.ref f40))) (l40 : K.lookup f40 = some ⟨oc40, od40, .func (PySem.W.fnOf "law" "law" (defArgs s_law) (defBody s_law) (defScope s_law) .none kV40 dc40 pm40 an40 (.ref h_cl) ct40), sl40⟩) (c40 : PySem.W.codeIn K (.ref h_cl) "law" = true) (k40 : PySem.W.keepIn K (.ref f40) = true)
    (t_code : K.lookup h_cl = some ⟨e_cl, d_cl, .fields vs_cl, sl_cl⟩) (t_11 : vs_cl[11]? = some (.ref h_P)) (t_no : K.lookup h_P = none) (t_hd : PySem.W.codeHdIn K h_cl h_P = true) (own : LamX.OwnTab K fa h)
    (tx_InvalidText : PySem.ExN.Txt l.prog K "InvalidText" "given" h_InvalidText fI_InvalidText) (xg_InvalidText : PySem.W.findIn K (.ref h_InvalidText) "__getattribute__" = some (some (.builtin "BaseException.__getattribute__"))) (xa_InvalidText : PySem.W.findIn K (.ref h_InvalidText) "__getattr__" = some none) (xb_InvalidText : PySem.W.subIn K (.ref h_InvalidText) (.type "BaseException") = some true) (xd_InvalidText : PySem.W.hasDictIn K h_InvalidText = true) (xc_InvalidText : PySem.W.findIn K (.ref h_InvalidText) "code" = some none) (xn_InvalidText : PySem.W.findIn K (.ref h_InvalidText) "given" = some none) (xm_InvalidText : PySem.W.exmAny K (.ref h_InvalidText) [.ref h_EntryError, .ref h_Missing, .ref h_NothingLeft] = some true)
    (tx_InvalidBox : PySem.ExN.Txt l.prog K "InvalidBox" "at" h_InvalidBox fI_InvalidBox) (xg_InvalidBox : PySem.W.findIn K (.ref h_InvalidBox) "__getattribute__" = some (some (.builtin "BaseException.__getattribute__"))) (xa_InvalidBox : PySem.W.findIn K (.ref h_InvalidBox) "__getattr__" = some none) (xb_InvalidBox : PySem.W.subIn K (.ref h_InvalidBox) (.type "BaseException") = some true) (xd_InvalidBox : PySem.W.hasDictIn K h_InvalidBox = true) (xc_InvalidBox : PySem.W.findIn K (.ref h_InvalidBox) "code" = some none) (xn_InvalidBox : PySem.W.findIn K (.ref h_InvalidBox) "at" = some none) (xm_InvalidBox : PySem.W.exmAny K (.ref h_InvalidBox) [.ref h_EntryError, .ref h_Missing, .ref h_NothingLeft] = some true)
    (tz_OtherWidth : PySem.ExZ.Txt0 l.prog K "OtherWidth" h_OtherWidth fI_OtherWidth) (xg_OtherWidth : PySem.W.findIn K (.ref h_OtherWidth) "__getattribute__" = some (some (.builtin "BaseException.__getattribute__"))) (xa_OtherWidth : PySem.W.findIn K (.ref h_OtherWidth) "__getattr__" = some none) (xb_OtherWidth : PySem.W.subIn K (.ref h_OtherWidth) (.type "BaseException") = some true) (xd_OtherWidth : PySem.W.hasDictIn K h_OtherWidth = true) (xc_OtherWidth : PySem.W.findIn K (.ref h_OtherWidth) "code" = some none) (xm_OtherWidth : PySem.W.exmAny K (.ref h_OtherWidth) [.ref h_EntryError, .ref h_Missing, .ref h_NothingLeft] = some true)
    (kb_non : PySem.W.kitOne K (.type "NoneType") (.ref h_Bound) = some false) (kb_str : PySem.W.kitOne K (.type "str") (.ref h_Bound) = some false) (kb_lst : PySem.W.kitOne K (.type "list") (.ref h_Bound) = some false) (kb_ne : PySem.W.findIn K (.ref h_Bound) "__ne__" = some (some (.builtin "object.__ne__")))
    (z_super : PySem.W.nsIn K mainGlobals "super" = some none)
    (z_all : PySem.W.nsIn K mainGlobals "all" = some none)
    (z_any : PySem.W.nsIn K mainGlobals "any" = some none)
    (z_bool : PySem.W.nsIn K mainGlobals "bool" = some none)
    (z_enumerate : PySem.W.nsIn K mainGlobals "enumerate" = some none)
    (z_int : PySem.W.nsIn K mainGlobals "int" = some none)
    (z_isinstance : PySem.W.nsIn K mainGlobals "isinstance" = some none)
    (z_len : PySem.W.nsIn K mainGlobals "len" = some none)
    (z_list : PySem.W.nsIn K mainGlobals "list" = some none)
    (z_max : PySem.W.nsIn K mainGlobals "max" = some none)
    (z_min : PySem.W.nsIn K mainGlobals "min" = some none)
    (z_range : PySem.W.nsIn K mainGlobals "range" = some none)
    (z_set : PySem.W.nsIn K mainGlobals "set" = some none)
    (z_sorted : PySem.W.nsIn K mainGlobals "sorted" = some none)
    (z_str : PySem.W.nsIn K mainGlobals "str" = some none)
    (z_tuple : PySem.W.nsIn K mainGlobals "tuple" = some none)
    (z_zip : PySem.W.nsIn K mainGlobals "zip" = some none)
    (w_FIGURES : PySem.W.nsIn K mainGlobals "FIGURES" = some (some (.str "0123456789" t_FIGURES))) :
    LamX.LawAtS l w K CX0 10 63 "_law_script" mg fa h := by
  obtain rfl := cls_at_of aC_EntryError
  have g_EntryError : ∃ u, mg "EntryError" = some u ∧ RelV (.ref (cls_at K "EntryError")) u := ⟨_, PySem.W.mg_of X G aC_EntryError, rfl⟩
  obtain rfl := cls_at_of aC_Missing
  have g_Missing : ∃ u, mg "Missing" = some u ∧ RelV (.ref (cls_at K "Missing")) u := ⟨_, PySem.W.mg_of X G aC_Missing, rfl⟩
  obtain rfl := cls_at_of aC_NothingLeft
  have g_NothingLeft : ∃ u, mg "NothingLeft" = some u ∧ RelV (.ref (cls_at K "NothingLeft")) u := ⟨_, PySem.W.mg_of X G aC_NothingLeft, rfl⟩
  obtain rfl := cls_at_of aC_InvalidText
  have g_InvalidText : ∃ u, mg "InvalidText" = some u ∧ RelV (.ref (cls_at K "InvalidText")) u := ⟨_, PySem.W.mg_of X G aC_InvalidText, rfl⟩
  obtain rfl := cls_at_of aC_InvalidBox
  have g_InvalidBox : ∃ u, mg "InvalidBox" = some u ∧ RelV (.ref (cls_at K "InvalidBox")) u := ⟨_, PySem.W.mg_of X G aC_InvalidBox, rfl⟩
  obtain rfl := cls_at_of aC_OtherWidth
  have g_OtherWidth : ∃ u, mg "OtherWidth" = some u ∧ RelV (.ref (cls_at K "OtherWidth")) u := ⟨_, PySem.W.mg_of X G aC_OtherWidth, rfl⟩
  obtain rfl := cls_at_of aC_Bound
  have cl_Bound : Cls K (cls_at K "Bound") := ⟨pg_Bound, hd_Bound, po_Bound, sa_Bound⟩
  haveI SK_Bound : BndK K := ⟨⟨cl_Bound, ha_Bound, hn_Bound, ht_Bound, hm_Bound⟩, n_Bound_width, n_Bound__boxes⟩
  have g_Bound : ∃ u, mg "Bound" = some u ∧ RelV (.ref (cls_at K "Bound")) u := ⟨_, PySem.W.mg_of X G aC_Bound, rfl⟩
  have XX_InvalidText : ExcOk K "InvalidText" "given" := ⟨⟨xg_InvalidText, xa_InvalidText, xb_InvalidText, xd_InvalidText⟩, xc_InvalidText, xn_InvalidText, xm_InvalidText⟩
  have X_InvalidText : ExcN l.prog K mg "InvalidText" "given" (cls_at K "InvalidText") := ⟨⟨_, tx_InvalidText⟩, PySem.W.mg_of X G aC_InvalidText, PySem.W.mg_none_of X G z_super⟩
  have XX_InvalidBox : ExcOk K "InvalidBox" "at" := ⟨⟨xg_InvalidBox, xa_InvalidBox, xb_InvalidBox, xd_InvalidBox⟩, xc_InvalidBox, xn_InvalidBox, xm_InvalidBox⟩
  have X_InvalidBox : ExcN l.prog K mg "InvalidBox" "at" (cls_at K "InvalidBox") := ⟨⟨_, tx_InvalidBox⟩, PySem.W.mg_of X G aC_InvalidBox, PySem.W.mg_none_of X G z_super⟩
  have ZZ_OtherWidth : ExcOkZ K "OtherWidth" := ⟨xm_OtherWidth, ⟨xg_OtherWidth, xa_OtherWidth, xb_OtherWidth, xd_OtherWidth⟩, xc_OtherWidth⟩
  have Z_OtherWidth : ExcZ l.prog K mg "OtherWidth" (cls_at K "OtherWidth") := ⟨⟨_, tz_OtherWidth⟩, PySem.W.mg_of X G aC_OtherWidth, PySem.W.mg_none_of X G z_super⟩
  have e_EntryError := PySem.W.mg_of X G aC_EntryError
  have e_Missing := PySem.W.mg_of X G aC_Missing
  have e_NothingLeft := PySem.W.mg_of X G aC_NothingLeft
  haveI NK_Bound : KitB K := ⟨kb_non, kb_str, kb_lst, kb_ne⟩
  have F0 := fun_mk (st := s_is_number) l0 c0 k0
  have g0 := PySem.W.mg_of X G a0
  have F1 := fun_mk (st := s_is_value) l1 c1 k1
  have g1 := PySem.W.mg_of X G a1
  have F2 := fun_mk (st := s_read_number) l2 c2 k2
  have g2 := PySem.W.mg_of X G a2
  have F3 := fun_mk (st := s_is_stretch) l3 c3 k3
  have g3 := PySem.W.mg_of X G a3
  have F4 := fun_mk (st := s_common) l4 c4 k4
  have g4 := PySem.W.mg_of X G a4
  have F5 := fun_mk (st := s_side_text) l5 c5 k5
  have g5 := PySem.W.mg_of X G a5
  have F6 := fun_mk (st := s_stretch_text) l6 c6 k6
  have g6 := PySem.W.mg_of X G a6
  have F7 := fun_mk (st := s_read_side) l7 c7 k7
  have g7 := PySem.W.mg_of X G a7
  have F8 := fun_mk (st := s_read_stretch) l8 c8 k8
  have g8 := PySem.W.mg_of X G a8
  have F9 := fun_mk (st := s_is_box) l9 c9 k9
  have g9 := PySem.W.mg_of X G a9
  have F10 := fun_mk (st := s_stretch_minus) l10 c10 k10
  have g10 := PySem.W.mg_of X G a10
  have F11 := fun_mk (st := s_box_common) l11 c11 k11
  have g11 := PySem.W.mg_of X G a11
  have F12 := fun_mk (st := s_box_minus) l12 c12 k12
  have g12 := PySem.W.mg_of X G a12
  have F13 := fun_mk (st := s_Bound_init) l13 c13 k13
  have g13 : Mk K (cls_at K "Bound") f13 ∧ mg "Bound" = some (.ref (cls_at K "Bound")) := ⟨⟨mk_Bound, a13, i13, kc_Bound⟩, PySem.W.mg_of X G aC_Bound⟩
  have F14 := fun_mk (st := s_Bound_eq) l14 c14 k14
  have g14 : Cls K (cls_at K "Bound") ∧ Meth K (cls_at K "Bound") "__eq__" f14 := ⟨cl_Bound, a14, i14, k14⟩
  have F15 := fun_mk (st := s_Bound_boxes) l15 c15 k15
  have g15 : Cls K (cls_at K "Bound") ∧ Meth K (cls_at K "Bound") "boxes" f15 := ⟨cl_Bound, a15, i15, k15⟩
  have F16 := fun_mk (st := s_Bound_within) l16 c16 k16
  have g16 : Cls K (cls_at K "Bound") ∧ Meth K (cls_at K "Bound") "within" f16 := ⟨cl_Bound, a16, i16, k16⟩
  have F17 := fun_mk (st := s_Bound_text) l17 c17 k17
  have g17 : Cls K (cls_at K "Bound") ∧ Meth K (cls_at K "Bound") "text" f17 := ⟨cl_Bound, a17, i17, k17⟩
  have F18 := fun_mk (st := s_Bound_read) l18 c18 k18
  have g18 : ClX.CRead K (cls_at K "Bound") (.type "type") ∧ _ ∧ _ := ⟨⟨rd_Bound, ga_Bound⟩, a18, e18⟩
  have F19 := fun_mk (st := s_Bound_whole) l19 c19 k19
  have g19 : ClX.CRead K (cls_at K "Bound") (.type "type") ∧ _ ∧ _ := ⟨⟨rd_Bound, ga_Bound⟩, a19, e19⟩
  have F20 := fun_mk (st := s_need_width) l20 c20 k20
  have g20 := PySem.W.mg_of X G a20
  have F21 := fun_mk (st := s_covers) l21 c21 k21
  have g21 := PySem.W.mg_of X G a21
  have F22 := fun_mk (st := s_read_bound) l22 c22 k22
  have g22 := PySem.W.mg_of X G a22
  have F23 := fun_mk (st := s_open) l23 c23 k23
  have g23 := PySem.W.mg_of X G a23
  have F24 := fun_mk (st := s_draw) l24 c24 k24
  have g24 := PySem.W.mg_of X G a24
  have F25 := fun_mk (st := s_of) l25 c25 k25
  have g25 := PySem.W.mg_of X G a25
  have F26 := fun_mk (st := s_like) l26 c26 k26
  have g26 := PySem.W.mg_of X G a26
  have F27 := fun_mk (st := s_field) l27 c27 k27
  have g27 := PySem.W.mg_of X G a27
  have F28 := fun_mk (st := s_try) l28 c28 k28
  have g28 := PySem.W.mg_of X G a28
  have F29 := fun_mk (st := s_tries) l29 c29 k29
  have g29 := PySem.W.mg_of X G a29
  have F30 := fun_mk (st := s_products) l30 c30 k30
  have g30 := PySem.W.mg_of X G a30
  have F31 := fun_mk (st := s_stretch) l31 c31 k31
  have g31 := PySem.W.mg_of X G a31
  have F32 := fun_mk (st := s_in) l32 c32 k32
  have g32 := PySem.W.mg_of X G a32
  have F33 := fun_mk (st := s_boxes) l33 c33 k33
  have g33 := PySem.W.mg_of X G a33
  have F34 := fun_mk (st := s_key_in) l34 c34 k34
  have g34 := PySem.W.mg_of X G a34
  have F35 := fun_mk (st := s_side) l35 c35 k35
  have g35 := PySem.W.mg_of X G a35
  have F36 := fun_mk (st := s_bound_text) l36 c36 k36
  have g36 := PySem.W.mg_of X G a36
  have F37 := fun_mk (st := s_bound) l37 c37 k37
  have g37 := PySem.W.mg_of X G a37
  have F38 := fun_mk (st := s_sides) l38 c38 k38
  have g38 := PySem.W.mg_of X G a38
  have F39 := fun_mk (st := s_cut_boxes) l39 c39 k39
  have g39 := PySem.W.mg_of X G a39
  have F40 := fun_mk (st := s_law) l40 c40 k40
  have g40 := PySem.W.mg_of X G a40
  have m_all := PySem.W.mg_none_of X G z_all
  have m_any := PySem.W.mg_none_of X G z_any
  have m_bool := PySem.W.mg_none_of X G z_bool
  have m_enumerate := PySem.W.mg_none_of X G z_enumerate
  have m_int := PySem.W.mg_none_of X G z_int
  have m_isinstance := PySem.W.mg_none_of X G z_isinstance
  have m_len := PySem.W.mg_none_of X G z_len
  have m_list := PySem.W.mg_none_of X G z_list
  have m_max := PySem.W.mg_none_of X G z_max
  have m_min := PySem.W.mg_none_of X G z_min
  have m_range := PySem.W.mg_none_of X G z_range
  have m_set := PySem.W.mg_none_of X G z_set
  have m_sorted := PySem.W.mg_none_of X G z_sorted
  have m_str := PySem.W.mg_none_of X G z_str
  have m_tuple := PySem.W.mg_none_of X G z_tuple
  have m_zip := PySem.W.mg_none_of X G z_zip
  have g_FIGURES : ∃ u, mg "FIGURES" = some u ∧ RelV v_FIGURES u := ⟨_, PySem.W.mg_of X G w_FIGURES, _, rfl⟩
  have e := hfa.symm.trans g40
  cases e
  refine ⟨PySem.W.fnOf "law" "law" (defArgs s_law) (defBody s_law) (defScope s_law) .none kV40 dc40 pm40 an40 (.ref h_cl) ct40, [(h_cl, h_P)], fun vs H Q E => ∀ lw : LamW, lw.P = h_P → sp_law K lw vs H Q E, fun p hp => ?_, fun p hp => ?_, fun p hp => ?_, fun s v => .of_eq rfl, fun H a ns _ _ hT hS lw e => ⟨a, ns, rfl, hS, by rw [e]; exact hT _ (List.mem_singleton.mpr rfl), ZZ_OtherWidth, fun _ => rfl⟩, fun base _ _ hTB => ?_⟩
  · rw [List.mem_singleton.mp hp]; exact own h_cl h_P _ _ _ _ _ _ l40 rfl rfl t_code t_11
  · rw [List.mem_singleton.mp hp]; exact t_no
  · rw [List.mem_singleton.mp hp]; exact PySem.W.codeHd_of_K X t_hd
  have TB := hTB _ (List.mem_singleton.mpr rfl)
  have C_is_number := cal_is_number (P := l.prog) (w := w) (mg := mg) (base := base) F0 g0 m_isinstance m_int m_bool
  have C_is_value := cal_is_value (P := l.prog) (w := w) (mg := mg) (base := base) F1 g1 C_is_number
  have C_read_number := cal_read_number (P := l.prog) (w := w) (mg := mg) (base := base) F2 g2 m_all m_int g_FIGURES
  have C_is_stretch := cal_is_stretch (P := l.prog) (w := w) (mg := mg) (base := base) F3 g3 C_is_value m_isinstance m_tuple m_len m_bool
  have C_common := cal_common (P := l.prog) (w := w) (mg := mg) (base := base) F4 g4 m_min m_max
  have C_side_text := cal_side_text (P := l.prog) (w := w) (mg := mg) (base := base) F5 g5 m_str
  have C_stretch_text := cal_stretch_text (P := l.prog) (w := w) (mg := mg) (base := base) F6 g6 C_side_text
  have C_read_side := cal_read_side (P := l.prog) (w := w) (mg := mg) (base := base) F7 g7 C_read_number
  have C_read_stretch := cal_read_stretch (P := l.prog) (w := w) (mg := mg) (base := base) F8 g8 C_read_side C_is_stretch m_isinstance m_str m_len X_InvalidText
  have C_is_box := cal_is_box (P := l.prog) (w := w) (mg := mg) (base := base) F9 g9 C_is_stretch m_isinstance m_tuple m_len m_all
  have C_stretch_minus := cal_stretch_minus (P := l.prog) (w := w) (mg := mg) (base := base) F10 g10 C_common
  have C_box_common := cal_box_common (P := l.prog) (w := w) (mg := mg) (base := base) F11 g11 C_common m_zip m_len m_tuple
  have C_box_minus := cal_box_minus (P := l.prog) (w := w) (mg := mg) (base := base) F12 g12 C_box_common C_stretch_minus C_common
  have N_Bound := mak_Bound_init (P := l.prog) (w := w) (mg := mg) (base := base) F13 g13 C_is_box m_enumerate m_tuple X_InvalidBox
  have M_Bound_boxes := met_Bound_boxes (P := l.prog) (w := w) (mg := mg) (base := base) F15 g15 m_list
  have M_Bound_text := met_Bound_text (P := l.prog) (w := w) (mg := mg) (base := base) F17 g17 C_stretch_text m_len
  have S_Bound_whole := sta_Bound_whole (P := l.prog) (w := w) (mg := mg) (base := base) F19 g19 N_Bound m_range
  have C_need_width := cal_need_width (P := l.prog) (w := w) (mg := mg) (base := base) F20 g20 Z_OtherWidth
  have C_covers := cal_covers (P := l.prog) (w := w) (mg := mg) (base := base) F21 g21 C_box_minus M_Bound_boxes
  have M_Bound_eq := met_Bound_eq (P := l.prog) (w := w) (mg := mg) (base := base) F14 g14 C_covers m_isinstance g_Bound
  have M_Bound_within := met_Bound_within (P := l.prog) (w := w) (mg := mg) (base := base) F16 g16 C_need_width C_covers
  have MK_Bound_within_other := metK_Bound_within_other (P := l.prog) (w := w) (mg := mg) (base := base) F16 g16 C_need_width C_covers
  have C_read_bound := cal_read_bound (P := l.prog) (w := w) (mg := mg) (base := base) F22 g22 C_read_stretch C_need_width N_Bound m_isinstance m_str m_tuple m_len
  have S_Bound_read := sta_Bound_read (P := l.prog) (w := w) (mg := mg) (base := base) F18 g18 C_read_bound
  have C__law_open := cal_open (P := l.prog) (w := w) (mg := mg) (base := base) F23 g23 m_list
  have C__law_draw := cal_draw (P := l.prog) (w := w) (mg := mg) (base := base) F24 g24 m_len m_int
  have C__law_of := cal_of (P := l.prog) (w := w) (mg := mg) (base := base) F25 g25 C__law_draw m_len
  have C__law_like := cal_like (P := l.prog) (w := w) (mg := mg) (base := base) F26 g26 m_isinstance m_tuple m_list m_len m_all m_zip m_bool m_int m_str 9
  have C__law_field := cal_field (P := l.prog) (w := w) (mg := mg) (base := base) F27 g27 
  have C__law_try := cal_try (P := l.prog) (w := w) (mg := mg) (base := base) F28 g28 C__law_field e_EntryError e_Missing e_NothingLeft
  have C__law_tries := cal_tries (P := l.prog) (w := w) (mg := mg) (base := base) F29 g29 C__law_try
  have C__law_products := cal_products (P := l.prog) (w := w) (mg := mg) (base := base) F30 g30 
  have C__law_stretch := cal_stretch (P := l.prog) (w := w) (mg := mg) (base := base) F31 g31 C__law_draw C__law_of m_max m_min
  have C__law_in := cal_in (P := l.prog) (w := w) (mg := mg) (base := base) F32 g32 
  have C__law_boxes := cal_boxes (P := l.prog) (w := w) (mg := mg) (base := base) F33 g33 C__law_draw C__law_stretch m_range m_tuple
  have C__law_key_in := cal_key_in (P := l.prog) (w := w) (mg := mg) (base := base) F34 g34 C__law_in m_any m_all m_zip
  have C__law_side := cal_side (P := l.prog) (w := w) (mg := mg) (base := base) F35 g35 m_str
  have C__law_bound_text := cal_bound_text (P := l.prog) (w := w) (mg := mg) (base := base) F36 g36 C__law_side
  have C__law_bound := cal_bound (P := l.prog) (w := w) (mg := mg) (base := base) F37 g37 C__law_bound_text S_Bound_read g_Bound
  have C__law_sides := cal_sides (P := l.prog) (w := w) (mg := mg) (base := base) F38 g38 m_sorted m_set
  have C__law_cut_boxes := cal_cut_boxes (P := l.prog) (w := w) (mg := mg) (base := base) F39 g39 C__law_of C__law_draw C__law_in m_len
  exact ok_law l40 c40 TB C__law_open C__law_of C__law_draw C__law_boxes C__law_cut_boxes C__law_bound C__law_products C__law_sides C__law_key_in C__law_like C__law_tries M_Bound_eq M_Bound_within M_Bound_text N_Bound S_Bound_whole MK_Bound_within_other m_range m_all m_zip m_int g_Bound
end Q31
open PySem PySem.W PyProof.Rows
set_option maxRecDepth 100000 in
set_option maxHeartbeats 0 in
theorem PySem.Challenge.cw_eachentry_k31_whole_bounds_compared_holds : PySem.Challenge.rw_eachentry_k31_whole_bounds_compared.Holds := by
  w_on; o_law; k_head; (case hw => w_witness2)
  k_fill
  refine LamX.walk_ofOwn (l := PySem.Challenge.rw_eachentry_k31_whole_bounds_compared) (n := 63) (k := 10) (x := "_law_script") (CX := fun _ => L2.CX0) rfl (by decide) rfl ⟨rfl, by decide, by decide⟩ (by kernel_rfl) (fun w h Y => PySem.W.km_in_of Y) ?F (fun _ _ _ _ _ h => h)
  case F =>
    intro w mg fa h Y KX G hmg own
    refine' Q31.all_mk KX G hmg ?aC_EntryError ?aC_Missing ?aC_NothingLeft ?aC_InvalidText ?aC_InvalidBox ?aC_OtherWidth ?aC_Bound ?pg_Bound ?hd_Bound ?po_Bound ?sa_Bound ?mk_Bound ?kc_Bound ?ha_Bound ?hn_Bound ?ht_Bound ?hm_Bound ?n_Bound_width ?n_Bound__boxes ?rd_Bound ?ga_Bound ?a0 ?l0 ?c0 ?k0 ?a1 ?l1 ?c1 ?k1 ?a2 ?l2 ?c2 ?k2 ?a3 ?l3 ?c3 ?k3 ?a4 ?l4 ?c4 ?k4 ?a5 ?l5 ?c5 ?k5 ?a6 ?l6 ?c6 ?k6 ?a7 ?l7 ?c7 ?k7 ?a8 ?l8 ?c8 ?k8 ?a9 ?l9 ?c9 ?k9 ?a10 ?l10 ?c10 ?k10 ?a11 ?l11 ?c11 ?k11 ?a12 ?l12 ?c12 ?k12 ?a13 ?i13 ?l13 ?c13 ?k13 ?a14 ?i14 ?l14 ?c14 ?k14 ?a15 ?i15 ?l15 ?c15 ?k15 ?a16 ?i16 ?l16 ?c16 ?k16 ?a17 ?i17 ?l17 ?c17 ?k17 ?a18 ?e18 ?l18 ?c18 ?k18 ?a19 ?e19 ?l19 ?c19 ?k19 ?a20 ?l20 ?c20 ?k20 ?a21 ?l21 ?c21 ?k21 ?a22 ?l22 ?c22 ?k22 ?a23 ?l23 ?c23 ?k23 ?a24 ?l24 ?c24 ?k24 ?a25 ?l25 ?c25 ?k25 ?a26 ?l26 ?c26 ?k26 ?a27 ?l27 ?c27 ?k27 ?a28 ?l28 ?c28 ?k28 ?a29 ?l29 ?c29 ?k29 ?a30 ?l30 ?c30 ?k30 ?a31 ?l31 ?c31 ?k31 ?a32 ?l32 ?c32 ?k32 ?a33 ?l33 ?c33 ?k33 ?a34 ?l34 ?c34 ?k34 ?a35 ?l35 ?c35 ?k35 ?a36 ?l36 ?c36 ?k36 ?a37 ?l37 ?c37 ?k37 ?a38 ?l38 ?c38 ?k38 ?a39 ?l39 ?c39 ?k39 ?a40 ?l40 ?c40 ?k40 ?t_code ?t_11 ?t_no ?t_hd ?own ?tx_InvalidText ?xg_InvalidText ?xa_InvalidText ?xb_InvalidText ?xd_InvalidText ?xc_InvalidText ?xn_InvalidText ?xm_InvalidText ?tx_InvalidBox ?xg_InvalidBox ?xa_InvalidBox ?xb_InvalidBox ?xd_InvalidBox ?xc_InvalidBox ?xn_InvalidBox ?xm_InvalidBox ?tz_OtherWidth ?xg_OtherWidth ?xa_OtherWidth ?xb_OtherWidth ?xd_OtherWidth ?xc_OtherWidth ?xm_OtherWidth ?kb_non ?kb_str ?kb_lst ?kb_ne ?z_super ?z_all ?z_any ?z_bool ?z_enumerate ?z_int ?z_isinstance ?z_len ?z_list ?z_max ?z_min ?z_range ?z_set ?z_sorted ?z_str ?z_tuple ?z_zip ?w_FIGURES
    (case aC_EntryError => k_is); (case aC_Missing => k_is); (case aC_NothingLeft => k_is); (case aC_InvalidText => k_is); (case aC_InvalidBox => k_is); (case aC_OtherWidth => k_is); (case aC_Bound => k_is); (case pg_Bound => k_is); (case hd_Bound => k_is); (case po_Bound => k_is); (case sa_Bound => k_is); (case mk_Bound => k_is); (case kc_Bound => k_is); (case ha_Bound => k_is); (case hn_Bound => k_is); (case ht_Bound => k_is); (case hm_Bound => k_is); (case n_Bound_width => k_is); (case n_Bound__boxes => k_is); (case rd_Bound => k_is); (case ga_Bound => k_is); (case a0 => k_is); (case l0 => k_is); (case c0 => k_is); (case k0 => k_is); (case a1 => k_is); (case l1 => k_is); (case c1 => k_is); (case k1 => k_is); (case a2 => k_is); (case l2 => k_is); (case c2 => k_is); (case k2 => k_is); (case a3 => k_is); (case l3 => k_is); (case c3 => k_is); (case k3 => k_is); (case a4 => k_is); (case l4 => k_is); (case c4 => k_is); (case k4 => k_is); (case a5 => k_is); (case l5 => k_is); (case c5 => k_is); (case k5 => k_is); (case a6 => k_is); (case l6 => k_is); (case c6 => k_is); (case k6 => k_is); (case a7 => k_is); (case l7 => k_is); (case c7 => k_is); (case k7 => k_is); (case a8 => k_is); (case l8 => k_is); (case c8 => k_is); (case k8 => k_is); (case a9 => k_is); (case l9 => k_is); (case c9 => k_is); (case k9 => k_is); (case a10 => k_is); (case l10 => k_is); (case c10 => k_is); (case k10 => k_is); (case a11 => k_is); (case l11 => k_is); (case c11 => k_is); (case k11 => k_is); (case a12 => k_is); (case l12 => k_is); (case c12 => k_is); (case k12 => k_is); (case a13 => k_is); (case i13 => k_is); (case l13 => k_is); (case c13 => k_is); (case k13 => k_is); (case a14 => k_is); (case i14 => k_is); (case l14 => k_is); (case c14 => k_is); (case k14 => k_is); (case a15 => k_is); (case i15 => k_is); (case l15 => k_is); (case c15 => k_is); (case k15 => k_is); (case a16 => k_is); (case i16 => k_is); (case l16 => k_is); (case c16 => k_is); (case k16 => k_is); (case a17 => k_is); (case i17 => k_is); (case l17 => k_is); (case c17 => k_is); (case k17 => k_is); (case a18 => k_is); (case e18 => k_is); (case l18 => k_is); (case c18 => k_is); (case k18 => k_is); (case a19 => k_is); (case e19 => k_is); (case l19 => k_is); (case c19 => k_is); (case k19 => k_is); (case a20 => k_is); (case l20 => k_is); (case c20 => k_is); (case k20 => k_is); (case a21 => k_is); (case l21 => k_is); (case c21 => k_is); (case k21 => k_is); (case a22 => k_is); (case l22 => k_is); (case c22 => k_is); (case k22 => k_is); (case a23 => k_is); (case l23 => k_is); (case c23 => k_is); (case k23 => k_is); (case a24 => k_is); (case l24 => k_is); (case c24 => k_is); (case k24 => k_is); (case a25 => k_is); (case l25 => k_is); (case c25 => k_is); (case k25 => k_is); (case a26 => k_is); (case l26 => k_is); (case c26 => k_is); (case k26 => k_is); (case a27 => k_is); (case l27 => k_is); (case c27 => k_is); (case k27 => k_is); (case a28 => k_is); (case l28 => k_is); (case c28 => k_is); (case k28 => k_is); (case a29 => k_is); (case l29 => k_is); (case c29 => k_is); (case k29 => k_is); (case a30 => k_is); (case l30 => k_is); (case c30 => k_is); (case k30 => k_is); (case a31 => k_is); (case l31 => k_is); (case c31 => k_is); (case k31 => k_is); (case a32 => k_is); (case l32 => k_is); (case c32 => k_is); (case k32 => k_is); (case a33 => k_is); (case l33 => k_is); (case c33 => k_is); (case k33 => k_is); (case a34 => k_is); (case l34 => k_is); (case c34 => k_is); (case k34 => k_is); (case a35 => k_is); (case l35 => k_is); (case c35 => k_is); (case k35 => k_is); (case a36 => k_is); (case l36 => k_is); (case c36 => k_is); (case k36 => k_is); (case a37 => k_is); (case l37 => k_is); (case c37 => k_is); (case k37 => k_is); (case a38 => k_is); (case l38 => k_is); (case c38 => k_is); (case k38 => k_is); (case a39 => k_is); (case l39 => k_is); (case c39 => k_is); (case k39 => k_is); (case a40 => k_is); (case l40 => k_is); (case c40 => k_is); (case k40 => k_is); (case z_all => k_is); (case z_any => k_is); (case z_bool => k_is); (case z_enumerate => k_is); (case z_int => k_is); (case z_isinstance => k_is); (case z_len => k_is); (case z_list => k_is); (case z_max => k_is); (case z_min => k_is); (case z_range => k_is); (case z_set => k_is); (case z_sorted => k_is); (case z_str => k_is); (case z_tuple => k_is); (case z_zip => k_is); (case w_FIGURES => k_is); (case t_code => k_is); (case t_11 => rfl); (case t_no => kernel_rfl); (case t_hd => kernel_rfl); (case own => exact own); (case tx_InvalidText => exact ⟨⟨_, _, _, _, _, _, _, _, _, _, _, _, _, _, _, by k_is, by rfl⟩, by k_is, by k_is, by k_is, by k_is, by k_is, by k_is, by k_is, by k_is, by kernel_rfl, by k_is, by k_is, by k_is, PySem.ExN.fld_given, by kernel_rfl, ⟨_, _, _, _, _, _, _, _, _, _, _, _, _, _, _, _, _, _, _, _, _, _, _, _, _, _, by k_is, by k_is, by rfl, ⟨_, _, _, _, _, _, by k_is, by rfl, by kernel_rfl⟩, _, _, _, by k_is⟩⟩); (case xg_InvalidText => k_is); (case xa_InvalidText => k_is); (case xb_InvalidText => k_is); (case xd_InvalidText => k_is); (case xc_InvalidText => k_is); (case xn_InvalidText => k_is); (case xm_InvalidText => kernel_rfl); (case tx_InvalidBox => exact ⟨⟨_, _, _, _, _, _, _, _, _, _, _, _, _, _, _, by k_is, by rfl⟩, by k_is, by k_is, by k_is, by k_is, by k_is, by k_is, by k_is, by k_is, by kernel_rfl, by k_is, by k_is, by k_is, PySem.ExN.fld_at, by kernel_rfl, ⟨_, _, _, _, _, _, _, _, _, _, _, _, _, _, _, _, _, _, _, _, _, _, _, _, _, _, by k_is, by k_is, by rfl, ⟨_, _, _, _, _, _, by k_is, by rfl, by kernel_rfl⟩, _, _, _, by k_is⟩⟩); (case xg_InvalidBox => k_is); (case xa_InvalidBox => k_is); (case xb_InvalidBox => k_is); (case xd_InvalidBox => k_is); (case xc_InvalidBox => k_is); (case xn_InvalidBox => k_is); (case xm_InvalidBox => kernel_rfl); (case tz_OtherWidth => exact ⟨⟨_, _, _, _, _, _, _, _, _, _, _, _, _, _, _, by k_is, by rfl⟩, by k_is, by k_is, by k_is, by k_is, by k_is, by k_is, by k_is, by kernel_rfl, by k_is, by k_is, by k_is, by kernel_rfl, ⟨_, _, _, _, _, _, _, _, _, _, _, _, _, _, _, _, _, _, _, _, _, by k_is, by k_is, by rfl, ⟨_, _, _, _, _, _, by k_is, by rfl, by kernel_rfl⟩, _, _, _, by k_is⟩⟩); (case xg_OtherWidth => k_is); (case xa_OtherWidth => k_is); (case xb_OtherWidth => k_is); (case xd_OtherWidth => k_is); (case xc_OtherWidth => k_is); (case xm_OtherWidth => kernel_rfl); (case kb_non => kernel_rfl); (case kb_str => kernel_rfl); (case kb_lst => kernel_rfl); (case kb_ne => kernel_rfl); (case z_super => k_is)
