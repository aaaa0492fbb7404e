import PyProof.Rows.All
import Wide.All
import OpenK.AllK
import Wide.FinOn
import HandS.More
import HandS.OwnEq
import PyProof.InstSpecial
import HandS.ForMost
import HandS.Walk
import HandS.Steps
import HandS.Evl
import HandS.Zip
import HandS.IsInst
import HandS.Wide
import HandS.TupAny
import HandS.SortInts
import KE.LtData
import KE.DataEq
import HandS.Codes
import KE.DataMinMax
import HandS.Strs
import HandS.SetFor
import HandS.Text
import HandS.Property
import HandS.Star
import HandS.FStr
import HandS.ClsMeth
import HandS.TryOnly
import HandS.Style
import HandS.MakeKwOnly
import PySem.Challenge.RW_eachentry_k07_schemas_told
set_option Elab.async false
set_option linter.all false
set_option maxRecDepth 100000
set_option maxHeartbeats 3000000
/-! == of two tuples, item by item; bool, != of an own object; a + b of lists: the model's own steps. -/
namespace GE
open PySem PySem.SeqAt
section
variable {w : World} {prog : Program} {R : Result → Shared → Prop} {A : Around}
/-- what the comparison of two rows of items comes to, item by item -/
def ZipR (prog : Program) (w : World) (A : Around) (E : Value → Shared → Prop) (I : Shared → Prop) (b fin : Bool) : List (Value × Value) → Prop
  | [] => b = fin
  | p :: rest => ∃ r : Bool, (∀ s, I s → wpAny (model prog w) A.in1 (eqBool p.1 p.2) (fun r' s' => r' = r ∧ I s') E s) ∧ ((r = true ∧ ZipR prog w A E I b fin rest) ∨ (r = false ∧ b = false))
theorem tuple_eqB (l b : Addr) (items items2 : Array Value) (n n2 : Nat) (dd dd2 : Option Addr) (sl sl2 : Array (Option Value)) (I : Shared → Prop) (t : Bool)
    (hz : ZipR prog w A (fun e s' => R (.error e) s') I t (items.size == items2.size) (items.toList.zip items2.toList))
    (fin : ∀ s, I s → R (.ok (.ret (.bool t))) s) {s : Shared} (hl1 : s.heap.get? l = some { cls := .type "tuple", dict := dd, data := .seq items n, slots := sl })
    (hb1 : s.heap.get? b = some { cls := .type "tuple", dict := dd2, data := .seq items2 n2, slots := sl2 }) (h : I s) :
    wpAny (model prog w) A.in1 (Builtin.«tuple.__eq__» ⟨[.ref l, .ref b], []⟩) (GQ.FinOf prog w A R) (fun e s' => R (.error e) s') s := by
  have tt := AutoSeq1.sub_tuple_tuple
  have h0 := h
  obtain ⟨hs0, gs0, ds0, ts0, os0⟩ := s
  wp_walk using AutoSeq1.wpAny_loadPart' hl1, AutoSeq1.wpAny_loadPart' hb1, wpAny_forIn_list _ (fun rest b s' => b.1 = none ∧ ZipR prog w A (fun e s' => R (.error e) s') I t (items.size == items2.size) rest ∧ I s') _
  case turn =>
    rintro ⟨y, x⟩ rest b s' ⟨hb', ⟨r, hr, hc⟩, hI⟩
    refine wpAny_bind (wpAny_mono (hr s' hI) (fun r' s2 q2 => ?_) fun _ _ x => x)
    obtain ⟨e, q2⟩ := q2
    subst e
    rcases hc with ⟨e, hc⟩ | ⟨e, hc⟩
    · subst e
      wp_walk
      exact ⟨rfl, hc, q2⟩
    · subst e
      subst hc
      have hR := fin s2 q2
      wp_walk
      exact hR
  case fin =>
    rintro ⟨b1, b2⟩ s' ⟨hb', hz, hI⟩
    simp only at hb'
    subst hb'
    have hR := fin s' hI
    rw [show t = (items.size == items2.size) from hz] at hR
    wp_walk
    simpa [Builtin.Tuple.tupleCompareSizes] using hR
  case h =>
    exact ⟨rfl, hz, h0⟩
end
section
variable {w : World} {prog : Program} {s : Shared} {E : Value → Shared → Prop} {A : Around}
theorem rc_tupB {l b : Addr} {items items2 : Array Value} {Q : Value → Shared → Prop} (hu : A.units < cLine) (I : Shared → Prop) (t : Bool)
    (hl : s.heap.IsTuple l items) (hb : s.heap.IsTuple b items2) (hz : ZipR prog w A E I t (items.size == items2.size) (items.toList.zip items2.toList))
    (fin : ∀ s, I s → Q (.bool t) s) (h : I s) : wpAny (model prog w) A (richCompare .Eq (.ref l) (.ref b)) Q E s := by
  obtain ⟨⟨cls, dd, data, sl⟩, ho, hc, n, hd⟩ := id hl; obtain ⟨⟨cls2, dd2, data2, sl2⟩, ho2, hc2, n2, hd2⟩ := id hb
  simp only at hc hd hc2 hd2
  subst hc hd hc2 hd2
  refine wpAny_richCompare_same_room (op := .Eq) ⟨_, ho, rfl⟩ ⟨_, ho2, rfl⟩ F.slot_tuple_eq (GQ.call_here F.slot_tuple_eq ⟨_, ho, rfl⟩ F.entry_tuple_eq (F.args_tuple_eq_2 _ _) ?_) hu
  exact tuple_eqB (R := wants (fun v s' => v ≠ .notImplemented ∧ Q v s') E) l b items items2 n n2 dd dd2 sl sl2 I t hz (fun s' q => ⟨(fun x => nomatch x), fin s' q⟩) ho ho2 h
theorem meets_bool_any (v : Value) (b : Bool) :
    Meets (Builtin.«bool.__new__» ⟨[.type "bool", v], []⟩) (fun _ R s => (∀ (M : Model) (A : Around) (E : Value → Shared → Prop) (Q : Bool → Shared → Prop), Q b s → wpAny M A (truthy v) Q E s) ∧ R (.ok (.ret (.bool b))) s) :=
  Meets.of_wp fun _ _ _ _ s hb => by
    obtain ⟨ht, hs⟩ := hb
    obtain ⟨hs0, gs0, ds0, ts0, os0⟩ := s
    have f1 := F.conv_sub_bool
    repeat (any_goals (first | assumption | (with_reducible refine ht _ _ _ _ ?_) | wp_step))
    all_goals first | exact hs | exact ⟨_, rfl, hs⟩ | skip
theorem ifBound_objNe {M : Model} {A : Around} {E : Value → Shared → Prop} {s : Shared} {K : PySem.W.Frag} {x C : Addr} {ox : Obj} {od : Option Obj} {args : List Value} {Q : Option Value → Shared → Prop} (X : K.In s.heap) (I : PySem.W.InstAt s.heap x ox C od) (hs : PySem.W.findIn K (.ref C) "__ne__" = some (some (.builtin "object.__ne__")))
    (h : wpAny M A (call (.builtin "object.__ne__") (.ref x :: args)) (fun v => Q (some v)) E s) : wpAny M A (callSpecialIfBound? (.ref x) "__ne__" args) Q E s := by
  have fin : wpAny M A (call (.builtin "object.__ne__") ([.ref x] ++ args) >>= fun v => pure (some v)) Q E s := wpAny_bind (wpAny_mono h (fun _ _ z => wpAny_pure z) fun _ _ z => z)
  simp only [callSpecialIfBound?, bindSpecialIfBound?]; refine wpAny_holding (wpAny_bind (wpAny_bind (wpAny_bind (I.type.here ((PySem.W.looks_findIn X hs).here (wpAny_bind (wpAny_askSetting (wpAny_ite ?_))))))))
  split
  · exact wpAny_bind (wpAny_of_eq (F.cmp_object.ne.bind _) (wpAny_pure (by exact fin)))
  · exact wpAny_tryCatch (wpAny_bind (wpAny_of_eq (F.cmp_object.ne.bind _) (wpAny_pure (by exact fin))))
theorem sub_str {K : PySem.W.Frag} (C : Addr) : PySem.W.subIn K (.type "str") (.ref C) = some false := by
  have e : fastBuiltinMro "str" = some [.type "str", .type "object"] := by decide +kernel
  show (fastBuiltinMro "str").map (·.contains (.ref C)) = some false
  rw [e]
  first
    | rfl
    | simp
end
theorem meets_addS (l b : Addr) (its jts : Array Value) (n m : Nat) (sl sm : Array (Option Value)) (hz : its.size + jts.size ≤ sizeLine) :
    Meets (Builtin.«list.__add__» ⟨[.ref l, .ref b], []⟩) (fun _ R s => s.heap.get? l = some { cls := .type "list", dict := none, data := .seq its n, slots := sl } ∧ s.heap.get? b = some { cls := .type "list", dict := none, data := .seq jts m, slots := sm } ∧
      R (.ok (.ret (Value.ref s.heap.objs.size))) { s with heap := s.heap.push { cls := Value.type "list", data := Data.seq (its ++ jts) } }) :=
  .of_wp fun _ _ _ _ s hh => by
    obtain ⟨hl, hb, h⟩ := hh; have f3 := AutoSeq1.sub_list_list
    obtain ⟨hs0, gs0, ds0, ts0, os0⟩ := s
    wp_walk using AutoSeq1.wpAny_loadPart' hb, AutoSeq1.wpAny_loadPart' hl
    exact ⟨_, rfl, h⟩
end GE

/-! The unchanging heap G under the heap H, with a list L of the objects that may change. -/
namespace EE
open PySem PySem.Spec PyProof.Rows L2 Evl RZ

/-- G: what stays; L: what may change; both stand in H -/
structure Stt (G H : Hp) (L : List (Addr × HO)) : Prop where
  ex : Ex G H
  has : ∀ p, p ∈ L → H p.1 = some p.2
  out : ∀ p, p ∈ L → G p.1 = none
  nd : (L.map (·.1)).Nodup

theorem Ex.upd2 {G H : Hp} {p : Addr} {o : HO} (e : Ex G H) : Ex (upd G p o) (upd H p o) := fun a u h => by
  unfold upd at h ⊢
  by_cases c : a = p
  · rw [if_pos c] at h ⊢; exact h
  · rw [if_neg c] at h ⊢; exact e a u h
section
variable {G H : Hp} {L : List (Addr × HO)} {p b : Addr} {o o' : HO}
theorem Stt.free (S : Stt G H L) (h : H p = none) : G p = none := fresh_back S.ex h
theorem Stt.ne (S : Stt G H L) (h : H p = none) : ∀ q, q ∈ L → q.1 ≠ p := fun q hq z => by
  have := S.has q hq
  rw [z, h] at this
  cases this
theorem Stt.new (S : Stt G H L) (h : H p = none) : Stt (upd G p o) (upd H p o) L :=
  ⟨Ex.upd2 S.ex, fun q hq => by rw [upd_ne (S.ne h q hq)]; exact S.has q hq, fun q hq => by rw [upd_ne (S.ne h q hq)]; exact S.out q hq, S.nd⟩
theorem Stt.newE (S : Stt G H L) (h : H p = none) : Ex G (upd G p o) := Ex.new (S.free h)
theorem Stt.mkL (S : Stt G H L) (h : H p = none) : Stt G (upd H p o) ((p, o) :: L) := by
  refine ⟨S.ex.trans (Ex.new h), fun q hq => ?_, fun q hq => ?_, ?_⟩
  · cases hq with
    | head => exact upd_same
    | tail _ hq => rw [upd_ne (S.ne h q hq)]; exact S.has q hq
  · cases hq with
    | head => exact S.free h
    | tail _ hq => exact S.out q hq
  · rw [List.map_cons, List.nodup_cons]
    refine ⟨fun hm => ?_, S.nd⟩
    obtain ⟨q, hq, e⟩ := List.mem_map.mp hm
    exact S.ne h q hq e
theorem Stt.at (S : Stt G H L) (i : Nat) (h : L[i]? = some (b, o)) : H b = some o := S.has (b, o) (List.mem_of_getElem? h)
theorem Stt.drop (S : Stt G H ((p, o) :: L)) : Stt G H L :=
  ⟨S.ex, fun q hq => S.has q (List.mem_cons_of_mem _ hq), fun q hq => S.out q (List.mem_cons_of_mem _ hq), (List.nodup_cons.mp S.nd).2⟩
/-- what changed no longer will -/
theorem Stt.frz (S : Stt G H ((p, o) :: L)) : Stt (upd G p o) H L := by
  have hp : H p = some o := S.has (p, o) (List.mem_cons_self ..)
  refine ⟨fun a u h => ?_, S.drop.has, fun q hq => ?_, S.drop.nd⟩
  · unfold upd at h
    by_cases c : a = p
    · rw [if_pos c] at h
      cases h
      rw [c]; exact hp
    · rw [if_neg c] at h; exact S.ex a u h
  · have hne : q.1 ≠ p := fun z => (List.nodup_cons.mp S.nd).1 (List.mem_map.mpr ⟨q, hq, z⟩)
    rw [upd_ne hne]
    exact S.out q (List.mem_cons_of_mem _ hq)
theorem Stt.frzE (S : Stt G H ((p, o) :: L)) : Ex G (upd G p o) := Ex.new (S.out (p, o) (List.mem_cons_self ..))
theorem Stt.wr (S : Stt G H L) (i : Nat) (h : L[i]? = some (b, o)) : Stt G (upd H b o') (L.set i (b, o')) := by
  have hi : i < L.length := (List.getElem?_eq_some_iff.mp h).1
  have hb : (b, o) ∈ L := List.mem_of_getElem? h
  have hmap : (L.set i (b, o')).map (·.1) = L.map (·.1) := by
    rw [List.map_set]
    apply List.ext_getElem?
    intro j
    rw [List.getElem?_set]
    by_cases c : i = j
    · subst c
      rw [if_pos rfl, if_pos (by rw [List.length_map]; exact hi), List.getElem?_map, h]
      rfl
    · rw [if_neg c]
  have key : ∀ q, q ∈ L.set i (b, o') → q = (b, o') ∨ (q ∈ L ∧ q.1 ≠ b) := fun q hq => by
    obtain ⟨j, hj⟩ := List.getElem?_of_mem hq
    rw [List.getElem?_set] at hj
    by_cases c : i = j
    · subst c
      rw [if_pos rfl, if_pos hi] at hj
      exact .inl (Option.some.inj hj).symm
    · rw [if_neg c] at hj
      refine .inr ⟨List.mem_of_getElem? hj, fun z => c ?_⟩
      have h1 : (L.map (·.1))[i]? = some b := by rw [List.getElem?_map, h]; rfl
      have h2 : (L.map (·.1))[j]? = some b := by rw [List.getElem?_map, hj, ← z]; rfl
      have hi' : i < (L.map (·.1)).length := by rw [List.length_map]; exact hi
      exact (List.getElem?_inj hi' S.nd).mp (h1.trans h2.symm)
  refine ⟨fun a u ha => ?_, fun q hq => ?_, fun q hq => ?_, by rw [hmap]; exact S.nd⟩
  · rw [upd_ne (ne_of_none ha (S.out (b, o) hb))]
    exact S.ex a u ha
  · rcases key q hq with rfl | ⟨hq, hne⟩
    · exact upd_same
    · rw [upd_ne hne]; exact S.has q hq
  · rcases key q hq with rfl | ⟨hq, hne⟩
    · exact S.out (b, o) hb
    · exact S.out q hq
theorem Stt.nil (H : Hp) : Stt H H [] := ⟨Ex.refl H, (fun _ h => nomatch h), (fun _ h => nomatch h), List.nodup_nil⟩
theorem Stt.out_nil {G H : Hp} (S : Stt G H []) : Stt H H [] := Stt.nil H
end

/-! ### data -/
mutual
theorem Dp.ex {K : PySem.W.Frag} {H H' : Hp} (e : Ex H H') : ∀ (d : PyData) (v : V), Dp K H v d → Dp K H' v d
  | .none, _, h => by cases h; exact .non
  | .bool b, _, h => by cases h; exact .bl b
  | .int i, _, h => by cases h; exact .int i
  | .str x, _, h => by cases h; exact .str x
  | .list ds, _, h => by
    cases h with
    | lst hs ha => exact .lst (ex_l e hs) (DpAll.ex e ds _ ha)
  | .tuple ds, _, h => by
    cases h with
    | tup hs ha => exact .tup (ex_t e hs) (DpAll.ex e ds _ ha)
  | .dict _, _, h => by cases h
theorem DpAll.ex {K : PySem.W.Frag} {H H' : Hp} (e : Ex H H') : ∀ (ds : List PyData) (vs : List V), DpAll K H vs ds → DpAll K H' vs ds
  | [], _, h => by cases h; exact .nil
  | d :: ds, _, h => by
    cases h with
    | cons h1 h2 => exact .cons (Dp.ex e d _ h1) (DpAll.ex e ds _ h2)
end
theorem DpAll.length {K : PySem.W.Frag} {H : Hp} : ∀ {vs : List V} {ds : List PyData}, DpAll K H vs ds → vs.length = ds.length
  | _, _, .nil => rfl
  | _, _, .cons _ h => by rw [List.length_cons, List.length_cons, DpAll.length h]
theorem DpAll.get {K : PySem.W.Frag} {H : Hp} : ∀ {vs : List V} {ds : List PyData} {i : Nat} {v : V}, DpAll K H vs ds → vs[i]? = some v → ∃ d, ds[i]? = some d ∧ Dp K H v d
  | _, _, _, _, .nil, h => by simp at h
  | _, _, 0, _, .cons h1 _, h => by
    cases (Option.some.inj h)
    exact ⟨_, rfl, h1⟩
  | _, _, i + 1, _, .cons _ h2, h => DpAll.get (i := i) h2 h
theorem DpAll.append {K : PySem.W.Frag} {H : Hp} : ∀ {vs ws : List V} {ds es : List PyData}, DpAll K H vs ds → DpAll K H ws es → DpAll K H (vs ++ ws) (ds ++ es)
  | _, _, _, _, .nil, h => h
  | _, _, _, _, .cons h1 h2, h => .cons h1 (DpAll.append h2 h)
theorem DpAll.snoc {K : PySem.W.Frag} {H : Hp} {vs : List V} {ds : List PyData} {v : V} {d : PyData} (h : DpAll K H vs ds) (h1 : Dp K H v d) : DpAll K H (vs ++ [v]) (ds ++ [d]) := DpAll.append h (.cons h1 .nil)
theorem DpAll.take {K : PySem.W.Frag} {H : Hp} : ∀ {vs : List V} {ds : List PyData} (n : Nat), DpAll K H vs ds → DpAll K H (vs.take n) (ds.take n)
  | _, _, 0, _ => .nil
  | _, _, _ + 1, .nil => .nil
  | _, _, n + 1, .cons h1 h2 => .cons h1 (DpAll.take n h2)
theorem DpAll.drop {K : PySem.W.Frag} {H : Hp} : ∀ {vs : List V} {ds : List PyData} (n : Nat), DpAll K H vs ds → DpAll K H (vs.drop n) (ds.drop n)
  | _, _, 0, h => h
  | _, _, _ + 1, .nil => .nil
  | _, _, n + 1, .cons _ h2 => DpAll.drop n h2
theorem DpAll.ints {K : PySem.W.Frag} {H : Hp} : ∀ (ns : List Int), DpAll K H (ns.map V.int) (ns.map PyData.int)
  | [] => .nil
  | n :: ns => .cons (.int n) (DpAll.ints ns)
theorem DpAll.bools {K : PySem.W.Frag} {H : Hp} : ∀ (ns : List Bool), DpAll K H (ns.map V.bl) (ns.map PyData.bool)
  | [] => .nil
  | n :: ns => .cons (.bl n) (DpAll.bools ns)

/-! Readings by the head of what is read; rules that serve several kinds of values. -/
section
variable {K : PySem.W.Frag} {σ : L2.St} {H : Hp} {v x y : V} {ta tb tc te : TE} {t u : TT} {Q : VK} {QT : Bool → Hp → Prop} {QA : List V → Hp → Prop} {D : Ends} {tr : TA} {t1 t2 : TS} {i : Nat}
theorem rd_var (h : σ[i]? = some (some v)) (q : Q v H) : tVar i σ H Q := ⟨v, h, q⟩
theorem rd_c (q : Q v H) : tC v σ H Q := q
theorem rd_op {r : R2} (q : ta σ H fun x H1 => tb σ H1 fun y H2 => r x y H2 Q) : tOp r ta tb σ H Q := q
theorem rd_un {r : V → Hp → VK → Prop} (q : ta σ H fun x H1 => r x H1 Q) : tUn r ta σ H Q := q
theorem rd_test (q : te σ H fun x H1 => ∃ k, x = .bl k ∧ QT k H1) : tTest te σ H QT := q
theorem rd_B (q : te σ H fun x H1 => ∃ k, x = .bl k ∧ QT k H1) : tB te σ H QT := q
theorem rd_bl {P : Bool → Prop} {k : Bool} (q : P k) : ∃ c, V.bl k = V.bl c ∧ P c := ⟨k, rfl, q⟩
theorem rd_and (q : t σ H fun c H1 => if c = true then u σ H1 QT else QT false H1) : tAnd t u σ H QT := q
theorem rd_or (q : t σ H fun c H1 => if c = true then QT true H1 else u σ H1 QT) : tOr t u σ H QT := q
theorem rd_not (q : t σ H fun c H1 => QT (!c) H1) : tNot t σ H QT := q
theorem rd_andV (q : ta σ H fun x H1 => ∃ c, x = .bl c ∧ if c = true then tb σ H1 Q else Q (.bl false) H1) : tAndV ta tb σ H Q := q
theorem rd_orV (q : ta σ H fun x H1 => ∃ c, x = .bl c ∧ if c = true then Q (.bl true) H1 else tb σ H1 Q) : tOrV ta tb σ H Q := q
theorem rd_notV (q : ta σ H fun x H1 => ∃ c, x = .bl c ∧ Q (.bl (!c)) H1) : tNotV ta σ H Q := q
theorem rd_if (q : t σ H fun c H1 => if c = true then ta σ H1 Q else tb σ H1 Q) : tIf t ta tb σ H Q := q
theorem rd_nil (q : QA [] H) : tNil σ H QA := q
theorem rd_cons (q : ta σ H fun x H1 => tr σ H1 fun xs H2 => QA (x :: xs) H2) : tCons ta tr σ H QA := q
theorem rd_cb {r : List V → Hp → VK → Prop} (q : tr σ H fun vs H1 => r vs H1 Q) : tCB r tr σ H Q := q
theorem rd_call {sp : Sp} {E : XK} (q : tr σ H fun vs H1 => sp (vs ++ []) H1 Q E) : tCall sp [] E tr σ H Q := q
theorem rd_callK {sp : Sp} {gV : List V → List V → List V} {E : XK} {tk : TA} (q : tr σ H fun vs H1 => tk σ H1 fun zs H2 => sp (gV vs zs) H2 Q E) : tCallK sp gV E tr tk σ H Q := q
theorem rd_seq (q : t1 { D with nx := t2 D } σ H) : tSeq t1 t2 D σ H := q
theorem rd_ifs (q : t σ H fun b H1 => if b = true then t1 D σ H1 else t2 D σ H1) : tIfS t t1 t2 D σ H := q
theorem rd_next (q : D.nx σ H) : tNext D σ H := q
theorem rd_ret (q : te σ H D.rt) : tRet te D σ H := q
theorem rd_drop (q : te σ H fun _ H1 => D.nx σ H1) : tDrop te D σ H := q
theorem rd_asg {g : TG} (q : te σ H fun x H1 => g x σ H1 D.nx) : tAsg te g D σ H := q
theorem rd_name {N : L2.St → Hp → Prop} (q : N (σ.set i (some v)) H) : gName i v σ H N := q
theorem rd_tup (q : tr σ H fun xs H1 => xs.length ≤ sizeLine ∧ ∀ p, H1 p = none → Q (.ref p) (upd H1 p (.tup xs))) : tTup tr σ H Q := q
theorem rd_lst (q : tr σ H fun xs H1 => xs.length ≤ sizeLine ∧ ∀ p, H1 p = none → Q (.ref p) (upd H1 p (.lst xs))) : tLst tr σ H Q := q
theorem rd_par {i j : Nat} (q : tr σ H fun vs H1 => ∃ v w, vs = [v, w] ∧ D.nx ((σ.set i (some v)).set j (some w)) H1) : tPar i j tr D σ H := q
theorem rd_two {P : V → V → Prop} {a b : V} (q : P a b) : ∃ v w, [a, b] = [v, w] ∧ P v w := ⟨a, b, rfl, q⟩
theorem rd_bm {T : String} {r : V → List V → Hp → VK → Prop} (q : te σ H fun x H1 => tyV K T x H1 ∧ tr σ H1 fun xs H2 => r x xs H2 Q) : tBM K T r te tr σ H Q := q
theorem rd_app {a : Addr} {xs : List V} (h : H a = some (.lst xs)) (z : xs.length < 1000000) (q : Q .non (upd H a (.lst (xs ++ [v])))) : rAppend (.ref a) [v] H Q := ⟨a, xs, v, rfl, rfl, h, Nat.lt_of_lt_of_le z (by decide), q⟩
theorem ty_list {a : Addr} {xs : List V} (h : SqL K H a xs) : tyV K "list" (.ref a) H := .inl ⟨rfl, _, h⟩
theorem rd_sl {r : V → Option Int → Option Int → Hp → VK → Prop} {tl th : TO} (q : te σ H fun x H1 => tl σ H1 fun l H2 => th σ H2 fun u H3 => r x l u H3 Q) : tSl r te tl th σ H Q := q
theorem rd_noPart {QO : Option Int → Hp → Prop} (q : QO none H) : tNoPart σ H QO := q
theorem rd_part {QO : Option Int → Hp → Prop} (q : te σ H fun x H1 => ∃ i, x = .int i ∧ QO (some i) H1) : tPart te σ H QO := q
theorem rd_int {P : Int → Prop} {k : Int} (q : P k) : ∃ i, V.int k = V.int i ∧ P i := ⟨k, rfl, q⟩
theorem rd_dec {A B p : Prop} [Decidable p] (h1 : p → A) (h2 : ¬ p → B) : if decide p = true then A else B := by
  by_cases h : p
  · rw [decide_eq_true h, if_pos rfl]; exact h1 h
  · rw [decide_eq_false h, if_neg Bool.false_ne_true]; exact h2 h
theorem rd_decN {A B p : Prop} [Decidable p] (h1 : p → B) (h2 : ¬ p → A) : if (!decide p) = true then A else B := by
  by_cases h : p
  · rw [decide_eq_true h, if_neg (show ¬ (!true) = true by decide)]; exact h1 h
  · rw [decide_eq_false h, if_pos (show (!false) = true by decide)]; exact h2 h
theorem rd_nT {A B : Prop} (h : B) : if (!true) = true then A else B := by rw [if_neg (show ¬ (!true) = true by decide)]; exact h
theorem rd_nF {A B : Prop} (h : A) : if (!false) = true then A else B := by rw [if_pos (show (!false) = true by decide)]; exact h
theorem rd_iT {A B : Prop} (h : A) : if true = true then A else B := h
theorem rd_iF {A B : Prop} (h : B) : if false = true then A else B := by rw [if_neg Bool.false_ne_true]; exact h
/-! operators of ints -/
theorem rd_I0 {g : Int → Int → V} {a b : Int} (q : Q (g a b) H) : rI0 g (.int a) (.int b) H Q := ⟨a, b, rfl, rfl, q⟩
theorem rd_I {C : Int → Int → Prop} {g : Int → Int → V} {a b : Int} (c : C a b) (q : Q (g a b) H) : rI C g (.int a) (.int b) H Q := ⟨a, b, rfl, rfl, c, q⟩
theorem rd_U {g : Int → V} {a : Int} (q : Q (g a) H) : rU g (.int a) H Q := ⟨a, rfl, q⟩
/-! is None -/
theorem rd_isN (q : Q (.bl (decide (x = .non))) H) : rIsN x .non H Q := ⟨rfl, q⟩
theorem rd_notN (q : Q (.bl (!decide (x = .non))) H) : rNotN x .non H Q := ⟨rfl, q⟩
theorem int_non {a : Int} : decide (V.int a = V.non) = false := decide_eq_false (fun z => nomatch z)
theorem str_non {a : Str} : decide (V.str a = V.non) = false := decide_eq_false (fun z => nomatch z)
theorem bl_non {a : Bool} : decide (V.bl a = V.non) = false := decide_eq_false (fun z => nomatch z)
theorem ref_non {a : Addr} : decide (V.ref a = V.non) = false := decide_eq_false (fun z => nomatch z)
theorem non_non : decide (V.non = V.non) = true := decide_eq_true rfl
theorem int_eq {a b : Int} : decide (V.int a = V.int b) = decide (a = b) := by
  by_cases h : a = b
  · subst h; rw [decide_eq_true rfl, decide_eq_true rfl]
  · rw [decide_eq_false h, decide_eq_false (fun z => h (V.int.inj z))]
theorem bl_eq {a b : Bool} : decide (V.bl a = V.bl b) = decide (a = b) := by
  by_cases h : a = b
  · subst h; rw [decide_eq_true rfl, decide_eq_true rfl]
  · rw [decide_eq_false h, decide_eq_false (fun z => h (V.bl.inj z))]
theorem str_eq {a b : Str} : decide (V.str a = V.str b) = decide (a = b) := by
  by_cases h : a = b
  · subst h; rw [decide_eq_true rfl, decide_eq_true rfl]
  · rw [decide_eq_false h, decide_eq_false (fun z => h (V.str.inj z))]
end

/-! ### rules of several kinds -/
/-- a + b -/
def rStrAdd : R2 := fun x y H Q => ∃ i j, x = .str i ∧ y = .str j ∧ i.length + j.length ≤ sizeLine ∧ Q (.str (i ++ j)) H
def gAdd (K : PySem.W.Frag) : R2 := fun x y H Q => rI0 (fun i j => .int (i + j)) x y H Q ∨ rStrAdd x y H Q ∨ rCat x y H Q ∨ rCatA K x y H Q
/-- a == b: scalars; data -/
def gEq (K : PySem.W.Frag) : R2 := fun x y H Q => rEq x y H Q ∨ rEqD K x y H Q
def gNe (K : PySem.W.Frag) : R2 := fun x y H Q => rNe x y H Q ∨ rNeD K x y H Q
/-- a * b: ints; a list's copies -/
def gMul : R2 := fun x y H Q => rI CMul (fun i j => .int (i * j)) x y H Q ∨ rRep x y H Q
/-- a < b -/
def rStrLt : R2 := fun x y H Q => ∃ i j, x = .str i ∧ y = .str j ∧ Q (.bl (decide (i.cps.toList < j.cps.toList))) H
/-- a < b of data that can be compared place by place -/
def rLtD (K : PySem.W.Frag) : R2 := fun x y H Q => ∃ d e, Dp K H x d ∧ Dp K H y e ∧ PySem.W.alike d e = true ∧ d ≠ .none ∧ PyData.depth d ≤ 64 ∧ Q (.bl (PySem.W.dataLt d e)) H
theorem op_ltD {X : Cx} (hu : X.A.units + 64 < cLine) : OpR X (compareOp .Lt) (rLtD X.K) := by
  rintro pins s σ H x y v u Q hI hv hu' ⟨d, e, hd, he, hal, hno, hdep, hQ⟩
  have ⟨l1, hr1⟩ := Dp.reads hI d x v hd hv
  have ⟨l2, hr2⟩ := Dp.reads hI e y u he hu'
  have room : X.A.units + min d.depth e.depth < cLine := by
    have hm := Nat.min_le_left d.depth e.depth
    omega
  exact PySem.W.rcLt_alike d e X.A s v u l1 l2 hr1 hr2 hal hno room _ _ _ _ ⟨.bl _, H, hI, rfl, hQ⟩
def gLt (K : PySem.W.Frag) : R2 := fun x y H Q => rI0 (fun i j => .bl (decide (i < j))) x y H Q ∨ rStrLt x y H Q ∨ rLtD K x y H Q
/-- x in y: a sign of a text; of a list or tuple of flat things; data in a list -/
def gIn (K : PySem.W.Frag) : R2 := fun x y H Q => rInS x y H Q ∨ rIn K false x y H Q
def gNotIn (K : PySem.W.Frag) : R2 := fun x y H Q => rNotInS x y H Q ∨ rIn K true x y H Q
def gSl (K : PySem.W.Frag) : V → Option Int → Option Int → Hp → VK → Prop := fun x lo hi H Q => rSlL K x lo hi H Q ∨ rSlS x lo hi H Q ∨ rSlT K x lo hi H Q
def rSeqOf (K : PySem.W.Frag) (x : V) (H : Hp) (xs : List V) : Prop := ∃ p, x = .ref p ∧ (SqL K H p xs ∨ SqT K H p xs)
def gLen (K : PySem.W.Frag) : List V → Hp → VK → Prop := fun xs H Q => ∃ x n, xs = [x] ∧ LenV K x H n ∧ Q (.int n) H
def gInt : List V → Hp → VK → Prop := fun xs H Q => ((∃ i, xs = [.int i] ∧ Q (.int i) H) ∨ ∃ k, xs = [.bl k] ∧ Q (.int (if k then 1 else 0)) H) ∨ (∃ a n, xs = [.str a] ∧ PySem.intText? a = some n ∧ a.length ≤ 640 ∧ Q (.int n) H)
def gBool : List V → Hp → VK → Prop := fun xs H Q => (∃ i, xs = [.int i] ∧ Q (.bl (i != 0)) H) ∨ ∃ k, xs = [.bl k] ∧ Q (.bl k) H
def gList (K : PySem.W.Frag) : List V → Hp → VK → Prop := fun xs H Q => ∃ p ys, xs = [.ref p] ∧ (SqL K H p ys ∨ SqT K H p ys) ∧ ∀ l, H l = none → Q (.ref l) (upd H l (.lst ys))
def gTuple (K : PySem.W.Frag) : List V → Hp → VK → Prop := fun xs H Q => ∃ p ys, xs = [.ref p] ∧ ((SqL K H p ys ∧ ∀ l, H l = none → Q (.ref l) (upd H l (.tup ys))) ∨ (SqT K H p ys ∧ Q (.ref p) H))
def gIsi (K : PySem.W.Frag) : List V → Hp → VK → Prop := fun xs H Q => rIsi K xs H Q ∨ rIsiT K xs H Q
def gRange1 : Nat := 0
section
variable {X : Cx}
theorem og_add : OpR X (binaryOp .Add) (gAdd X.K) := op_add.or (op_add_str.or (op_cat.or op_catA))
theorem og_sub : OpR X (binaryOp .Sub) (rI0 fun i j => .int (i - j)) := op_sub
theorem og_mul : OpR X (binaryOp .Mult) gMul := op_mul.or op_rep
theorem og_mod : OpR X (binaryOp .Mod) (rI (fun _ j => j ≠ 0) fun i j => .int (i.fmod j)) := op_modN
theorem og_fdiv : OpR X (binaryOp .FloorDiv) (rI CDivN fun i j => .int (i.fdiv j)) := op_fdivN
theorem og_pow : OpR X (binaryOp .Pow) (rI CPow fun i j => .int (i ^ j.toNat)) := op_pow
theorem og_eq (hu : X.A.units + 64 < cLine) : OpR X (compareOp .Eq) (gEq X.K) := op_eq.or (op_eqD hu)
theorem og_ne (hu : X.A.units + 64 < cLine) : OpR X (compareOp .NotEq) (gNe X.K) := op_ne.or (op_neD hu)
theorem og_lt (hu : X.A.units + 64 < cLine) : OpR X (compareOp .Lt) (gLt X.K) := op_lt.or (op_lt_str.or (op_ltD hu))
theorem og_le : OpR X (compareOp .LtE) (rI0 fun i j => .bl (decide (i ≤ j))) := op_le
theorem og_gt : OpR X (compareOp .Gt) (rI0 fun i j => .bl (decide (j < i))) := op_gt
theorem og_ge : OpR X (compareOp .GtE) (rI0 fun i j => .bl (decide (j ≤ i))) := op_ge
theorem og_in : OpR X (compareOp .In) (gIn X.K) := op_inS.or op_in_seq
theorem og_notIn : OpR X (compareOp .NotIn) (gNotIn X.K) := op_notInS.or op_notIn_seq
theorem og_sl : SlR X (gSl X.K) := sl_list.or (sl_str.or sl_tup)
theorem cg_len : CallR X (.builtin "len") (gLen X.K) := call_len
theorem cg_int : CallR X (.type "int") gInt := call_int1.or call_int_str
theorem cg_bool : CallR X (.type "bool") gBool := call_bool1
theorem cg_list : CallR X (.type "list") (gList X.K) := call_list_of
theorem cg_tuple : CallR X (.type "tuple") (gTuple X.K) := call_tuple_of
theorem cg_isi : CallR X (.builtin "isinstance") (gIsi X.K) := call_isi.or call_isiT
end
section
variable {K : PySem.W.Frag} {σ : L2.St} {H : Hp} {v x y : V} {Q : VK}
theorem rd_addI {a b : Int} (q : Q (.int (a + b)) H) : gAdd K (.int a) (.int b) H Q := .inl ⟨a, b, rfl, rfl, q⟩
theorem rd_addS {a b : Str} (h : a.length + b.length ≤ sizeLine) (q : Q (.str (a ++ b)) H) : gAdd K (.str a) (.str b) H Q := .inr (.inl ⟨a, b, rfl, rfl, h, q⟩)
theorem rd_addL {a b : Addr} {xs ys : List V} (h1 : H a = some (.lst xs)) (h2 : H b = some (.lst ys)) (h : xs.length + ys.length ≤ sizeLine) (q : ∀ p, H p = none → Q (.ref p) (upd H p (.lst (xs ++ ys)))) : gAdd K (.ref a) (.ref b) H Q := .inr (.inr (.inl ⟨a, b, xs, ys, rfl, rfl, h1, h2, h, q⟩))
theorem rd_mulI {a b : Int} (h : CMul a b) (q : Q (.int (a * b)) H) : gMul (.int a) (.int b) H Q := .inl ⟨a, b, rfl, rfl, h, q⟩
theorem rd_eqI {a b : Int} (q : Q (.bl (decide (a = b))) H) : gEq K (.int a) (.int b) H Q := .inl ⟨rfl, by rw [int_eq]; exact q⟩
theorem rd_neI {a b : Int} (q : Q (.bl (!decide (a = b))) H) : gNe K (.int a) (.int b) H Q := .inl ⟨rfl, by rw [int_eq]; exact q⟩
theorem rd_eqB {a b : Bool} (q : Q (.bl (decide (a = b))) H) : gEq K (.bl a) (.bl b) H Q := .inl ⟨rfl, by rw [bl_eq]; exact q⟩
theorem rd_neB {a b : Bool} (q : Q (.bl (!decide (a = b))) H) : gNe K (.bl a) (.bl b) H Q := .inl ⟨rfl, by rw [bl_eq]; exact q⟩
theorem rd_eqS {a b : Str} (q : Q (.bl (decide (a = b))) H) : gEq K (.str a) (.str b) H Q := .inl ⟨rfl, by rw [str_eq]; exact q⟩
theorem rd_neS {a b : Str} (q : Q (.bl (!decide (a = b))) H) : gNe K (.str a) (.str b) H Q := .inl ⟨rfl, by rw [str_eq]; exact q⟩
theorem rd_eqD {d e : PyData} (h1 : Dp K H x d) (h2 : Dp K H y e) (s1 : SeqAt.shaped d = true) (s2 : SeqAt.shaped e = true) (q : Q (.bl (PyData.eqv d e)) H) : gEq K x y H Q := .inr ⟨d, e, h1, h2, s1, s2, q⟩
theorem rd_neD {d e : PyData} (h1 : Dp K H x d) (h2 : Dp K H y e) (s1 : SeqAt.shaped d = true) (s2 : SeqAt.shaped e = true) (q : Q (.bl (!PyData.eqv d e)) H) : gNe K x y H Q := .inr ⟨d, e, h1, h2, s1, s2, q⟩
theorem rd_ltI {a b : Int} (q : Q (.bl (decide (a < b))) H) : gLt K (.int a) (.int b) H Q := .inl ⟨a, b, rfl, rfl, q⟩
theorem rd_ltD {d e : PyData} (h1 : Dp K H x d) (h2 : Dp K H y e) (a : PySem.W.alike d e = true) (n : d ≠ .none) (z : PyData.depth d ≤ 64) (q : Q (.bl (PySem.W.dataLt d e)) H) : gLt K x y H Q := .inr (.inr ⟨d, e, h1, h2, a, n, z, q⟩)
theorem rd_intI {a : Int} (q : Q (.int a) H) : gInt [.int a] H Q := .inl (.inl ⟨a, rfl, q⟩)
theorem rd_intB {k : Bool} (q : Q (.int (if k then 1 else 0)) H) : gInt [.bl k] H Q := .inl (.inr ⟨k, rfl, q⟩)
theorem rd_boolB {k : Bool} (q : Q (.bl k) H) : gBool [.bl k] H Q := .inr ⟨k, rfl, q⟩
theorem rd_boolI {k : Int} (q : Q (.bl (k != 0)) H) : gBool [.int k] H Q := .inl ⟨k, rfl, q⟩
theorem rd_lenL {a : Addr} {xs : List V} (h : SqL K H a xs) (q : Q (.int xs.length) H) : gLen K [.ref a] H Q := ⟨.ref a, xs.length, rfl, .inl ⟨xs, h, rfl⟩, q⟩
theorem rd_lenT {a : Addr} {xs : List V} (h : SqT K H a xs) (q : Q (.int xs.length) H) : gLen K [.ref a] H Q := ⟨.ref a, xs.length, rfl, .inr ⟨xs, h, rfl⟩, q⟩
theorem rd_lenS {z : Str} (h : z.length ≤ sizeLine) (q : Q (.int z.length) H) : gLen K [.str z] H Q := ⟨.str z, z.length, rfl, ⟨h, rfl⟩, q⟩
theorem rd_ixL {a : Addr} {xs : List V} {i : Int} (h : SqL K H a xs) (e : atI xs i = some v) (q : Q v H) : rIx K (.ref a) (.int i) H Q := .inl ⟨a, xs, i, v, rfl, rfl, h, e, q⟩
theorem rd_ixT {a : Addr} {xs : List V} {i : Int} (h : SqT K H a xs) (e : atI xs i = some v) (q : Q v H) : rIx K (.ref a) (.int i) H Q := .inr (.inl ⟨a, xs, i, v, rfl, rfl, h, e, q⟩)
theorem rd_ixS {z : Str} {c : Nat} {i : Int} (h : z.length ≤ sizeLine) (e : atI z.cps.toList i = some c) (q : Q (.str ⟨#[c]⟩) H) : rIx K (.str z) (.int i) H Q := .inr (.inr ⟨z, i, c, rfl, rfl, h, e, q⟩)
theorem rd_all {a : Addr} {bs : List Bool} (h : SqL K H a (bs.map V.bl)) (q : Q (.bl (bs.all id)) H) : rAll K [.ref a] H Q := ⟨a, bs, rfl, h, q⟩
theorem rd_any {a : Addr} {bs : List Bool} (h : SqL K H a (bs.map V.bl)) (q : Q (.bl (bs.any id)) H) : rAny K [.ref a] H Q := ⟨a, bs, rfl, h, q⟩
theorem rd_slL {a : Addr} {xs : List V} {lo hi : Option Int} (h : SqL K H a xs) (q : ∀ p, H p = none → Q (.ref p) (upd H p (.lst (cutV xs lo hi)))) : gSl K (.ref a) lo hi H Q := .inl ⟨a, xs, rfl, h, q⟩
end

/-! The law's bag of draws. -/
theorem rd_sub {to ti : TE} {t : TSet} {v : V} {σ : L2.St} {H : Hp} {N : L2.St → Hp → Prop} (q : to σ H fun o H1 => ti σ H1 fun i H2 => t o i v H2 fun H3 => N σ H3) : gSub to ti t v σ H N := q
theorem rd_setL {p : Addr} {xs : List V} {k : Int} {j : Nat} {v : V} {H : Hp} {Q : Hp → Prop} (h : H p = some (.lst xs)) (e : ixN xs.length k = some j) (q : Q (upd H p (.lst (xs.set j v)))) : rSetL (.ref p) (.int k) v H Q := ⟨p, xs, k, j, rfl, rfl, h, e, q⟩
local macro_rules | `(tactic| walk_at "sql") => `(tactic| first
  | exact sq_of (by assumption)
  | assumption
  | exact ex_l (Stt.ex (by assumption)) (by assumption)
  | exact sq_of upd_same)
local macro_rules | `(tactic| walk_at "sqt") => `(tactic| first
  | exact st_of (by assumption)
  | assumption
  | exact ex_t (Stt.ex (by assumption)) (by assumption)
  | exact st_of upd_same)
local macro_rules | `(tactic| walk_at "ix") => `(tactic| first
  | ((with_reducible refine' rd_ixL ?h1 ?h2 ?_); (case h1 => walk_at "sql"); (case h2 => exact rfl))
  | ((with_reducible refine' rd_ixT ?h1 ?h2 ?_); (case h1 => walk_at "sqt"); (case h2 => exact rfl)))
local macro_rules | `(tactic| walk_at "go1") => `(tactic| first
  | with_reducible refine rd_seq ?_
  | with_reducible refine rd_op ?_
  | with_reducible refine rd_c ?_
  | ((with_reducible refine' rd_var ?hv ?_); (case hv => exact rfl))
  | with_reducible refine rd_cons ?_
  | with_reducible refine rd_nil ?_
  | with_reducible refine rd_asg ?_
  | with_reducible refine rd_name ?_
  | with_reducible refine rd_ret ?_
  | with_reducible refine rd_ifs ?_
  | with_reducible refine rd_test ?_
  | with_reducible refine rd_B ?_
  | with_reducible refine rd_bl ?_
  | with_reducible refine rd_and ?_
  | with_reducible refine rd_or ?_
  | with_reducible refine rd_not ?_
  | with_reducible refine rd_andV ?_
  | with_reducible refine rd_orV ?_
  | with_reducible refine rd_notV ?_
  | with_reducible refine rd_if ?_
  | with_reducible refine rd_iT ?_
  | with_reducible refine rd_iF ?_
  | with_reducible refine rd_nT ?_
  | with_reducible refine rd_nF ?_
  | with_reducible refine rd_cb ?_
  | with_reducible refine rd_call ?_
  | with_reducible refine rd_callK ?_
  | with_reducible refine rd_next ?_
  | with_reducible refine rd_drop ?_
  | with_reducible refine rd_par ?_
  | with_reducible refine rd_two ?_
  | with_reducible refine rd_bm ?_
  | with_reducible refine rd_tup ?_
  | with_reducible refine rd_lst ?_
  | with_reducible refine rd_sl ?_
  | with_reducible refine rd_noPart ?_
  | with_reducible refine rd_part ?_
  | with_reducible refine rd_int ?_
  | with_reducible refine rd_un ?_
  | with_reducible refine rd_I0 ?_
  | with_reducible refine rd_U ?_
  | with_reducible refine rd_isN ?_
  | with_reducible refine rd_notN ?_
  | with_reducible refine rd_addI ?_
  | with_reducible refine rd_eqI ?_
  | with_reducible refine rd_neI ?_
  | with_reducible refine rd_eqB ?_
  | with_reducible refine rd_neB ?_
  | with_reducible refine rd_eqS ?_
  | with_reducible refine rd_neS ?_
  | with_reducible refine rd_ltI ?_
  | with_reducible refine rd_intI ?_
  | with_reducible refine rd_intB ?_
  | with_reducible refine rd_boolB ?_
  | with_reducible refine rd_boolI ?_
  | with_reducible refine rd_sub ?_
  | walk_at "ix")
local macro_rules | `(tactic| walk_at "go") => `(tactic| (repeat walk_at "go1"); (try dsimp only))
local macro_rules | `(tactic| walk_at "dec") => `(tactic| first
  | ((with_reducible refine rd_dec (fun e => ?_) (fun e => ?_)) <;> first | (exfalso; revert e; decide) | (exfalso; cases e; done) | exact absurd rfl e | skip)
  | ((with_reducible refine rd_decN (fun e => ?_) (fun e => ?_)) <;> first | (exfalso; revert e; decide) | (exfalso; cases e; done) | exact absurd rfl e | skip))

def bagO (c : Addr) (i r x n : Int) : HO := .lst [.ref c, .int i, .int r, .int x, .int n]
def Bag (K : PySem.W.Frag) (G H : Hp) (b : Addr) (L : List (Addr × HO)) : Prop :=
  ∃ (c : Addr) (i r x n : Int) (ns : List Int), Stt G H ((b, .lst [.ref c, .int i, .int r, .int x, .int n]) :: L) ∧ SqL K G c (ns.map V.int) ∧ 0 ≤ i ∧ 0 ≤ r ∧ 0 ≤ x ∧ x < 2147483587 ∧ 0 ≤ n
def sp_draw (K : PySem.W.Frag) : Sp := fun vs H Q _ => ∃ (b : Addr) (m : Int) (G : Hp) (L : List (Addr × HO)), vs = [.ref b, .int m] ∧ 0 < m ∧ m < 1073741824 ∧ Bag K G H b L ∧
  ∀ d H', 0 ≤ d → d < m → Bag K G H' b L → Q (.int d) H'
def t_draw_0a_3 (K : PySem.W.Frag) : TS :=
  (tAsg (tOp (rI (fun _ j => j ≠ 0) fun i j => .int (i.fmod j)) (tCB gInt (tCons (tOp (gAdd K) (tOp (gAdd K) (tOp gMul (tOp (rIx K) (tVar 0) (tC (.int 3))) (tC (.int 40039))) (tOp gMul (tOp (rI (fun _ j => j ≠ 0) fun i j => .int (i.fmod j)) (tCB gInt (tCons (tVar 2) tNil)) (tC (.int 2147483549))) (tC (.int 337)))) (tC (.int 2017))) tNil)) (tC (.int 2147483587))) (gSub (tVar 0) (tC (.int 3)) rSetL))
def t_draw_0a_2 (K : PySem.W.Frag) : TS :=
  (tSeq (tAsg (tIf (tTest (tOp (rI0 fun i j => .bl (decide (j ≤ i))) (tVar 2) (tOp (rI CPow fun i j => .int (i ^ j.toNat)) (tC (.int 10)) (tC (.int 18))))) (tVar 2) (tC (.int 0))) (gSub (tVar 0) (tC (.int 2)) rSetL))
  (t_draw_0a_3 K))
def t_draw_0a_1 (K : PySem.W.Frag) : TS :=
  (tSeq (tAsg (tOp (gAdd K) (tOp (rIx K) (tVar 0) (tC (.int 1))) (tC (.int 1))) (gSub (tVar 0) (tC (.int 1)) rSetL))
  (t_draw_0a_2 K))
def t_draw_1a_2 (K : PySem.W.Frag) : TS :=
  (tRet (tVar 3))
def t_draw_1a_1 (K : PySem.W.Frag) : TS :=
  (tSeq (tAsg (tOp (rI CDivN fun i j => .int (i.fdiv j)) (tOp (rIx K) (tVar 0) (tC (.int 2))) (tVar 1)) (gSub (tVar 0) (tC (.int 2)) rSetL))
  (t_draw_1a_2 K))
def t_draw_5 (K : PySem.W.Frag) : TS :=
  (tRet (tOp (rI (fun _ j => j ≠ 0) fun i j => .int (i.fmod j)) (tCB gInt (tCons (tOp (gAdd K) (tOp (gAdd K) (tOp (rI CDivN fun i j => .int (i.fdiv j)) (tOp (rIx K) (tVar 0) (tC (.int 3))) (tC (.int 61))) (tOp gMul (tVar 4) (tC (.int 32003)))) (tOp (rIx K) (tVar 0) (tC (.int 4)))) tNil)) (tVar 1)))
def t_draw_4 (K : PySem.W.Frag) : TS :=
  (tSeq (tAsg (tOp (rI (fun _ j => j ≠ 0) fun i j => .int (i.fmod j)) (tCB gInt (tCons (tOp (gAdd K) (tOp (gAdd K) (tOp (gAdd K) (tOp gMul (tVar 4) (tVar 4)) (tOp gMul (tC (.int 65063)) (tVar 4))) (tOp gMul (tC (.int 6679)) (tOp (rIx K) (tVar 0) (tC (.int 4))))) (tC (.int 40009))) tNil)) (tC (.int 2147483587))) (gSub (tVar 0) (tC (.int 3)) rSetL))
  (t_draw_5 K))
def t_draw_3 (K : PySem.W.Frag) : TS :=
  (tSeq (tAsg (tOp (rIx K) (tVar 0) (tC (.int 3))) (gName 4))
  (t_draw_4 K))
def t_draw_2 (K : PySem.W.Frag) : TS :=
  (tSeq (tAsg (tOp (gAdd K) (tOp (rIx K) (tVar 0) (tC (.int 4))) (tC (.int 1))) (gSub (tVar 0) (tC (.int 4)) rSetL))
  (t_draw_3 K))
def t_draw_1 (K : PySem.W.Frag) : TS :=
  (tSeq (tIfS (tTest (tOp (rI0 fun i j => .bl (decide (j < i))) (tOp (rIx K) (tVar 0) (tC (.int 2))) (tC (.int 0)))) (tSeq (tAsg (tOp (rI (fun _ j => j ≠ 0) fun i j => .int (i.fmod j)) (tCB gInt (tCons (tOp (rIx K) (tVar 0) (tC (.int 2))) tNil)) (tVar 1)) (gName 3))
  (t_draw_1a_1 K)) tNext)
  (t_draw_2 K))
def t_draw (K : PySem.W.Frag) : TS :=
  (tSeq (tIfS (tAnd (tTest (tOp (gEq K) (tOp (rIx K) (tVar 0) (tC (.int 2))) (tC (.int 0)))) (tTest (tOp (gLt K) (tOp (rIx K) (tVar 0) (tC (.int 1))) (tCB (gLen K) (tCons (tOp (rIx K) (tVar 0) (tC (.int 0))) tNil))))) (tSeq (tAsg (tOp (rIx K) (tOp (rIx K) (tVar 0) (tC (.int 0))) (tOp (rIx K) (tVar 0) (tC (.int 1)))) (gName 2))
  (t_draw_0a_1 K)) tNext)
  (t_draw_1 K))
theorem fmod_lo (a : Int) {b : Int} (h : 0 < b) : 0 ≤ a.fmod b := by rw [Int.fmod_eq_emod_of_nonneg a (by omega)]; exact Int.emod_nonneg a (by omega)
theorem fmod_hi (a : Int) {b : Int} (h : 0 < b) : a.fmod b < b := by rw [Int.fmod_eq_emod_of_nonneg a (by omega)]; exact Int.emod_lt_of_pos a h
theorem fdiv_lo {a b : Int} (ha : 0 ≤ a) (h : 0 < b) : 0 ≤ a.fdiv b := by rw [Int.fdiv_eq_ediv_of_nonneg a (by omega)]; exact Int.ediv_nonneg ha (by omega)
theorem read_draw_1 {K : PySem.W.Frag} {b c : Addr} {m i r x n : Int} {ns : List Int} {G H : Hp} {L : List (Addr × HO)} {D : Ends} {s2 s3 s4 : Option V} (m0 : 0 < m) (m1 : m < 1073741824)
    (S : Stt G H ((b, .lst [.ref c, .int i, .int r, .int x, .int n]) :: L)) (hc : SqL K G c (ns.map V.int)) (hi : 0 ≤ i) (hr : 0 ≤ r) (hx : 0 ≤ x) (hx2 : x < 2147483587) (hn : 0 ≤ n)
    (q : ∀ d H', 0 ≤ d → d < m → Bag K G H' b L → D.rt (.int d) H') : t_draw_1 K D [some (.ref b), some (.int m), s2, s3, s4] H := by
  have hb := S.at 0 rfl
  unfold t_draw_1
  walk_at "go"
  refine rd_dec (fun e => ?_) (fun e => ?_)
  · walk_at "go"
    refine rd_I (by omega) ?_
    walk_at "go"
    unfold t_draw_1a_1
    walk_at "go"
    refine rd_I ⟨by omega, by omega⟩ ?_
    walk_at "go"
    refine rd_setL hb rfl ?_
    unfold t_draw_1a_2
    walk_at "go"
    exact q _ _ (fmod_lo _ m0) (fmod_hi _ m0) ⟨c, i, r.fdiv m, x, n, ns, S.wr 0 rfl, hc, hi, fdiv_lo hr m0, hx, hx2, hn⟩
  · walk_at "go"
    unfold t_draw_2
    walk_at "go"
    refine rd_setL hb rfl ?_
    have S2 : Stt G (upd H b _) ((b, .lst [.ref c, .int i, .int r, .int x, .int (n + 1)]) :: L) := S.wr 0 rfl
    have hb2 := S2.at 0 rfl
    unfold t_draw_3
    walk_at "go"
    unfold t_draw_4
    walk_at "go"
    refine rd_mulI (.inl ⟨by omega, by omega⟩) ?_
    walk_at "go"
    refine rd_mulI (.inl ⟨by omega, by omega⟩) ?_
    walk_at "go"
    refine rd_mulI (.inl ⟨by omega, by omega⟩) ?_
    walk_at "go"
    refine rd_I (by decide) ?_
    walk_at "go"
    refine rd_setL hb2 rfl ?_
    have S3 : Stt G _ ((b, .lst [.ref c, .int i, .int r, .int ((x * x + 65063 * x + 6679 * (n + 1) + 40009).fmod 2147483587), .int (n + 1)]) :: L) := S2.wr 0 rfl
    have hb3 := S3.at 0 rfl
    unfold t_draw_5
    walk_at "go"
    refine rd_I ⟨by decide, by decide⟩ ?_
    walk_at "go"
    refine rd_mulI (.inl ⟨by omega, by omega⟩) ?_
    walk_at "go"
    refine rd_I (by omega) ?_
    exact q _ _ (fmod_lo _ m0) (fmod_hi _ m0) ⟨c, i, r, _, n + 1, ns, S3, hc, hi, hr, fmod_lo _ (by decide), fmod_hi _ (by decide), by omega⟩
theorem read_draw {K : PySem.W.Frag} {b : Addr} {m : Int} {G H : Hp} {L : List (Addr × HO)} {D : Ends} {s2 s3 s4 : Option V} (m0 : 0 < m) (m1 : m < 1073741824)
    (B : Bag K G H b L) (q : ∀ d H', 0 ≤ d → d < m → Bag K G H' b L → D.rt (.int d) H') : t_draw K D [some (.ref b), some (.int m), s2, s3, s4] H := by
  obtain ⟨c, i, r, x, n, ns, S, hc, hi, hr, hx, hx2, hn⟩ := B
  obtain ⟨j, rfl⟩ : ∃ j : Nat, i = (j : Int) := ⟨i.toNat, by omega⟩
  have hb := S.at 0 rfl
  unfold t_draw
  walk_at "go"
  refine rd_dec (fun e => ?_) (fun e => ?_)
  · walk_at "go"
    refine rd_lenL (ex_l S.ex hc) ?_
    walk_at "go"
    refine rd_dec (fun e2 => ?_) (fun e2 => ?_)
    · walk_at "go"
      rw [List.length_map] at e2
      have hi2 : j < ns.length := by omega
      refine rd_ixL (ex_l S.ex hc) (v := .int ns[j]) ?_ ?_
      · refine atI_nat ?_
        rw [List.getElem?_map, List.getElem?_eq_getElem hi2]
        rfl
      walk_at "go"
      unfold t_draw_0a_1
      walk_at "go"
      refine rd_setL hb rfl ?_
      have S2 : Stt G _ ((b, .lst [.ref c, .int ((j : Int) + 1), .int r, .int x, .int n]) :: L) := S.wr 0 rfl
      have hb2 := S2.at 0 rfl
      unfold t_draw_0a_2
      walk_at "go"
      refine rd_I ⟨by decide, by decide, by decide⟩ ?_
      walk_at "go"
      have key : ∀ r', 0 ≤ r' → t_draw_0a_3 K { D with nx := t_draw_1 K D } [some (.ref b), some (.int m), some (.int ns[j]), s3, s4] (upd (upd H b (.lst [.ref c, .int ((j : Int) + 1), .int r, .int x, .int n])) b (.lst [.ref c, .int ((j : Int) + 1), .int r', .int x, .int n])) := by
        intro r' hr'
        have S3 : Stt G _ ((b, .lst [.ref c, .int ((j : Int) + 1), .int r', .int x, .int n]) :: L) := S2.wr 0 rfl
        have hb3 := S3.at 0 rfl
        unfold t_draw_0a_3
        walk_at "go"
        refine rd_mulI (.inr ⟨by decide, by decide⟩) ?_
        walk_at "go"
        refine rd_I (by decide) ?_
        walk_at "go"
        refine rd_mulI (.inr ⟨by decide, by decide⟩) ?_
        walk_at "go"
        refine rd_I (by decide) ?_
        walk_at "go"
        refine rd_setL hb3 rfl ?_
        refine read_draw_1 m0 m1 (S3.wr 0 rfl) hc (by omega) hr' (fmod_lo _ (by decide)) (fmod_hi _ (by decide)) hn q
      refine rd_dec (fun e3 => ?_) (fun e3 => ?_)
      · walk_at "go"
        refine rd_setL hb2 rfl ?_
        exact key _ (by have e3' : (10 : Int) ^ (18 : Int).toNat ≤ ns[j] := e3; have : (0 : Int) < 10 ^ (18 : Int).toNat := by decide
                        omega)
      · walk_at "go"
        refine rd_setL hb2 rfl ?_
        exact key 0 (by decide)
    · walk_at "go"
      exact read_draw_1 m0 m1 S hc hi hr hx hx2 hn q
  · walk_at "go"
    exact read_draw_1 m0 m1 S hc hi hr hx hx2 hn q

/-! Comprehensions and loops over the unchanging heap. -/
/-- what may be said of the heaps: it stays behind a new object, a list at its head may be written -/
structure Wd (W : Hp → Hp → List (Addr × HO) → Prop) : Prop where
  ex : ∀ {G H L}, W G H L → Ex G H
  new : ∀ {G H L p o}, W G H L → H p = none → W (upd G p o) (upd H p o) L
  mk2 : ∀ {G H L p o}, W G H L → H p = none → W G (upd H p o) ((p, o) :: L)
  get : ∀ {G H L p o}, W G H ((p, o) :: L) → H p = some o
  set : ∀ {G H L p o o'}, W G H ((p, o) :: L) → W G (upd H p o') ((p, o') :: L)
  free : ∀ {G H L p}, W G H L → H p = none → G p = none
  drop : ∀ {G H L p o}, W G H ((p, o) :: L) → W G H L
  frz : ∀ {G H L p o}, W G H ((p, o) :: L) → W (upd G p o) H L ∧ Ex G (upd G p o)
theorem stt_world : Wd Stt := ⟨Stt.ex, Stt.new, Stt.mkL, fun S => S.at 0 rfl, fun S => S.wr 0 rfl, Stt.free, Stt.drop, fun S => ⟨S.frz, S.frzE⟩⟩
theorem Wd.newE {W : Hp → Hp → List (Addr × HO) → Prop} (hW : Wd W) {G H : Hp} {L : List (Addr × HO)} {p : Addr} {o : HO} (S : W G H L) (h : H p = none) : Ex G (upd G p o) := Ex.new (hW.free S h)
section
variable {W : Hp → Hp → List (Addr × HO) → Prop} {K : PySem.W.Frag} {J : It} {n : Nat} {Gw : Hp → Prop} {Y : Nat → Hp → V → Hp → Prop} {G H : Hp} {L : List (Addr × HO)} {σ : L2.St} {g : TG} {tt : TT} {te : TE} {vs : List Nat} {Q : VK}
/-- what is read of a comprehension behind its source -/
def LcG (J : It) (g : TG) (tt : TT) (te : TE) (vs : List Nat) (σ : L2.St) (H : Hp) (Q : VK) : Prop := tLc (fun _ H R => R J H) g tt te vs σ H Q
theorem rd_lc {wi : TI} (q : wi σ H fun J H1 => LcG J g tt te vs σ H1 Q) : tLc wi g tt te vs σ H Q := q
theorem rd_yes {QT : Bool → Hp → Prop} (q : QT true H) : tYes σ H QT := q
/-- a comprehension over a walk -/
theorem lc_go (hW : Wd W) (w : Walk J n Gw Y) (S : W G H L) (hn : n < 1000000) (It : Nat → V → Hp → Prop) (Inv : Nat → List V → Hp → Prop)
    (hG : ∀ H', Ex G H' → Gw H')
    (hY : ∀ i x G1 H1 H2 L1, i < n → Ex G G1 → W G1 H1 L1 → Y i H1 x H2 → ∃ G2, Ex G1 G2 ∧ W G2 H2 L1 ∧ It i x G2)
    (h0 : Inv 0 [] G) (hM : ∀ i acc G1 G2, Ex G1 G2 → Inv i acc G1 → Inv i acc G2)
    (hS : ∀ D i x acc G1 H1, i < n → acc.length ≤ i → Ex G G1 → W G1 H1 ((D, .lst acc) :: L) → Inv i acc G1 → It i x G1 → ∀ (Kp : VK) (Sk : Hp → Prop),
      (∀ v G2 H2, Ex G1 G2 → W G2 H2 ((D, .lst acc) :: L) → Inv (i + 1) (acc ++ [v]) G2 → Kp v H2) →
      (∀ G2 H2, Ex G1 G2 → W G2 H2 ((D, .lst acc) :: L) → Inv (i + 1) acc G2 → Sk H2) →
      g x (wipe σ vs) H1 fun σ2 H2 => wipe σ2 vs = wipe σ vs ∧ tt σ2 H2 fun b H3 => if b = true then te σ2 H3 Kp else Sk H3)
    (q : ∀ D acc G2 H2, Ex G G2 → W G2 H2 ((D, .lst acc) :: L) → Inv n acc G2 → acc.length ≤ n → Q (.ref D) H2) :
    LcG J g tt te vs σ H Q := by
  intro D hD
  refine lc_it w (fun i H' => ∃ G1 acc, Ex G G1 ∧ W G1 H' ((D, .lst acc) :: L) ∧ Inv i acc G1 ∧ acc.length ≤ i) ⟨G, [], Ex.refl G, hW.mk2 S hD, h0, Nat.le_refl _⟩
    (fun i H' _ ⟨G1, acc, e1, S1, _, _⟩ => hG H' (e1.trans (hW.ex S1))) (fun i x H1 H2 hi ⟨G1, acc, e1, S1, I1, l1⟩ y => ?_) (fun H' ⟨G1, acc, e1, S1, I1, l1⟩ => q D acc G1 H' e1 S1 I1 l1)
  obtain ⟨G2, e2, S2, it2⟩ := hY i x G1 H1 H2 _ hi e1 S1 y
  have hsz : sizeLine = 16777216 := sizeLine_eq
  refine hS D i x acc G2 H2 hi l1 (e1.trans e2) S2 (hM i acc G1 G2 e2 I1) it2 _ _ (fun v G3 H3 e3 S3 I3 => ?_) (fun G3 H3 e3 S3 I3 => ?_)
  · exact ⟨acc, hW.get S3, by omega, G3, acc ++ [v], e1.trans (e2.trans e3), hW.set S3, I3, by rw [List.length_append, List.length_singleton]; omega⟩
  · exact ⟨G3, acc, e1.trans (e2.trans e3), S3, I3, by omega⟩
end
/-! ### new objects -/
section
variable {W : Hp → Hp → List (Addr × HO) → Prop} {G H : Hp} {L : List (Addr × HO)} {o : HO} {Q : Addr → Prop} {xs : List V}
theorem mk_im (hW : Wd W) (S : W G H L) (q : ∀ p G', Ex G G' → W G' (upd H p o) L → G' p = some o → Q p) : ∀ p, H p = none → Q p := fun p hp =>
  q p _ (hW.newE S hp) (hW.new S hp) upd_same
theorem mk_mu (hW : Wd W) (S : W G H L) (q : ∀ p, W G (upd H p o) ((p, o) :: L) → Q p) : ∀ p, H p = none → Q p := fun p hp =>
  q p (hW.mk2 S hp)
theorem mk_lst (hW : Wd W) (S : W G H L) (hz : xs.length ≤ 100000) (q : ∀ p G', Ex G G' → W G' (upd H p (.lst xs)) L → G' p = some (.lst xs) → Q p) : xs.length ≤ sizeLine ∧ ∀ p, H p = none → Q p := ⟨sz_of hz, mk_im hW S q⟩
theorem mk_tup (hW : Wd W) (S : W G H L) (hz : xs.length ≤ 100000) (q : ∀ p G', Ex G G' → W G' (upd H p (.tup xs)) L → G' p = some (.tup xs) → Q p) : xs.length ≤ sizeLine ∧ ∀ p, H p = none → Q p := ⟨sz_of hz, mk_im hW S q⟩
theorem mk_lstM (hW : Wd W) (S : W G H L) (hz : xs.length ≤ 100000) (q : ∀ p, W G (upd H p (.lst xs)) ((p, .lst xs) :: L) → Q p) : xs.length ≤ sizeLine ∧ ∀ p, H p = none → Q p := ⟨sz_of hz, mk_mu hW S q⟩
end
/-! ### a for -/
section
variable {J : It} {n : Nat} {Gw : Hp → Prop} {Y : Nat → Hp → V → Hp → Prop} {G H : Hp} {σ : L2.St} {g : TG} {tb : TS} {D : Ends}
def ForG (J : It) (g : TG) (tb : TS) (D : Ends) (σ : L2.St) (H : Hp) : Prop := tFor (fun _ H R => R J H) g tb D σ H
theorem rd_for {wi : TI} (q : wi σ H fun J H1 => ForG J g tb D σ H1) : tFor wi g tb D σ H := q
theorem for_go (w : Walk J n Gw Y) (Inv : Nat → L2.St → Hp → Hp → Prop) (h0 : Inv 0 σ G H) (hG : ∀ i σ1 G1 H1, i ≤ n → Inv i σ1 G1 H1 → Gw H1)
    (hS : ∀ i x σ1 G1 H1 H2, i < n → Inv i σ1 G1 H1 → Y i H1 x H2 → ∀ N : L2.St → Hp → Prop, (∀ σ2 G2 H2, Inv (i + 1) σ2 G2 H2 → N σ2 H2) → g x σ1 H2 fun σ2 H3 => tb { D with nx := N, ct := N, bk := D.nx } σ2 H3)
    (hd : ∀ σ1 G1 H1, Inv n σ1 G1 H1 → D.nx σ1 H1) : ForG J g tb D σ H := by
  refine for_it w (fun i σ1 H1 => ∃ G1, Inv i σ1 G1 H1) ⟨G, h0⟩ (fun i σ1 H1 hi ⟨G1, h1⟩ => hG i σ1 G1 H1 hi h1) (fun i x σ1 H1 H2 hi ⟨G1, h1⟩ y => ?_) (fun σ1 H1 ⟨G1, h1⟩ => hd σ1 G1 H1 h1)
  exact hS i x σ1 G1 H1 H2 hi h1 y _ fun σ2 G2 H3 h2 => ⟨G2, h2⟩
end
/-! ### the sources -/
section
variable {K : PySem.W.Frag} {σ : L2.St} {H G : Hp} {a b : Addr} {xs ys : List V} {ta : TA} {te : TE} {R : It → Hp → Prop}
theorem rd_zipA (q : ta σ H fun vs H1 => ∃ a b xs ys, vs = [.ref a, .ref b] ∧ ((SqL K H1 a xs ∧ SqL K H1 b ys ∧ R (Itz K a b) H1) ∨ (SqT K H1 a xs ∧ SqT K H1 b ys ∧ R (ItzT K a b) H1))) : iZipA K ta σ H R := q
theorem rd_zipL {P : It → Prop} (h1 : SqL K H a xs) (h2 : SqL K H b ys) (q : P (Itz K a b)) : ∃ a' b' xs ys, [V.ref a, V.ref b] = [V.ref a', V.ref b'] ∧ ((SqL K H a' xs ∧ SqL K H b' ys ∧ P (Itz K a' b')) ∨ (SqT K H a' xs ∧ SqT K H b' ys ∧ P (ItzT K a' b'))) :=
  ⟨a, b, xs, ys, rfl, .inl ⟨h1, h2, q⟩⟩
theorem rd_zipT {P : It → Prop} (h1 : SqT K H a xs) (h2 : SqT K H b ys) (q : P (ItzT K a b)) : ∃ a' b' xs ys, [V.ref a, V.ref b] = [V.ref a', V.ref b'] ∧ ((SqL K H a' xs ∧ SqL K H b' ys ∧ P (Itz K a' b')) ∨ (SqT K H a' xs ∧ SqT K H b' ys ∧ P (ItzT K a' b'))) :=
  ⟨a, b, xs, ys, rfl, .inr ⟨h1, h2, q⟩⟩
theorem walk_zipT {n : Nat} (hn : n = min xs.length ys.length) : Walk (ItzT K a b) n (fun H => SqT K H a xs ∧ SqT K H b ys) (YPair (fun i => xs[i]?) (fun i => ys[i]?)) where
  goes := fun i _ hi hq =>
    have a1 : i < xs.length := by omega
    have a2 : i < ys.length := by omega
    ⟨xs, ys, _, _, hq.1, hq.2, List.getElem?_eq_getElem a1, List.getElem?_eq_getElem a2⟩
  stops := fun _ hq => ⟨xs, ys, hq.1, hq.2, by omega⟩
  yields := fun _ _ _ _ _ hq ⟨T, c, d, e1, e2, e3, e4, e5⟩ => ⟨T, c, d, e1, e2, e3, e4 xs hq.1, e5 ys hq.2⟩
def ItPair (K : PySem.W.Frag) (xs ys : Nat → Option V) (i : Nat) (x : V) (G : Hp) : Prop := ∃ T u w, x = .ref T ∧ SqT K G T [u, w] ∧ xs i = some u ∧ ys i = some w
theorem item_pair {W : Hp → Hp → List (Addr × HO) → Prop} (hW : Wd W) {xs ys : Nat → Option V} {i : Nat} {x : V} {G1 H1 H2 : Hp} {L1 : List (Addr × HO)} (S : W G1 H1 L1) (y : YPair xs ys i H1 x H2) :
    ∃ G2, Ex G1 G2 ∧ W G2 H2 L1 ∧ ItPair K xs ys i x G2 := by
  obtain ⟨T, u, z, rfl, hT, rfl, h1, h2⟩ := y
  exact ⟨_, hW.newE S hT, hW.new S hT, T, u, z, rfl, st_of upd_same, h1, h2⟩
theorem item_at {W : Hp → Hp → List (Addr × HO) → Prop} {i : Nat} {x : V} {G1 H1 H2 : Hp} {L1 : List (Addr × HO)} (S : W G1 H1 L1) (y : YAt xs i H1 x H2) :
    ∃ G2, Ex G1 G2 ∧ W G2 H2 L1 ∧ xs[i]? = some x := by
  obtain ⟨rfl, h⟩ := y
  exact ⟨G1, Ex.refl _, S, h⟩
theorem item_fn {W : Hp → Hp → List (Addr × HO) → Prop} {f : Nat → V} {i : Nat} {x : V} {G1 H1 H2 : Hp} {L1 : List (Addr × HO)} (S : W G1 H1 L1) (y : YFn f i H1 x H2) :
    ∃ G2, Ex G1 G2 ∧ W G2 H2 L1 ∧ x = f i := by
  obtain ⟨rfl, h⟩ := y
  exact ⟨G1, Ex.refl _, S, h⟩
/-- targets -/
theorem rd_gtup2 {i j : Nat} {T : Addr} {x y : V} {N : L2.St → Hp → Prop} (h : SqT K H T [x, y]) (q : N ((σ.set i (some x)).set j (some y)) H) : gTup K 2 (gCons (gName i) (gCons (gName j) gNil)) (.ref T) σ H N :=
  ⟨T, [x, y], rfl, h, rfl, x, [y], rfl, y, [], rfl, rfl, q⟩
end
section
variable {K : PySem.W.Frag} {σ : L2.St} {H : Hp} {a : Addr} {xs : List V} {te : TE} {R : It → Hp → Prop} {z : Str}
theorem rd_il (q : te σ H fun x H1 => ∃ a, x = .ref a ∧ (∃ xs, SqL K H1 a xs) ∧ R (Itl K a) H1) : iList K te σ H R := q
theorem rd_it (q : te σ H fun x H1 => ∃ a, x = .ref a ∧ (∃ xs, SqT K H1 a xs) ∧ R (Itt K a) H1) : iTup K te σ H R := q
theorem rd_is (q : te σ H fun x H1 => ∃ z, x = .str z ∧ R (Its z) H1) : iStr te σ H R := q
theorem rd_rng1 {ta : TA} (q : ta σ H fun vs H1 => ∃ j : Int, vs = [.int j] ∧ -(2 ^ 62) ≤ j ∧ j < 2 ^ 62 ∧ R (Itr 0 j.toNat) H1) : iRng1 ta σ H R := q
theorem rd_rng1i {P : It → Prop} {n : Int} (h1 : -(2 ^ 62) ≤ n) (h2 : n < 2 ^ 62) (q : P (Itr 0 n.toNat)) : ∃ j : Int, [V.int n] = [.int j] ∧ -(2 ^ 62) ≤ j ∧ j < 2 ^ 62 ∧ P (Itr 0 j.toNat) := ⟨n, rfl, h1, h2, q⟩
end

/-! The law's likeness of data. -/

mutual
def lk : PyData → PyData → Bool
  | .none, .none => true
  | .bool a, .bool b => decide (a = b)
  | .int a, .int b => decide (a = b)
  | .str a, .str b => decide (a = b)
  | .list xs, .list ys => lkAll xs ys
  | .tuple xs, .tuple ys => lkAll xs ys
  | _, _ => false
def lkAll : List PyData → List PyData → Bool
  | [], [] => true
  | x :: xs, y :: ys => lk x y && lkAll xs ys
  | _, _ => false
end
mutual
theorem lk_refl : ∀ d, PyData.plain d = true → lk d d = true
  | .none, _ => rfl
  | .bool b, _ => decide_eq_true rfl
  | .int i, _ => decide_eq_true rfl
  | .str s, _ => decide_eq_true rfl
  | .list xs, h => lkAll_refl xs h
  | .tuple xs, h => lkAll_refl xs h
  | .dict _, h => by cases h
theorem lkAll_refl : ∀ ds, PyData.plainAll ds = true → lkAll ds ds = true
  | [], _ => rfl
  | x :: xs, h => by
    have h' := Bool.and_eq_true_iff.mp (show (PyData.plain x && PyData.plainAll xs) = true from h)
    show (lk x x && lkAll xs xs) = true
    rw [lk_refl x h'.1, lkAll_refl xs h'.2]; rfl
end
mutual
theorem Dp.plain {K : PySem.W.Frag} {H : Hp} : ∀ (d : PyData) (v : V), Dp K H v d → PyData.plain d = true
  | .none, _, _ => rfl
  | .bool _, _, _ => rfl
  | .int _, _, _ => rfl
  | .str _, _, _ => rfl
  | .list ds, _, h => by cases h with | lst hs ha => exact DpAll.plain ds _ ha
  | .tuple ds, _, h => by cases h with | tup hs ha => exact DpAll.plain ds _ ha
  | .dict _, _, h => by cases h
theorem DpAll.plain {K : PySem.W.Frag} {H : Hp} : ∀ (ds : List PyData) (vs : List V), DpAll K H vs ds → PyData.plainAll ds = true
  | [], _, _ => rfl
  | d :: ds, _, h => by
    cases h with
    | cons h1 h2 =>
      show (PyData.plain d && PyData.plainAll ds) = true
      rw [Dp.plain d _ h1, DpAll.plain ds _ h2]; rfl
end
theorem lkAll_zip : ∀ (ds es : List PyData), ds.length = es.length → lkAll ds es = (List.zipWith lk ds es).all id
  | [], [], _ => rfl
  | d :: ds, e :: es, h => by
    show (lk d e && lkAll ds es) = (id (lk d e) && (List.zipWith lk ds es).all id)
    rw [lkAll_zip ds es (by simpa using h)]
    rfl
  | [], _ :: _, h => nomatch h
  | _ :: _, [], h => nomatch h
theorem lkAll_len : ∀ (ds es : List PyData), ds.length ≠ es.length → lkAll ds es = false
  | [], [], h => (h rfl).elim
  | d :: ds, e :: es, h => by
    show (lk d e && lkAll ds es) = false
    rw [lkAll_len ds es (fun z => h (by simp [z])), Bool.and_false]
  | [], _ :: _, _ => rfl
  | _ :: _, [], _ => rfl
/-! ### kinds -/
def tyN : PyData → String
  | .none => "NoneType"
  | .bool _ => "bool"
  | .int _ => "int"
  | .str _ => "str"
  | .list _ => "list"
  | .tuple _ => "tuple"
  | .dict _ => "dict"
theorem SqL.ty {K : PySem.W.Frag} {H : Hp} {a : Addr} {xs : List V} (h : SqL K H a xs) : TyX K H (.ref a) (.type "list") := by
  rcases h with (h | ⟨o, h⟩) | ⟨o, its, n, h1, h2, _⟩
  · exact .base (.lst h)
  · exact .base (.frz h)
  · exact .kList h1 h2
theorem SqT.ty {K : PySem.W.Frag} {H : Hp} {a : Addr} {xs : List V} (h : SqT K H a xs) : TyX K H (.ref a) (.type "tuple") := by
  rcases h with (h | ⟨o, h⟩) | ⟨o, its, n, h1, h2, _⟩
  · exact .base (.tup h)
  · exact .fTuple h
  · exact .kTuple h1 h2
theorem Dp.ty {K : PySem.W.Frag} {H : Hp} {v : V} {d : PyData} (h : Dp K H v d) : TyX K H v (.type (tyN d)) := by
  cases h with
  | non => exact .base .non
  | bl b => exact .base (.bl b)
  | int i => exact .base (.int i)
  | str x => exact .base (.str x)
  | lst hs _ => exact SqL.ty hs
  | tup hs _ => exact SqT.ty hs
theorem rd_isi {K : PySem.W.Frag} {H : Hp} {v : V} {d : PyData} {T : String} {b : Bool} {Q : VK} (h : Dp K H v d) (k : kitB (tyN d) T = some b) (q : Q (.bl b) H) : gIsi K [v, .ty T] H Q :=
  .inl ⟨v, .ty T, .type (tyN d), .type T, b, rfl, .ty T, Dp.ty h, kit_ty k, q⟩
theorem rd_isi2 {K : PySem.W.Frag} {H : Hp} {v : V} {d : PyData} {T U : String} {tp : Addr} {b c : Bool} {Q : VK} (ht : H tp = some (.tup [.ty T, .ty U])) (h : Dp K H v d) (k1 : kitB (tyN d) T = some b) (k2 : kitB (tyN d) U = some c) {r : Bool} (er : (b || c) = r) (q : Q (.bl r) H) : gIsi K [v, .ref tp] H Q :=
  .inr ⟨v, tp, [.ty T, .ty U], .type (tyN d), [.type T, .type U], b || c, rfl, ht, .cons (.ty T) (.cons (.ty U) .nil), Dp.ty h,
    kitAny_cons (kit_ty k1) (fun hb => by subst hb; exact kitAny_cons (kit_ty k2) (fun hc => by subst hc; exact kitAny_nil) (fun hc => by subst hc; rfl)) (fun hb => by subst hb; rfl), by rw [er]; exact q⟩
theorem Stt.less {G G' H : Hp} {L : List (Addr × HO)} (e : Ex G G') (S : Stt G' H L) : Stt G H L := ⟨e.trans S.ex, S.has, fun p hp => fresh_back e (S.out p hp), S.nd⟩
theorem kt_NoneType_bool : kitB "NoneType" "bool" = some false := by decide +kernel
theorem kt_NoneType_int : kitB "NoneType" "int" = some false := by decide +kernel
theorem kt_NoneType_str : kitB "NoneType" "str" = some false := by decide +kernel
theorem kt_NoneType_list : kitB "NoneType" "list" = some false := by decide +kernel
theorem kt_NoneType_tuple : kitB "NoneType" "tuple" = some false := by decide +kernel
theorem kt_bool_bool : kitB "bool" "bool" = some true := by decide +kernel
theorem kt_bool_int : kitB "bool" "int" = some true := by decide +kernel
theorem kt_bool_str : kitB "bool" "str" = some false := by decide +kernel
theorem kt_bool_list : kitB "bool" "list" = some false := by decide +kernel
theorem kt_bool_tuple : kitB "bool" "tuple" = some false := by decide +kernel
theorem kt_int_bool : kitB "int" "bool" = some false := by decide +kernel
theorem kt_int_int : kitB "int" "int" = some true := by decide +kernel
theorem kt_int_str : kitB "int" "str" = some false := by decide +kernel
theorem kt_int_list : kitB "int" "list" = some false := by decide +kernel
theorem kt_int_tuple : kitB "int" "tuple" = some false := by decide +kernel
theorem kt_str_bool : kitB "str" "bool" = some false := by decide +kernel
theorem kt_str_int : kitB "str" "int" = some false := by decide +kernel
theorem kt_str_str : kitB "str" "str" = some true := by decide +kernel
theorem kt_str_list : kitB "str" "list" = some false := by decide +kernel
theorem kt_str_tuple : kitB "str" "tuple" = some false := by decide +kernel
theorem kt_list_bool : kitB "list" "bool" = some false := by decide +kernel
theorem kt_list_int : kitB "list" "int" = some false := by decide +kernel
theorem kt_list_str : kitB "list" "str" = some false := by decide +kernel
theorem kt_list_list : kitB "list" "list" = some true := by decide +kernel
theorem kt_list_tuple : kitB "list" "tuple" = some false := by decide +kernel
theorem kt_tuple_bool : kitB "tuple" "bool" = some false := by decide +kernel
theorem kt_tuple_int : kitB "tuple" "int" = some false := by decide +kernel
theorem kt_tuple_str : kitB "tuple" "str" = some false := by decide +kernel
theorem kt_tuple_list : kitB "tuple" "list" = some false := by decide +kernel
theorem kt_tuple_tuple : kitB "tuple" "tuple" = some true := by decide +kernel
/-- nested less than n deep, no list of a million things -/
def fit : Nat → PyData → Prop
  | 0, _ => False
  | n + 1, .list es => es.length < 1000000 ∧ ∀ e, e ∈ es → fit n e
  | n + 1, .tuple es => es.length < 1000000 ∧ ∀ e, e ∈ es → fit n e
  | _ + 1, _ => True
def sp_like (K : PySem.W.Frag) (n : Nat) : Sp := fun vs H Q _ => ∃ (G : Hp) (L : List (Addr × HO)) (x y : V) (d e : PyData), vs = [x, y] ∧ Stt G H L ∧ Dp K G x d ∧ Dp K G y e ∧ fit n e ∧ (∀ H', Stt G H' L → Q (.bl (lk d e)) H')
def t_like_0a_1 (K : PySem.W.Frag) (n : Nat) : TS :=
  (tRet (tAndV (tOp (gEq K) (tCB (gLen K) (tCons (tVar 0) tNil)) (tCB (gLen K) (tCons (tVar 1) tNil))) (tCB (rAll K) (tCons (tLc (iZipA K (tCons (tVar 0) (tCons (tVar 1) tNil))) (gTup K 2 (gCons (gName 2) (gCons (gName 3) gNil))) tYes (tCall (sp_like K n) [] E0 (tCons (tVar 2) (tCons (tVar 3) tNil))) [2, 3]) tNil))))
def t_like_3 (K : PySem.W.Frag) (n : Nat) : TS :=
  (tRet (tAndV (tOp (gEq K) (tCB (gIsi K) (tCons (tVar 0) (tCons (tC (.ty "str")) tNil))) (tCB (gIsi K) (tCons (tVar 1) (tCons (tC (.ty "str")) tNil)))) (tOp (gEq K) (tVar 0) (tVar 1))))
def t_like_2 (K : PySem.W.Frag) (n : Nat) : TS :=
  (tSeq (tIfS (tOr (tTest (tOp (gNe K) (tCB (gIsi K) (tCons (tVar 0) (tCons (tC (.ty "bool")) tNil))) (tCB (gIsi K) (tCons (tVar 1) (tCons (tC (.ty "bool")) tNil))))) (tTest (tOp (gNe K) (tCB (gIsi K) (tCons (tVar 0) (tCons (tC (.ty "int")) tNil))) (tCB (gIsi K) (tCons (tVar 1) (tCons (tC (.ty "int")) tNil)))))) (tRet (tC (.bl false))) tNext)
  (t_like_3 K n))
def t_like_1 (K : PySem.W.Frag) (n : Nat) : TS :=
  (tSeq (tIfS (tOr (tTest (tOp rIsN (tVar 1) (tC .non))) (tTest (tOp rIsN (tVar 0) (tC .non)))) (tRet (tAndV (tOp rIsN (tVar 1) (tC .non)) (tOp rIsN (tVar 0) (tC .non)))) tNext)
  (t_like_2 K n))
def t_like (K : PySem.W.Frag) (n : Nat) : TS :=
  (tSeq (tIfS (tB (tCB (gIsi K) (tCons (tVar 1) (tCons (tTup (tCons (tC (.ty "list")) (tCons (tC (.ty "tuple")) tNil))) tNil)))) (tSeq (tIfS (tOr (tTest (tOp (gNe K) (tCB (gIsi K) (tCons (tVar 0) (tCons (tC (.ty "list")) tNil))) (tCB (gIsi K) (tCons (tVar 1) (tCons (tC (.ty "list")) tNil))))) (tTest (tOp (gNe K) (tCB (gIsi K) (tCons (tVar 0) (tCons (tC (.ty "tuple")) tNil))) (tCB (gIsi K) (tCons (tVar 1) (tCons (tC (.ty "tuple")) tNil)))))) (tRet (tC (.bl false))) tNext)
  (t_like_0a_1 K n)) tNext)
  (t_like_1 K n))
local macro_rules | `(tactic| walk_at "kt") => `(tactic| first
  | exact kt_NoneType_bool
  | exact kt_NoneType_int
  | exact kt_NoneType_str
  | exact kt_NoneType_list
  | exact kt_NoneType_tuple
  | exact kt_bool_bool
  | exact kt_bool_int
  | exact kt_bool_str
  | exact kt_bool_list
  | exact kt_bool_tuple
  | exact kt_int_bool
  | exact kt_int_int
  | exact kt_int_str
  | exact kt_int_list
  | exact kt_int_tuple
  | exact kt_str_bool
  | exact kt_str_int
  | exact kt_str_str
  | exact kt_str_list
  | exact kt_str_tuple
  | exact kt_list_bool
  | exact kt_list_int
  | exact kt_list_str
  | exact kt_list_list
  | exact kt_list_tuple
  | exact kt_tuple_bool
  | exact kt_tuple_int
  | exact kt_tuple_str
  | exact kt_tuple_list
  | exact kt_tuple_tuple)
local macro_rules | `(tactic| walk_at "dp") => `(tactic| first
  | exact Dp.non | exact Dp.bl _ | exact Dp.int _ | exact Dp.str _ | assumption | exact Dp.ex (Stt.ex (by assumption)) _ _ (by assumption))
local macro_rules | `(tactic| walk_at "isi") => `(tactic| ((with_reducible refine' rd_isi ?h ?k ?_); (case h => walk_at "dp"); (case k => walk_at "kt")))
theorem read_like_list {K : PySem.W.Frag} {n : Nat} {G H : Hp} {L : List (Addr × HO)} {x y : V} {ds : List PyData} {es : List PyData} {D : Ends} {s2 s3 : Option V} (S : Stt G H L) (hx : Dp K G x (.list ds)) (hy : Dp K G y (.list es)) (hz : es.length < 1000000) (hn : ∀ e, e ∈ es → fit n e)
    (q : ∀ H', Stt G H' L → D.rt (.bl (lkAll ds es)) H') : t_like_0a_1 K n D [some x, some y, s2, s3] H := by
  unfold t_like_0a_1
  cases hx with
  | @lst a xs _ ha hA =>
  cases hy with
  | @lst b ys _ hb hB =>
  walk_at "go"
  refine rd_lenL (ex_l S.ex ha) ?_
  walk_at "go"
  refine rd_lenL (ex_l S.ex hb) ?_
  have hl1 := DpAll.length hA
  have hl2 := DpAll.length hB
  walk_at "go"
  refine rd_dec (fun e => ?_) (fun e => ?_)
  · have hl : ds.length = es.length := by omega
    walk_at "go"
    refine rd_lc ?_
    refine rd_zipA ?_
    walk_at "go"
    refine ⟨_, _, _, _, rfl, .inl ⟨ex_l S.ex ha, ex_l S.ex hb, ?_⟩⟩
    refine lc_go stt_world (walk_zip (n := ds.length) (by omega)) S (by omega) (ItPair K (fun i => xs[i]?) (fun i => ys[i]?)) (fun i acc _ => acc = (List.zipWith (fun d e => V.bl (lk d e)) ds es).take i)
      (fun H' e' => ⟨ex_l e' ha, ex_l e' hb⟩) (fun i x G1 H1 H2 L1 _ e1 S1 y => item_pair stt_world S1 y) rfl (fun _ _ _ _ _ h => h) ?_ ?_
    · intro D i x acc G1 H1 hi hacc e1 S1 I1 it Kp Sk kp sk
      obtain ⟨T, u, w, rfl, hT, hu, hw⟩ := it
      obtain ⟨d1, hd1, dp1⟩ := DpAll.get hA hu
      obtain ⟨d2, hd2, dp2⟩ := DpAll.get hB hw
      refine rd_gtup2 (ex_t S1.ex hT) ⟨rfl, ?_⟩
      refine rd_yes (rd_iT ?_)
      walk_at "go"
      refine ⟨G1, _, u, w, d1, d2, rfl, S1, Dp.ex e1 _ _ dp1, Dp.ex e1 _ _ dp2, hn d2 (List.mem_of_getElem? hd2), fun H2 S2 => kp _ G1 H2 (Ex.refl _) S2 ?_⟩
      rw [I1, List.take_add_one, List.getElem?_zipWith, hd1, hd2]
      rfl
    · intro D acc G2 H2 e2 S2 I2 _
      have hacc : acc = (List.zipWith lk ds es).map V.bl := by
        rw [I2, List.map_zipWith, List.take_of_length_le (by rw [List.length_zipWith]; omega)]
      subst hacc
      walk_at "go"
      refine rd_all (sq_of (S2.at 0 rfl)) ?_
      have := q H2 (S2.drop.less e2)
      rw [lkAll_zip ds es hl] at this
      exact this
  · walk_at "go"
    have := q H S
    rw [lkAll_len ds es (by omega)] at this
    exact this
theorem read_like_tup {K : PySem.W.Frag} {n : Nat} {G H : Hp} {L : List (Addr × HO)} {x y : V} {ds : List PyData} {es : List PyData} {D : Ends} {s2 s3 : Option V} (S : Stt G H L) (hx : Dp K G x (.tuple ds)) (hy : Dp K G y (.tuple es)) (hz : es.length < 1000000) (hn : ∀ e, e ∈ es → fit n e)
    (q : ∀ H', Stt G H' L → D.rt (.bl (lkAll ds es)) H') : t_like_0a_1 K n D [some x, some y, s2, s3] H := by
  unfold t_like_0a_1
  cases hx with
  | @tup a xs _ ha hA =>
  cases hy with
  | @tup b ys _ hb hB =>
  walk_at "go"
  refine rd_lenT (ex_t S.ex ha) ?_
  walk_at "go"
  refine rd_lenT (ex_t S.ex hb) ?_
  have hl1 := DpAll.length hA
  have hl2 := DpAll.length hB
  walk_at "go"
  refine rd_dec (fun e => ?_) (fun e => ?_)
  · have hl : ds.length = es.length := by omega
    walk_at "go"
    refine rd_lc ?_
    refine rd_zipA ?_
    walk_at "go"
    refine ⟨_, _, _, _, rfl, .inr ⟨ex_t S.ex ha, ex_t S.ex hb, ?_⟩⟩
    refine lc_go stt_world (walk_zipT (n := ds.length) (by omega)) S (by omega) (ItPair K (fun i => xs[i]?) (fun i => ys[i]?)) (fun i acc _ => acc = (List.zipWith (fun d e => V.bl (lk d e)) ds es).take i)
      (fun H' e' => ⟨ex_t e' ha, ex_t e' hb⟩) (fun i x G1 H1 H2 L1 _ e1 S1 y => item_pair stt_world S1 y) rfl (fun _ _ _ _ _ h => h) ?_ ?_
    · intro D i x acc G1 H1 hi hacc e1 S1 I1 it Kp Sk kp sk
      obtain ⟨T, u, w, rfl, hT, hu, hw⟩ := it
      obtain ⟨d1, hd1, dp1⟩ := DpAll.get hA hu
      obtain ⟨d2, hd2, dp2⟩ := DpAll.get hB hw
      refine rd_gtup2 (ex_t S1.ex hT) ⟨rfl, ?_⟩
      refine rd_yes (rd_iT ?_)
      walk_at "go"
      refine ⟨G1, _, u, w, d1, d2, rfl, S1, Dp.ex e1 _ _ dp1, Dp.ex e1 _ _ dp2, hn d2 (List.mem_of_getElem? hd2), fun H2 S2 => kp _ G1 H2 (Ex.refl _) S2 ?_⟩
      rw [I1, List.take_add_one, List.getElem?_zipWith, hd1, hd2]
      rfl
    · intro D acc G2 H2 e2 S2 I2 _
      have hacc : acc = (List.zipWith lk ds es).map V.bl := by
        rw [I2, List.map_zipWith, List.take_of_length_le (by rw [List.length_zipWith]; omega)]
      subst hacc
      walk_at "go"
      refine rd_all (sq_of (S2.at 0 rfl)) ?_
      have := q H2 (S2.drop.less e2)
      rw [lkAll_zip ds es hl] at this
      exact this
  · walk_at "go"
    have := q H S
    rw [lkAll_len ds es (by omega)] at this
    exact this
local macro_rules | `(tactic| walk_at "gk") => `(tactic| repeat (first | walk_at "go1" | walk_at "isi" | walk_at "dec"))
theorem read_like {K : PySem.W.Frag} {n : Nat} {G H : Hp} {L : List (Addr × HO)} {x y : V} {d e : PyData} {D : Ends} {s2 s3 : Option V} (S : Stt G H L) (hx : Dp K G x d) (hy : Dp K G y e) (hn : fit (n + 1) e)
    (q : ∀ H', Stt G H' L → D.rt (.bl (lk d e)) H') : t_like K n D [some x, some y, s2, s3] H := by
  unfold t_like
  walk_at "gk"
  refine ⟨(by decide : 2 ≤ sizeLine), fun p hp => ?_⟩
  have S1 := S.new (o := .tup [.ty "list", .ty "tuple"]) hp
  have e1 := S.newE (o := .tup [.ty "list", .ty "tuple"]) hp
  have q1 : ∀ H', Stt (upd G p (.tup [.ty "list", .ty "tuple"])) H' L → D.rt (.bl (lk d e)) H' := fun H' S' => q H' (S'.less e1)
  have hx1 := Dp.ex e1 _ _ hx
  have hy1 := Dp.ex e1 _ _ hy
  have hp1 : upd H p (.tup [.ty "list", .ty "tuple"]) p = some (.tup [.ty "list", .ty "tuple"]) := upd_same
  generalize upd G p (.tup [.ty "list", .ty "tuple"]) = G1 at *
  generalize upd H p (.tup [.ty "list", .ty "tuple"]) = H1 at *
  clear hx hy q S e1 hp
  walk_at "go"
  have hy2 := Dp.ex S1.ex _ _ hy1
  cases e with
  | list es =>
    refine rd_isi2 hp1 hy2 kt_list_list kt_list_tuple (r := true) rfl ?_
    walk_at "gk"
    cases d with
    | list ds =>
      walk_at "gk"
      exact read_like_list S1 hx1 hy1 hn.1 hn.2 q1
    | dict _ => cases hx1
    | _ =>
      walk_at "gk"
      exact q1 _ S1
  | tuple es =>
    refine rd_isi2 hp1 hy2 kt_tuple_list kt_tuple_tuple (r := true) rfl ?_
    walk_at "gk"
    cases d with
    | tuple ds =>
      walk_at "gk"
      exact read_like_tup S1 hx1 hy1 hn.1 hn.2 q1
    | dict _ => cases hx1
    | _ =>
      walk_at "gk"
      exact q1 _ S1
  | dict _ => cases hy1
  | none =>
    refine rd_isi2 hp1 hy2 kt_NoneType_list kt_NoneType_tuple (r := false) rfl ?_
    walk_at "gk"
    try dsimp only
    unfold t_like_1
    have hx2 := Dp.ex S1.ex _ _ hx1
    cases hy1
    cases d with
    | dict _ => cases hx1
    | _ =>
      cases hx1
      all_goals (walk_at "gk")
      all_goals (try dsimp only)
      all_goals first
        | exact q1 _ S1
        | (unfold t_like_2; walk_at "gk"; (try dsimp only); first | exact q1 _ S1 | (unfold t_like_3; walk_at "gk"; exact q1 _ S1))
  | bool b =>
    refine rd_isi2 hp1 hy2 kt_bool_list kt_bool_tuple (r := false) rfl ?_
    walk_at "gk"
    try dsimp only
    unfold t_like_1
    have hx2 := Dp.ex S1.ex _ _ hx1
    cases hy1
    cases d with
    | dict _ => cases hx1
    | _ =>
      cases hx1
      all_goals (walk_at "gk")
      all_goals (try dsimp only)
      all_goals first
        | exact q1 _ S1
        | (unfold t_like_2; walk_at "gk"; (try dsimp only); first | exact q1 _ S1 | (unfold t_like_3; walk_at "gk"; exact q1 _ S1))
  | int b =>
    refine rd_isi2 hp1 hy2 kt_int_list kt_int_tuple (r := false) rfl ?_
    walk_at "gk"
    try dsimp only
    unfold t_like_1
    have hx2 := Dp.ex S1.ex _ _ hx1
    cases hy1
    cases d with
    | dict _ => cases hx1
    | _ =>
      cases hx1
      all_goals (walk_at "gk")
      all_goals (try dsimp only)
      all_goals first
        | exact q1 _ S1
        | (unfold t_like_2; walk_at "gk"; (try dsimp only); first | exact q1 _ S1 | (unfold t_like_3; walk_at "gk"; exact q1 _ S1))
  | str b =>
    refine rd_isi2 hp1 hy2 kt_str_list kt_str_tuple (r := false) rfl ?_
    walk_at "gk"
    try dsimp only
    unfold t_like_1
    have hx2 := Dp.ex S1.ex _ _ hx1
    cases hy1
    cases d with
    | dict _ => cases hx1
    | _ =>
      cases hx1
      all_goals (walk_at "gk")
      all_goals (try dsimp only)
      all_goals first
        | exact q1 _ S1
        | (unfold t_like_2; walk_at "gk"; (try dsimp only); first | exact q1 _ S1 | (unfold t_like_3; walk_at "gk"; exact q1 _ S1))


theorem Stt.swap {G H : Hp} {x y : Addr × HO} {L : List (Addr × HO)} (S : Stt G H (x :: y :: L)) : Stt G H (y :: x :: L) := by
  have m : ∀ p, p ∈ y :: x :: L → p ∈ x :: y :: L := fun p hp => (List.Perm.swap x y L).mem_iff.mp hp
  refine ⟨S.ex, fun p hp => S.has p (m p hp), fun p hp => S.out p (m p hp), ?_⟩
  have h := S.nd
  simp only [List.map_cons, List.nodup_cons, List.mem_cons] at h ⊢
  exact ⟨fun z => z.elim (fun z => h.1 (.inl z.symm)) h.2.1, fun z => h.1 (.inr z), h.2.2⟩
theorem Bag.ex {K : PySem.W.Frag} {G H : Hp} {b : Addr} {L : List (Addr × HO)} (B : Bag K G H b L) : Ex G H := by
  obtain ⟨_, _, _, _, _, _, S, _⟩ := B
  exact S.ex
theorem bag_world (K : PySem.W.Frag) (b : Addr) : Wd fun G H L => Bag K G H b L where
  ex := Bag.ex
  new := fun ⟨c, i, r, x, n, ns, S, hc, h⟩ hp => ⟨c, i, r, x, n, ns, S.new hp, ex_l (S.newE hp) hc, h⟩
  mk2 := fun ⟨c, i, r, x, n, ns, S, hc, h⟩ hp => ⟨c, i, r, x, n, ns, (S.mkL hp).swap, hc, h⟩
  get := fun ⟨c, i, r, x, n, ns, S, hc, h⟩ => S.at 1 rfl
  set := fun ⟨c, i, r, x, n, ns, S, hc, h⟩ => ⟨c, i, r, x, n, ns, S.wr 1 rfl, hc, h⟩
  free := fun ⟨c, i, r, x, n, ns, S, hc, h⟩ hp => S.free hp
  drop := fun ⟨c, i, r, x, n, ns, S, hc, h⟩ => ⟨c, i, r, x, n, ns, S.swap.drop, hc, h⟩
  frz := fun ⟨c, i, r, x, n, ns, S, hc, h⟩ => ⟨⟨c, i, r, x, n, ns, S.swap.frz, ex_l S.swap.frzE hc, h⟩, S.swap.frzE⟩
/-- with the bag: what leaves all that may change keeps the bag -/
theorem Bag.stt {K : PySem.W.Frag} {G H : Hp} {b : Addr} {L : List (Addr × HO)} (B : Bag K G H b L) : ∃ M, Stt G H M ∧ ∀ G' H', Ex G G' → Stt G' H' M → Bag K G' H' b L := by
  obtain ⟨c, i, r, x, n, ns, S, hc, h⟩ := B
  exact ⟨_, S, fun G' H' e S' => ⟨c, i, r, x, n, ns, S', ex_l e hc, h⟩⟩
theorem cutV_take (ns : List Int) : cutV (ns.map V.int) none (some 63) = (ns.take 63).map V.int := by
  unfold cutV
  rw [HT.sIx_none, show HT.sIx (ns.map V.int).length (ns.map V.int).length (some 63) = min 63 (ns.map V.int).length from HT.sIx_nat _ _ 63]
  rw [List.drop_zero, Nat.sub_zero, List.map_take, ← List.take_take, List.take_length]
def sp_open (K : PySem.W.Frag) : Sp := fun vs H Q _ => ∃ (a : Addr) (ns : List Int) (G : Hp) (L : List (Addr × HO)), vs = [.ref a] ∧ Stt G H L ∧ SqL K G a (ns.map V.int) ∧ (∀ b G' H', Ex G G' → Bag K G' H' b L → Q (.ref b) H')
def t_open (K : PySem.W.Frag) : TS :=
  (tRet (tLst (tCons (tCB (gList K) (tCons (tSl (gSl K) (tVar 0) tNoPart (tPart (tC (.int 63)))) tNil)) (tCons (tC (.int 0)) (tCons (tC (.int 0)) (tCons (tC (.int 120121)) (tCons (tC (.int 0)) tNil)))))))
theorem read_open {K : PySem.W.Frag} {a : Addr} {ns : List Int} {G H : Hp} {L : List (Addr × HO)} {D : Ends} (S : Stt G H L) (ha : SqL K G a (ns.map V.int)) (q : ∀ b G' H', Ex G G' → Bag K G' H' b L → D.rt (.ref b) H') : t_open K D [some (.ref a)] H := by
  unfold t_open
  walk_at "go"
  refine rd_slL (ex_l S.ex ha) fun p hp => ?_
  have S1 := S.new (o := .lst (cutV (ns.map V.int) none (some 63))) hp
  have e1 := S.newE (o := .lst (cutV (ns.map V.int) none (some 63))) hp
  have h1 : upd H p (.lst (cutV (ns.map V.int) none (some 63))) p = some (.lst ((ns.take 63).map V.int)) := by rw [upd_same, cutV_take]
  walk_at "go"
  refine ⟨p, _, rfl, .inl (sq_of h1), fun c hc => ?_⟩
  have S2 := S1.new (o := .lst ((ns.take 63).map V.int)) hc
  have e2 := S1.newE (o := .lst ((ns.take 63).map V.int)) hc
  walk_at "go"
  refine ⟨by show 5 ≤ sizeLine; decide, fun b hb => ?_⟩
  have S3 := S2.mkL (o := .lst [.ref c, .int 0, .int 0, .int 120121, .int 0]) hb
  exact q b _ _ (e1.trans e2) ⟨c, 0, 0, 120121, 0, ns.take 63, S3, sq_of upd_same, by decide, by decide, by decide, by decide, by decide⟩
/-- one of some things -/
def sp_of (K : PySem.W.Frag) : Sp := fun vs H Q _ => ∃ (b a : Addr) (xs : List V) (G : Hp) (L : List (Addr × HO)), vs = [.ref b, .ref a] ∧ Bag K G H b L ∧ (∀ H', Bag K G H' b L → SqL K H' a xs ∨ SqT K H' a xs) ∧ 0 < xs.length ∧ xs.length < 1000000 ∧
  (∀ x H', x ∈ xs → Bag K G H' b L → Q x H')
def t_of (K : PySem.W.Frag) : TS :=
  (tRet (tOp (rIx K) (tVar 1) (tCall (sp_draw K) [] E0 (tCons (tVar 0) (tCons (tCB (gLen K) (tCons (tVar 1) tNil)) tNil)))))
theorem read_of {K : PySem.W.Frag} {b a : Addr} {xs : List V} {G H : Hp} {L : List (Addr × HO)} {D : Ends} (B : Bag K G H b L) (hs : ∀ H', Bag K G H' b L → SqL K H' a xs ∨ SqT K H' a xs) (h0 : 0 < xs.length) (h1 : xs.length < 1000000)
    (q : ∀ x H', x ∈ xs → Bag K G H' b L → D.rt x H') : t_of K D [some (.ref b), some (.ref a)] H := by
  unfold t_of
  walk_at "go"
  refine ⟨.ref a, xs.length, rfl, ?_, ?_⟩
  · rcases hs H B with h | h
    · exact .inl ⟨xs, h, rfl⟩
    · exact .inr ⟨xs, h, rfl⟩
  walk_at "go"
  refine ⟨b, _, G, L, rfl, by omega, by omega, B, fun d H' d0 d1 B' => ?_⟩
  obtain ⟨j, rfl⟩ : ∃ j : Nat, d = (j : Int) := ⟨d.toNat, by omega⟩
  have hj : j < xs.length := by omega
  have hat : atI xs (j : Int) = some xs[j] := atI_nat (List.getElem?_eq_getElem hj)
  rcases hs H' B' with h | h
  · exact rd_ixL h hat (q _ _ (List.getElem_mem hj) B')
  · exact rd_ixT h hat (q _ _ (List.getElem_mem hj) B')
theorem sat_draw {K : PySem.W.Frag} {vs : List V} {H : Hp} {Q : VK} {E : XK} (h : sp_draw K vs H Q E) : vs.length = 2 ∧ t_draw K { nx := fun _ H' => Q .non H', rt := Q } (vs.map some ++ List.replicate (5 - vs.length) none) H := by
  obtain ⟨b, m, G, L, rfl, m0, m1, B, q⟩ := h
  exact ⟨rfl, read_draw m0 m1 B q⟩
theorem sat_open {K : PySem.W.Frag} {vs : List V} {H : Hp} {Q : VK} {E : XK} (h : sp_open K vs H Q E) : vs.length = 1 ∧ t_open K { nx := fun _ H' => Q .non H', rt := Q } (vs.map some ++ List.replicate (1 - vs.length) none) H := by
  obtain ⟨a, ns, G, L, rfl, S, ha, q⟩ := h
  exact ⟨rfl, read_open S ha q⟩
theorem sat_of {K : PySem.W.Frag} {vs : List V} {H : Hp} {Q : VK} {E : XK} (h : sp_of K vs H Q E) : vs.length = 2 ∧ t_of K { nx := fun _ H' => Q .non H', rt := Q } (vs.map some ++ List.replicate (2 - vs.length) none) H := by
  obtain ⟨b, a, xs, G, L, rfl, B, hs, h0, h1, q⟩ := h
  exact ⟨rfl, read_of B hs h0 h1 q⟩
theorem never_like (K : PySem.W.Frag) : ∀ vs H Q E, sp_like K 0 vs H Q E → False := fun _ _ _ _ ⟨_, _, _, _, _, _, _, _, _, _, h, _⟩ => h
theorem sat_like {K : PySem.W.Frag} {n : Nat} {vs : List V} {H : Hp} {Q : VK} {E : XK} (h : sp_like K (n + 1) vs H Q E) : vs.length = 2 ∧ t_like K n { nx := fun _ H' => Q .non H', rt := Q } (vs.map some ++ List.replicate (4 - vs.length) none) H := by
  obtain ⟨G, L, x, y, d, e, rfl, S, hx, hy, hn, q⟩ := h
  exact ⟨rfl, read_like S hx hy hn q⟩

/-! Comprehensions over lists and tuples by plain functions. -/
section
variable {W : Hp → Hp → List (Addr × HO) → Prop} {K : PySem.W.Frag} {G H : Hp} {L : List (Addr × HO)} {σ : L2.St} {te : TE} {tt : TT} {Q : VK} {a : Addr} {xs : List V} {j : Nat}
theorem lc_mapJ (hW : Wd W) {J : It} {Gw : Hp → Prop} (w : Walk J xs.length Gw (YAt xs)) (S : W G H L) (hg : ∀ H', Ex G H' → Gw H') (hz : xs.length < 1000000) (hw : ∀ x, wipe ((wipe σ [j]).set j (some x)) [j] = wipe σ [j]) (f : V → V)
    (hS : ∀ x acc D G1 H1, x ∈ xs → Ex G G1 → W G1 H1 ((D, .lst acc) :: L) → ∀ Kp : VK, (∀ H2, W G1 H2 ((D, .lst acc) :: L) → Kp (f x) H2) → te ((wipe σ [j]).set j (some x)) H1 Kp)
    (q : ∀ D G2 H2, Ex G G2 → W G2 H2 ((D, .lst (xs.map f)) :: L) → Q (.ref D) H2) : LcG J (gName j) tYes te [j] σ H Q := by
  refine lc_go hW w S hz (fun i v _ => xs[i]? = some v) (fun i acc _ => acc = (xs.take i).map f) hg
    (fun i x G1 H1 H2 L1 _ e1 S1 y => item_at S1 y) rfl (fun _ _ _ _ _ h => h) ?_ ?_
  · intro D i x acc G1 H1 hi _ e1 S1 I1 it Kp Sk kp sk
    refine rd_name ⟨hw x, rd_yes (rd_iT ?_)⟩
    refine hS x acc D G1 H1 (List.mem_of_getElem? it) e1 S1 _ fun H2 S2 => kp _ G1 H2 (Ex.refl _) S2 ?_
    rw [I1, List.take_add_one, it, List.map_append]
    rfl
  · intro D acc G2 H2 e2 S2 I2 _
    rw [List.take_length] at I2
    subst I2
    exact q D G2 H2 e2 S2
theorem lc_filterJ (hW : Wd W) {J : It} {Gw : Hp → Prop} (w : Walk J xs.length Gw (YAt xs)) (S : W G H L) (hg : ∀ H', Ex G H' → Gw H') (hz : xs.length < 1000000) (hw : ∀ x, wipe ((wipe σ [j]).set j (some x)) [j] = wipe σ [j]) (f : V → V) (p : V → Bool)
    (hT : ∀ x acc D G1 H1, x ∈ xs → Ex G G1 → W G1 H1 ((D, .lst acc) :: L) → ∀ Kt : Bool → Hp → Prop, (∀ H2, W G1 H2 ((D, .lst acc) :: L) → Kt (p x) H2) → tt ((wipe σ [j]).set j (some x)) H1 Kt)
    (hS : ∀ x acc D G1 H1, x ∈ xs → p x = true → Ex G G1 → W G1 H1 ((D, .lst acc) :: L) → ∀ Kp : VK, (∀ H2, W G1 H2 ((D, .lst acc) :: L) → Kp (f x) H2) → te ((wipe σ [j]).set j (some x)) H1 Kp)
    (q : ∀ D G2 H2, Ex G G2 → W G2 H2 ((D, .lst ((xs.filter p).map f)) :: L) → Q (.ref D) H2) : LcG J (gName j) tt te [j] σ H Q := by
  refine lc_go hW w S hz (fun i v _ => xs[i]? = some v) (fun i acc _ => acc = ((xs.take i).filter p).map f) hg
    (fun i x G1 H1 H2 L1 _ e1 S1 y => item_at S1 y) rfl (fun _ _ _ _ _ h => h) ?_ ?_
  · intro D i x acc G1 H1 hi _ e1 S1 I1 it Kp Sk kp sk
    refine rd_name ⟨hw x, ?_⟩
    have e : (xs.take (i + 1)).filter p = (xs.take i).filter p ++ (if p x = true then [x] else []) := by
      rw [List.take_add_one, it, List.filter_append, show (some x).toList = [x] from rfl, List.filter_cons, List.filter_nil]
    refine hT x acc D G1 H1 (List.mem_of_getElem? it) e1 S1 _ fun H2 S2 => ?_
    by_cases hp : p x = true
    · rw [if_pos hp]
      rw [if_pos hp] at e
      refine hS x acc D G1 H2 (List.mem_of_getElem? it) hp e1 S2 _ fun H3 S3 => kp _ G1 H3 (Ex.refl _) S3 ?_
      rw [I1, e, List.map_append]
      rfl
    · rw [if_neg hp]
      rw [if_neg hp] at e
      refine sk G1 H2 (Ex.refl _) S2 ?_
      rw [I1, e, List.append_nil]
  · intro D acc G2 H2 e2 S2 I2 _
    rw [List.take_length] at I2
    subst I2
    exact q D G2 H2 e2 S2
/-- n values told by a world that draws -/
theorem lc_draws (hW : Wd W) {n : Nat} {lo : Int} (S : W G H L) (hz : n < 1000000) (hw : ∀ x, wipe ((wipe σ [j]).set j (some x)) [j] = wipe σ [j]) (P : V → Prop)
    (hS : ∀ i acc D G1 H1, i < n → Ex G G1 → W G1 H1 ((D, .lst acc) :: L) → ∀ Kp : VK, (∀ v G2 H2, Ex G1 G2 → W G2 H2 ((D, .lst acc) :: L) → P v → Kp v H2) → te ((wipe σ [j]).set j (some (.int (lo + (i : Nat))))) H1 Kp)
    (q : ∀ D vs G2 H2, Ex G G2 → W G2 H2 ((D, .lst vs) :: L) → vs.length = n → (∀ v, v ∈ vs → P v) → Q (.ref D) H2) : LcG (Itr lo n) (gName j) tYes te [j] σ H Q := by
  refine lc_go hW walk_range S hz (fun i v _ => v = .int (lo + (i : Nat))) (fun i acc _ => acc.length = i ∧ ∀ v, v ∈ acc → P v) (fun _ _ => True.intro)
    (fun i x G1 H1 H2 L1 _ e1 S1 y => item_fn S1 y) ⟨rfl, fun _ h => by cases h⟩ (fun _ _ _ _ _ h => h) ?_ ?_
  · intro D i x acc G1 H1 hi _ e1 S1 I1 it Kp Sk kp sk
    subst it
    refine rd_name ⟨hw _, rd_yes (rd_iT ?_)⟩
    refine hS i acc D G1 H1 hi e1 S1 _ fun v G2 H2 e2 S2 hv => kp v G2 H2 e2 S2 ⟨by rw [List.length_append, I1.1]; rfl, fun u hu => ?_⟩
    cases List.mem_append.mp hu with
    | inl h => exact I1.2 u h
    | inr h => rw [List.mem_singleton.mp h]; exact hv
  · intro D acc G2 H2 e2 S2 I2 _
    exact q D acc G2 H2 e2 S2 I2.1 I2.2
end
theorem len_snoc {α : Type} (l : List α) (a : α) : (l ++ [a]).length = l.length + 1 := List.length_append
theorem in_two {α : Type} {x a : α} {l : List α} (h : x ∈ a :: l) : x = a ∨ x ∈ l := List.mem_cons.mp h
theorem dec_iff {p q : Prop} [Decidable p] [Decidable q] (h : p ↔ q) : decide p = decide q := decide_eq_decide.mpr h
/-! ### scalars -/
/-- a value: a number or None -/
def oV : Option Int → V
  | none => .non
  | some i => .int i
def oD : Option Int → PyData
  | none => .none
  | some i => .int i
theorem oDp {K : PySem.W.Frag} {H : Hp} : ∀ a : Option Int, Dp K H (oV a) (oD a)
  | none => .non
  | some i => .int i
theorem oDps {K : PySem.W.Frag} {H : Hp} : ∀ l : List (Option Int), DpAll K H (l.map oV) (l.map oD)
  | [] => .nil
  | a :: l => .cons (oDp a) (oDps l)
theorem o_eqv (a b : Option Int) : PyData.eqv (oD a) (oD b) = decide (a = b) := by
  cases a <;> cases b
  · rfl
  · rfl
  · rfl
  · rename_i x y
    show (x == y) = decide (some x = some y)
    by_cases h : x = y
    · subst h; rw [beq_self_eq_true, decide_eq_true rfl]
    · rw [decide_eq_false (fun z => h (Option.some.inj z))]; exact beq_eq_false_iff_ne.mpr h
theorem o_shaped (a : Option Int) : SeqAt.shaped (oD a) = true := by cases a <;> rfl
theorem o_canLay : ∀ l : List (Option Int), PyData.canLayAll0 (l.map oD) = true
  | [] => rfl
  | a :: l => by
    show (PyData.canLay0 (oD a) && PyData.canLayAll0 (l.map oD)) = true
    rw [o_canLay l]
    cases a <;> rfl
theorem o_depth : ∀ l : List (Option Int), PyData.depthAll (l.map oD) = 0
  | [] => rfl
  | a :: l => by
    show max (PyData.depth (oD a)) (PyData.depthAll (l.map oD)) = 0
    rw [o_depth l]
    cases a <;> rfl
theorem os_shaped (l : List (Option Int)) : SeqAt.shaped (.list (l.map oD)) = true := by
  unfold SeqAt.shaped
  rw [show PyData.canLay0 (.list (l.map oD)) = PyData.canLayAll0 (l.map oD) from rfl, o_canLay, show PyData.depth (.list (l.map oD)) = PyData.depthAll (l.map oD) + 1 from rfl, o_depth]
  rfl
theorem os_eqv : ∀ l m : List (Option Int), PyData.eqv (.list (l.map oD)) (.list (m.map oD)) = decide (l = m)
  | [], [] => rfl
  | [], _ :: _ => rfl
  | _ :: _, [] => rfl
  | a :: l, b :: m => by
    show (PyData.eqv (oD a) (oD b) && PyData.eqv (.list (l.map oD)) (.list (m.map oD))) = _
    rw [o_eqv, os_eqv l m]
    by_cases h : a = b
    · by_cases h2 : l = m
      · subst h h2; simp
      · rw [decide_eq_false h2, decide_eq_false (fun z => h2 (List.cons.inj z).2), Bool.and_false]
    · rw [decide_eq_false h, decide_eq_false (fun z => h (List.cons.inj z).1), Bool.false_and]
theorem fit_scal {n : Nat} {d : PyData} (h : ∀ es, d ≠ .list es ∧ d ≠ .tuple es) : fit (n + 1) d := by
  cases d with
  | list es => exact ((h es).1 rfl).elim
  | tuple es => exact ((h es).2 rfl).elim
  | _ => exact True.intro
theorem fit_os (n : Nat) (l : List (Option Int)) (h : l.length < 1000000) : fit (n + 2) (.list (l.map oD)) := ⟨by rw [List.length_map]; exact h, fun e he => by
  obtain ⟨a, _, rfl⟩ := List.mem_map.mp he
  cases a <;> exact True.intro⟩
theorem fit_bools (n : Nat) (l : List Bool) (h : l.length < 1000000) : fit (n + 2) (.list (l.map PyData.bool)) := ⟨by rw [List.length_map]; exact h, fun e he => by
  obtain ⟨a, _, rfl⟩ := List.mem_map.mp he
  exact True.intro⟩

/-! Calls with keywords alone; defs made callable. -/
/-- n keyword values, put in the parameters' order -/
def gPV {α : Type} (n : Nat) (perm : List Nat) (vs zs : List α) : List α := if vs.length = 0 ∧ zs.length = n then perm.filterMap fun i => zs[i]? else []
theorem gPV_rel {n : Nat} {perm : List Nat} {vs zs : List V} {us ws : List Value} (r : Vals vs us) (q : Vals zs ws) : Vals (gPV n perm vs zs) (gPV n perm us ws) := by
  have h1 := r.length
  have h2 := q.length
  unfold gPV
  by_cases h : vs.length = 0 ∧ zs.length = n
  · rw [if_pos h, if_pos ⟨by rw [← h1]; exact h.1, by rw [← h2]; exact h.2⟩]
    induction perm with
    | nil => exact .nil
    | cons i perm ih =>
      rw [List.filterMap_cons, List.filterMap_cons]
      cases e : zs[i]? with
      | none =>
        rw [Vals.none_of q e]
        exact ih
      | some x =>
        obtain ⟨u, hu, ru⟩ := Vals.get q e
        rw [hu]
        exact .cons ru ih
  · rw [if_neg h, if_neg (fun z => h ⟨by rw [h1]; exact z.1, by rw [h2]; exact z.2⟩)]
    exact .nil
structure CalK (P : Program) (w : World) (K : PySem.W.Frag) (mg : Str → Option Value) (base : Heap) (k : Nat) (x : Str) (sp : Sp) (ks : List Str) (perm : List Nat) : Prop where
  ex : ∃ (f : Addr) (fd : FuncData) (ps : List Str), FnOk P w K mg base CX0 k f fd ps sp ∧ mg x = some (.ref f) ∧ PySem.W.keepIn K (.ref f) = true ∧ KBinds K fd ps ks (gPV ks.length perm) (gPV ks.length perm)
theorem calK_mk {P : Program} {w : World} {K : PySem.W.Frag} {mg : Str → Option Value} {base : Heap} {k : Nat} {x qual : Str} {st : Stmt} {f : Addr} {fd : FuncData} {ps ks : List Str} {perm : List Nat} {sp : Sp} (F : Fun K x qual st f fd) (G : FnOk P w K mg base CX0 k f fd ps sp) (g : mg x = some (.ref f)) (h0 : 0 < ps.length)
    (h : ∀ (kV doc pm : Value) (an : Option Addr) (cdv ct : Value) (ws : List Value), ws.length = ks.length → bindArgs (PySem.W.fnOf x qual (defArgs st) (defBody st) (defScope st) .none kV doc pm an cdv ct) ⟨[], ks.zip ws⟩ = pure (ps.zip (gPV ks.length perm [] ws))) : CalK P w K mg base k x sp ks perm := by
  have ⟨_, _, kV, doc, pm, an, cdv, ct, _, hfd, _, _⟩ := F.ex
  subst hfd
  refine ⟨f, _, ps, G, g, F.kp, ⟨fun s us ws _ hl => ?_, gPV_rel⟩⟩
  by_cases c : us.length = 0 ∧ ws.length = ks.length
  · have hu : us = [] := List.length_eq_zero_iff.mp c.1
    subst hu
    exact .of_eq (h kV doc pm an cdv ct ws c.2)
  · unfold gPV at hl
    rw [if_neg c] at hl
    exact absurd hl (by simp; omega)
section
variable {X : Cx} {k j : Nat} {x : Str} {sp : Sp} {ks : List Str} {perm : List Nat} {p pos : Pos} {kws : List Keyword} {tk : TA}
/-- a call by its name, all its values by keyword -/
theorem pe_cK (c : CalK X.prog X.w X.K X.mg X.base k x sp ks perm) (hr : Room j X.A) (hk : k ≤ j) (hg : Gl X x) (hkw : PK X kws tk)
    (named : (backToKw pos (keywordEach kws X.env)).all (·.1.isSome) = true := by rfl)
    (names : (backToKw pos (keywordEach kws X.env)).filterMap (·.1) = ks := by rfl)
    (nodb : (x == ("__debug__" : Str)) = false := by decide)
    (noStar : ((backTo pos (starEach [] X.env)).any (·.1)
      || (backToKw pos (keywordEach kws X.env)).any (·.1.isNone)) = false := by rfl) :
    PE X (.Call (.Name x p) [] kws pos) (tCallK sp (gPV ks.length perm) E0 tNil tk) := by
  have ⟨f, fd, ps, ok, hmg, hkeep, hbinds⟩ := c.ex
  constructor
  intro pins s σ H Q hI hQ
  apply wpAny_Call_Name_kw (ld_glob hI hg hmg ?_ nodb)
  apply PySem.W.callWith_KW0 (h₀ := X.base) hI.ok.mod.kin hkeep named ?_ noStar
  apply thn (hkw.run pos pins s σ H _ hI hQ)
  rintro ws s2 ⟨zs, H2, hI2, hz, hQ2⟩
  constructor
  · exact hI2.kIn
  · rw [names]
    exact run_fnk ok (hr.mono hk) hbinds pass0 hI2 .nil hz hQ2
end
/-- a def that keeps its promise, made callable -/
theorem cal_mk {P : Program} {w : World} {K : PySem.W.Frag} {mg : Str → Option Value} {base : Heap} {k : Nat} {x qual : Str} {st : Stmt} {f : Addr} {fd : FuncData} {ps : List Str} {sp : Sp} (F : Fun K x qual st f fd) (G : FnOk P w K mg base CX0 k f fd ps sp) (g : mg x = some (.ref f))
    (h : ∀ (kV doc pm : Value) (an : Option Addr) (cdv ct : Value) (us : List Value), us.length = ps.length → bindArgs (PySem.W.fnOf x qual (defArgs st) (defBody st) (defScope st) .none kV doc pm an cdv ct) ⟨us, []⟩ = pure (ps.zip us)) : C8.Cal P w K mg base k x sp [] :=
  ⟨f, fd, ps, [], G, g, F.kp, F.binds h, .nil⟩
theorem fnOk_never {P : Program} {w : World} {K : PySem.W.Frag} {mg : Str → Option Value} {base : Heap} {k : Nat} {f : Addr} {fd : FuncData} {ps : List Str} {sp : Sp} (h : ∀ vs H Q E, sp vs H Q E → False) : FnOk P w K mg base CX0 k f fd ps sp :=
  ⟨fun vs H Q E z => (h vs H Q E z).elim, fun _ _ _ _ _ _ _ _ _ _ _ _ _ z => (h _ _ _ _ z).elim⟩

/-! Built-ins with one keyword; max and min of numbers with a default. -/
def CallKR (X : Cx) (f : Value) (kn : Str) (r : V → V → Hp → VK → Prop) : Prop :=
  ∀ (pins : List (Addr × Obj)) (s : Shared) (σ : L2.St) (H : Hp) (x d : V) (v w : Value) (Q : VK), Inv X pins σ H s → RelV x v → RelV d w → r x d H Q →
    wpAny (model X.prog X.w) X.A (call f [v] [(kn, w)]) (EP X pins σ Q) X.xe s
def tBK (r : V → V → Hp → VK → Prop) (t tk : TA) : TE := fun σ H Q => t σ H fun vs H1 => tk σ H1 fun zs H2 => ∃ a d, vs = [a] ∧ zs = [d] ∧ r a d H2 Q
theorem rd_bk {r : V → V → Hp → VK → Prop} {t tk : TA} {σ : L2.St} {H : Hp} {Q : VK} (q : t σ H fun vs H1 => tk σ H1 fun zs H2 => ∃ a d, vs = [a] ∧ zs = [d] ∧ r a d H2 Q) : tBK r t tk σ H Q := q
theorem rd_bk1 {P : V → V → Prop} {a d : V} (q : P a d) : ∃ a' d', [a] = [a'] ∧ [d] = [d'] ∧ P a' d' := ⟨a, d, rfl, rfl, q⟩
theorem pe_bK {X : Cx} {id : String} {kn x : Str} {p pos : Pos} {e : Expr} {kws : List Keyword} {t tk : TA} {r : V → V → Hp → VK → Prop} (hc : CallKR X (.builtin id) kn r) (hg : Gl X x) (hm : X.mg x = none) (hv : bootBuiltins x = some (.builtin id))
    (ha : PA X [e] t) (hk : PK X kws tk)
    (hks : (backToKw pos (keywordEach kws X.env)).filterMap (·.1) = [kn] := by rfl)
    (hn : x ≠ "__name__" := by decide) (hdb : (x == ("__debug__" : Str)) = false := by decide)
    (he : backTo pos (starEach [e] X.env) = (false, eval e X.env) :: backTo pos (starEach [] X.env) := by rfl) (hpl : (backTo pos (starEach [e] X.env)).any (·.1) = false := by rfl)
    (hall : (backToKw pos (keywordEach kws X.env)).all (·.1.isSome) = true := by rfl) (hno : (backToKw pos (keywordEach kws X.env)).any (·.1.isNone) = false := by rfl) :
    PE X (.Call (.Name x p) [e] kws pos) (tBK r t tk) := by
  constructor
  intro pins s σ H Q hI hQ
  apply wpAny_Call_Name_kw (ld_blt hI hg hm hv ?_ hn hdb)
  apply PyProof.Rows.callWith_kw ?_ he hpl hall hno
  apply thn (ha.run pos pins s σ H _ hI hQ)
  rintro us s1 ⟨vs, H1, hI1, r1, q1⟩
  apply thn (hk.run pos pins s1 σ H1 _ hI1 q1)
  rintro ws s2 ⟨zs, H2, hI2, r2, a, d, rfl, rfl, q⟩
  rw [hks]
  match r1, r2 with
  | .cons ra .nil, .cons rd .nil => exact hc pins s2 σ H2 a d _ _ Q hI2 ra rd q
def foldMax : List Int → Option Int
  | [] => none
  | n :: r => some (r.foldl max n)
def foldMin : List Int → Option Int
  | [] => none
  | n :: r => some (r.foldl min n)
def rMaxD (K : PySem.W.Frag) : V → V → Hp → VK → Prop := fun x d H Q => ∃ (a : Addr) (ns : List Int), x = .ref a ∧ SqL K H a (ns.map V.int) ∧ Q ((foldMax ns).elim d V.int) H
def rMinD (K : PySem.W.Frag) : V → V → Hp → VK → Prop := fun x d H Q => ∃ (a : Addr) (ns : List Int), x = .ref a ∧ SqL K H a (ns.map V.int) ∧ Q ((foldMin ns).elim d V.int) H
theorem depth_ints : ∀ ns : List Int, PyData.depthAll (ns.map PyData.int) = 0
  | [] => rfl
  | n :: ns => by
    show max 0 (PyData.depthAll (ns.map PyData.int)) = 0
    rw [depth_ints ns]; rfl
theorem alike_ints (ns : List Int) : PySem.W.AlikeAll (ns.map PyData.int) := by
  refine ⟨fun x hx y hy => ?_, fun x hx => ?_⟩
  · have ⟨_, _, h1⟩ := List.mem_map.mp hx
    have ⟨_, _, h2⟩ := List.mem_map.mp hy
    subst h1; subst h2; rfl
  · have ⟨_, _, h1⟩ := List.mem_map.mp hx
    subst h1
    exact fun z => nomatch z
theorem ck_max {X : Cx} (hc : X.calm = true) (hu : X.A.units + 64 < cLine) : CallKR X (.builtin "max") "default" (rMaxD X.K) := by
  rintro pins s σ H x d v w Q hI rx rd ⟨a, ns, rfl, hs, q⟩
  have ⟨its, rv, hl, _⟩ := hI.list hs
  cases rx
  have ⟨as, hr⟩ := Dp.readsAll hI _ _ its (DpAll.ints (K := X.K) (H := H) ns) rv
  have room : PyData.depthAll (ns.map PyData.int) = 0 := depth_ints ns
  apply PySem.W.max_list_default (hI.ok.hd hc) hl.isList hr (alike_ints ns) (by omega)
  · intro e h' tk hk
    cases List.map_eq_nil_iff.mp e
    exact ⟨_, H, hI.kept hk, rd, q⟩
  · intro y ys i v h' tk bs e hi r hk
    match ns, e with
    | n :: r2, e =>
      have ⟨e1, e2⟩ := List.cons.inj e
      subst e1 e2
      rw [PySem.W.maxD_ints] at r
      cases r
      exact ⟨.int (r2.foldl max n), H, hI.kept hk, ⟨_, rfl⟩, q⟩
theorem ck_min {X : Cx} (hc : X.calm = true) (hu : X.A.units + 64 < cLine) : CallKR X (.builtin "min") "default" (rMinD X.K) := by
  rintro pins s σ H x d v w Q hI rx rd ⟨a, ns, rfl, hs, q⟩
  have ⟨its, rv, hl, _⟩ := hI.list hs
  cases rx
  have ⟨as, hr⟩ := Dp.readsAll hI _ _ its (DpAll.ints (K := X.K) (H := H) ns) rv
  have room : PyData.depthAll (ns.map PyData.int) = 0 := depth_ints ns
  apply PySem.W.min_list_default (hI.ok.hd hc) hl.isList hr (alike_ints ns) (by omega)
  · intro e h' tk hk
    cases List.map_eq_nil_iff.mp e
    exact ⟨_, H, hI.kept hk, rd, q⟩
  · intro y ys i v h' tk bs e hi r hk
    match ns, e with
    | n :: r2, e =>
      have ⟨e1, e2⟩ := List.cons.inj e
      subst e1 e2
      rw [PySem.W.minD_ints] at r
      cases r
      exact ⟨.int (r2.foldl min n), H, hI.kept hk, ⟨_, rfl⟩, q⟩
def rMin2 : List V → Hp → VK → Prop := fun xs H Q => ∃ i j, xs = [.int i, .int j] ∧ Q (.int (if j < i then j else i)) H
theorem cg_max2 {X : Cx} (hc : X.calm = true) : CallR X (.builtin "max") Evl.rMax2 := call_max2 hc
theorem cg_min2 {X : Cx} (hc : X.calm = true) : CallR X (.builtin "min") rMin2 := call_min2 hc

/-! enumerate of a tuple; zip of a list and a tuple. -/
section
variable {s : Shared} {P : Program} {w : World} {A : Around} {E : Value → Shared → Prop}
/-- one more pair of a place and an item -/
theorem enumT_step {e it l : Addr} {i : Nat} {vs : Array Value} {x old : Value} {Q : Value → Shared → Prop} (en : IsEnum s.heap e it i old) (ti : s.heap.IsTupleIter it l i) (tu : s.heap.IsTuple l vs) (vx : vs[i]? = some x) (ne : e ≠ it)
    (q : ∀ h2, IsEnumOut h2 e it ((i : Int) + 1) x s.heap.objs.size → h2.IsTupleIter it l (i + 1) → h2.get? s.heap.objs.size = some { cls := .type "tuple", data := .seq #[.int i s.toks, x] } → h2.objs.size = s.heap.objs.size + 1 →
      (∀ b o, b ≠ e → b ≠ it → s.heap.get? b = some o → h2.get? b = some o) → Q (.ref s.heap.objs.size) { s with heap := h2, toks := s.toks + 1 }) :
    wpAny (model P w) A (Builtin.«enumerate.__next__» ⟨[.ref e], []⟩) (fun fin s2 => ∃ v, fin = .done (.ret v) ∧ Q v s2) E s := by
  obtain ⟨hp, ge, dr, tk, os⟩ := s
  have low : e < hp.objs.size := Heap.lt_size en
  show wpAny _ _ (field (.ref e) 2 >>= _) _ _ (⟨hp, ge, dr, tk, os⟩ : Shared)
  refine wpAny_bind (wpAny_field en rfl (x := .ref it) rfl ?_)
  refine wpAny_bind (nextOf_tuple_item ti tu vx fun a1 i1 k1 => ?_)
  replace k1 : Heap.SameBut it hp a1 := k1
  have e1 : IsEnum a1 e it i old := (k1.2 e ne).trans en
  show wpAny _ _ (field (.ref e) 3 >>= _) _ _ (⟨a1, ge, dr, tk, os⟩ : Shared)
  refine wpAny_bind (wpAny_field e1 rfl (x := rawInt i) rfl ?_)
  show wpAny _ _ (field (.ref e) 4 >>= _) _ _ (⟨a1, ge, dr, tk, os⟩ : Shared)
  refine wpAny_bind (wpAny_field e1 rfl (x := .none) rfl ?_)
  show wpAny _ _ (mkInt i >>= _) _ _ (⟨a1, ge, dr, tk, os⟩ : Shared)
  refine wpAny_bind (wpAny_mkInt ?_); show wpAny _ _ (setField (.ref e) 3 (rawInt ((i : Int) + 1)) >>= _) _ _ (⟨a1, ge, dr, tk + 1, os⟩ : Shared)
  refine wpAny_bind (wpAny_setField_rec e1 (by simp) fun a2 e2 k2 => ?_)
  replace k2 : Heap.SameBut e a1 a2 := k2
  replace e2 : IsEnum a2 e it ((i : Int) + 1) old := e2
  show wpAny _ _ (setField (.ref e) 4 .none >>= _) _ _ (⟨a2, ge, dr, tk + 1, os⟩ : Shared)
  refine wpAny_bind (wpAny_setField_rec e2 (by simp) fun a3 e3 k3 => ?_)
  replace k3 : Heap.SameBut e a2 a3 := k3
  replace e3 : IsEnum a3 e it ((i : Int) + 1) old := e3
  show wpAny _ _ (newTuple [.int i tk, x] >>= _) _ _ (⟨a3, ge, dr, tk + 1, os⟩ : Shared)
  refine wpAny_bind (wpAny_newTuple ?_); have z3 : a3.objs.size = hp.objs.size := k3.1.trans (k2.1.trans k1.1)
  have e4 : IsEnum (a3.push { cls := .type "tuple", data := .seq #[.int i tk, x] }) e it ((i : Int) + 1) old := Heap.get?_push_of_some _ e3
  have t4 := Heap.get?_push_size a3 (o := { cls := .type "tuple", data := .seq #[.int i tk, x] }) rfl
  have i3 : a3.IsTupleIter it l (i + 1) := (i1.extBut k2.extBut (Ne.symm ne)).extBut k3.extBut (Ne.symm ne)
  have i4 : (a3.push { cls := .type "tuple", data := .seq #[.int i tk, x] }).IsTupleIter it l (i + 1) := have ⟨o, ho, r⟩ := i3; ⟨o, Heap.get?_push_of_some _ ho, r⟩
  have z4 : (a3.push { cls := .type "tuple", data := .seq #[.int i tk, x] }).objs.size = hp.objs.size + 1 := by rw [Heap.size_push, z3]
  have s4 : ∀ b o, b ≠ e → b ≠ it → hp.get? b = some o → (a3.push { cls := .type "tuple", data := .seq #[.int i tk, x] }).get? b = some o := fun b o b1 b2 z =>
    Heap.get?_push_of_some _ (k3.extBut b o b1 (k2.extBut b o b1 (k1.extBut b o b2 z)))
  rw [z3] at t4
  rw [z3]
  generalize a3.push { cls := .type "tuple", data := .seq #[.int i tk, x] } = a4 at e4 t4 i4 z4 s4
  show wpAny _ _ (Builtin.SmallTypes.ownedTupleIsFree (.ref e) >>= _) _ _ (⟨a4, ge, dr, tk + 1, os⟩ : Shared)
  unfold Builtin.SmallTypes.ownedTupleIsFree; refine wpAny_bind (wpAny_bind (wpAny_field e4 rfl (x := .none) rfl (wpAny_pure ?_)))
  simp only [if_true]
  refine wpAny_bind (wpAny_rule ?_); refine wpAny_bind (wpAny_field e4 rfl (x := old) rfl ?_)
  refine wpAny_bind (wpAny_setField_rec e4 (by simp) fun a5 e5 k5 => ?_)
  replace k5 : Heap.SameBut e a4 a5 := k5
  replace e5 : IsEnum a5 e it ((i : Int) + 1) x := e5
  show wpAny _ _ (Builtin.SmallTypes.ownedTupleHandOut (.ref e) (.ref hp.objs.size) >>= _) _ _ (⟨a5, ge, dr, tk + 1, os⟩ : Shared)
  unfold Builtin.SmallTypes.ownedTupleHandOut; refine wpAny_bind (wpAny_bind (wpAny_setField_rec e5 (by simp) fun a6 e6 k6 => ?_))
  replace k6 : Heap.SameBut e a5 a6 := k6
  replace e6 : IsEnumOut a6 e it ((i : Int) + 1) x hp.objs.size := e6
  refine wpAny_setField_rec e6 (by simp) fun a7 e7 k7 => ?_
  replace k7 : Heap.SameBut e a6 a7 := k7
  replace e7 : IsEnumOut a7 e it ((i : Int) + 1) x hp.objs.size := e7
  have up : ∀ b o, b ≠ e → a4.get? b = some o → a7.get? b = some o := fun b o b1 z => k7.extBut b o b1 (k6.extBut b o b1 (k5.extBut b o b1 z))
  refine wpAny_bind (wpAny_letGo (wpAny_pure ⟨_, rfl, q a7 e7 ?_ (up _ _ (Nat.ne_of_gt low) t4) ?_ fun b o b1 b2 z => up b o b1 (s4 b o b1 b2 z)⟩))
  · exact have ⟨o, ho, r⟩ := i4; ⟨o, up it o (Ne.symm ne) ho, r⟩
  · rw [k7.1, k6.1, k5.1, z4]
theorem enumT_item {e it l : Addr} {i : Nat} {vs : Array Value} {x old : Value} {Q : Option Value → Shared → Prop} (en : IsEnum s.heap e it i old) (ti : s.heap.IsTupleIter it l i) (tu : s.heap.IsTuple l vs) (vx : vs[i]? = some x) (ne : e ≠ it)
    (q : ∀ h2, IsEnumOut h2 e it ((i : Int) + 1) x s.heap.objs.size → h2.IsTupleIter it l (i + 1) → h2.get? s.heap.objs.size = some { cls := .type "tuple", data := .seq #[.int i s.toks, x] } → h2.objs.size = s.heap.objs.size + 1 →
      (∀ b o, b ≠ e → b ≠ it → s.heap.get? b = some o → h2.get? b = some o) → Q (some (.ref s.heap.objs.size)) { s with heap := h2, toks := s.toks + 1 }) : wpAny (model P w) A (pyNext (.ref e)) Q E s := by
  have ty : s.TypeIs (.ref e) "enumerate" := ⟨_, en, rfl⟩
  unfold pyNext
  refine wpAny_bind (wpAny_attempt (wpAny_callSpecial?_slot (name := Str.ofString "__next__") ty PySem.F.slot_enumerate_next (wpAny_call_entry PySem.F.slot_enumerate_next ty PySem.F.entry_enumerate_next (enumT_step en ti tu vx ne fun h2 x1 x2 x3 x4 x5 => wpAny_pure (q h2 x1 x2 x3 x4 x5)) (PySem.F.args_enumerate_next_1 _))))
theorem enumT_end {e it l : Addr} {i : Nat} {vs : Array Value} {old : Value} {Q : Option Value → Shared → Prop} (calm : A.handled = none) (en : IsEnum s.heap e it i old) (ti : s.heap.IsTupleIter it l i) (tu : s.heap.IsTuple l vs) (vx : vs[i]? = none)
    (q : ∀ h2, Heap.ExtBut it s.heap h2 → Q none { s with heap := h2 }) : wpAny (model P w) A (pyNext (.ref e)) Q E s := by
  have ty : s.TypeIs (.ref e) "enumerate" := ⟨_, en, rfl⟩
  unfold pyNext
  refine wpAny_bind (wpAny_attempt (wpAny_callSpecial?_slot (name := Str.ofString "__next__") ty PySem.F.slot_enumerate_next (wpAny_call_entry PySem.F.slot_enumerate_next ty PySem.F.entry_enumerate_next ?_ (PySem.F.args_enumerate_next_1 _))))
  show wpAny _ _ (field (.ref e) 2 >>= _) _ _ s
  refine wpAny_bind (wpAny_field en rfl (x := .ref it) rfl ?_)
  refine wpAny_bind (nextOf_tuple_end calm ti tu vx fun h2 y k2 ⟨o, ho, hc⟩ => ?_)
  exact wpAny_bind (wpAny_isInstance (T := "StopIteration") (b := true) ⟨o, ho, hc⟩ isSubtype_stop (wpAny_pure (q _ k2)))
end
/-- enumerate(t) -/
theorem newEnumT (l : Addr) (vs : Array Value) : Meets (Builtin.«enumerate.__new__» ⟨[.type "enumerate", .ref l], []⟩) (fun _ R s => s.heap.IsTuple l vs ∧
    R (.ok (.ret (.ref (s.heap.push { cls := .type "tuple_iterator", data := .fields #[.ref l, .int 0 0] }).objs.size)))
      { s with heap := (s.heap.push { cls := .type "tuple_iterator", data := .fields #[.ref l, .int 0 0] }).push { cls := .type "enumerate", data := .fields #[.none, .bool false, .ref s.heap.objs.size, rawInt 0, .none, .none] } }) :=
  .of_wp fun P w A R s h => by
    obtain ⟨hp, ge, dr, tk, os⟩ := s
    obtain ⟨tu, h⟩ := h
    have sb := sub_enumerate
    have tu : Heap.IsTuple (Shared.heap ⟨hp, ge, dr, tk, os⟩) l vs := tu
    obtain ⟨o, ho, hc, n, hd⟩ := id tu
    have ho' : (Shared.heap ⟨hp, ge, dr, tk, os⟩).get? l = some o := ho
    wp_walk using AutoSeq1.wpAny_loadPart' ho'
    refine wpAny_stack_any fun st => wpAny_pure ?_; split
    · rename_i c _ _ _ _ _
      cases c == Value.type "enumerate" <;> (wp_walk using wpAny_pyIter_tuple tu) <;> exact ⟨_, rfl, h⟩
    · wp_walk using wpAny_pyIter_tuple tu
      exact ⟨_, rfl, h⟩
section
variable {s : Shared} {P : Program} {w : World} {A : Around} {E : Value → Shared → Prop}
theorem call_enumT {l : Addr} {vs : Array Value} {Q : Value → Shared → Prop} (tu : s.heap.IsTuple l vs)
    (q : ∀ h2, IsEnum h2 (s.heap.objs.size + 1) s.heap.objs.size 0 .none → h2.IsTupleIter s.heap.objs.size l 0 → h2.objs.size = s.heap.objs.size + 2 → (∀ b o, s.heap.get? b = some o → h2.get? b = some o) → Q (.ref (s.heap.objs.size + 1)) { s with heap := h2 }) :
    wpAny (model P w) A (call (.type "enumerate") [.ref l]) Q E s := by
  have z : (s.heap.push { cls := .type "tuple_iterator", data := .fields #[.ref l, .int 0 0] }).objs.size = s.heap.objs.size + 1 := Heap.size_push ..
  have en := Heap.get?_push_size (s.heap.push { cls := .type "tuple_iterator", data := .fields #[.ref l, .int 0 0] }) (o := { cls := .type "enumerate", data := .fields #[.none, .bool false, .ref s.heap.objs.size, rawInt 0, .none, .none] }) rfl
  rw [z] at en
  refine callType_new PySem.F.called_enumerate (by decide) (PySem.F.typeCall_enumerate_1 _) (PySem.F.newCall_enumerate_1 _) (fun ob => PySem.F.args_object_init_2 ob _) PySem.F.entry_enumerate_new (newEnumT l vs) ⟨tu, ?_⟩
  show _ ∧ _
  rw [z]
  exact ⟨⟨_, en, rfl⟩, q _ en ⟨_, Heap.get?_push_of_some _ (Heap.get?_push_size _ rfl), rfl, rfl⟩ (by rw [Heap.size_push, z]) fun b o x => Heap.get?_push_of_some _ (Heap.get?_push_of_some _ x)⟩
end
/-! ### the walks -/
/-- the tuple at a, its items with their places -/
def IteT (K : PySem.W.Frag) (a : Addr) : It :=
  ⟨fun i H => ∃ (xs : List V) (x : V), SqT K H a xs ∧ xs[i]? = some x, fun i H v H' => ∃ T x, v = .ref T ∧ H T = none ∧ H' = upd H T (.tup [.int (i : Nat), x]) ∧ ∀ xs, SqT K H a xs → xs[i]? = some x, fun i H => ∃ xs : List V, SqT K H a xs ∧ xs.length ≤ i⟩
theorem turn_enumT {P : Program} {w : World} {K : PySem.W.Frag} {elts : List Expr} {kk : Nat} {tpos : Pos} (a e it : Addr) : Turn P w K (.Tuple elts kk tpos) (IteT K a) [e, it] e (fun i h => (∃ old, IsEnum h e it ((i : Nat) : Int) old) ∧ h.IsTupleIter it a i ∧ e ≠ it) where
  mem := by simp
  obj := fun i h ⟨⟨old, en⟩, ⟨o, ho, hc, hd⟩, _⟩ b hb => by
    rcases (List.mem_cons.mp hb : _ ∨ _) with rfl | hb
    · exact ⟨_, en, fun v z => nomatch z⟩
    · rw [show b = _ from List.mem_singleton.mp hb]
      exact ⟨o, ho, fun v z => by rw [hd] at z; cases z⟩
  keep := fun i h h2 ⟨⟨old, en⟩, ⟨o, ho, r⟩, ne⟩ k => ⟨⟨old, k e (by simp) _ en⟩, ⟨o, k it (by simp) _ ho, r⟩, ne⟩
  item := by
    rintro X rfl rfl rfl calm i pins s σ H E I free ⟨⟨old, en⟩, ti, ne⟩ ⟨xs, x, hq, hx⟩
    obtain ⟨its, rv, p, _⟩ := I.tuple hq
    obtain ⟨u, hu, ru⟩ := rv.get hx; have le : e < s.heap.objs.size := Heap.lt_size en
    have li : it < s.heap.objs.size := have ⟨_, z, _⟩ := ti; Heap.lt_size z
    refine enumT_item en ti p (x := u) (by simpa using hu) ne fun h2 en2 ti2 T2 sz k2 => ⟨_, rfl, wpAny_letOwnedTupleGo_enum (s := { s with heap := h2, toks := s.toks + 1 }) en2 fun h3 en3 sb => ?_⟩
    have T3 : h3.get? s.heap.objs.size = some { cls := .type "tuple", data := .seq #[.int i s.toks, u] } := (sb.2 _ (Nat.ne_of_gt le)).trans T2
    have ok : ObjOk X.prog X.w (upd H s.heap.objs.size (.tup [.int (i : Nat), x])) h3 s.heap.objs.size (.tup [.int (i : Nat), x]) := ⟨by show 2 ≤ sizeLine; decide, [.int i s.toks, u], .cons ⟨_, rfl⟩ (.cons ru .nil), ⟨_, T3, rfl, _, rfl⟩⟩
    have I3 : Inv X pins σ (upd H s.heap.objs.size (.tup [.int (i : Nat), x])) { s with heap := h3, toks := s.toks + 1 } :=
      I.turnedNew (ch := [e, it]) (fun b o hb z => (sb.2 b (fun y => hb (by simp [y]))).trans (k2 b o (fun y => hb (by simp [y])) (fun y => hb (by simp [y])) z)) free (Nat.le_refl _) ok
    refine ⟨.ref s.heap.objs.size, _, I3, rfl, ⟨_, x, rfl, I.hok.fresh (Nat.le_refl _), rfl, fun ys hy => by rw [I.tuple_inj hy hq]; exact hx⟩, ⟨⟨u, ?_⟩, ?_, ne⟩, fun b hb => ?_⟩
    · rw [show ((i + 1 : Nat) : Int) = (i : Int) + 1 by omega]
      exact en3
    · obtain ⟨o, ho, r⟩ := ti2
      exact ⟨o, (sb.2 it (Ne.symm ne)).trans ho, r⟩
    · have lb : b < s.heap.objs.size := by
        rcases (List.mem_cons.mp hb : _ ∨ _) with z | z
        · rw [z]; exact le
        · rw [List.mem_singleton.mp z]; exact li
      rw [upd_ne (Nat.ne_of_lt lb)]
      exact (free b hb).1
  done := by
    rintro X rfl rfl rfl calm i pins s σ H E I free ⟨⟨old, en⟩, ti, ne⟩ ⟨xs, hq, hx⟩
    obtain ⟨its, rv, p, _⟩ := I.tuple hq
    obtain ⟨f0, f1, f2, f3, f4, f5⟩ := free it (by simp)
    have hl := rv.length
    exact enumT_end (I.ok.hd calm) en ti p (by simp; omega) fun h2 eb => ⟨rfl, I.turned (t' := s.toks) (fun b o hb z => eb b o hb z) f0 f1 f3 f4 f5⟩
  self := fun A i s Q E ⟨⟨_, en⟩, _⟩ h => wpAny_pyIter_enum en h
/-- enumerate(e), e a tuple -/
def iEnumT (K : PySem.W.Frag) (ta : TA) : TI := fun σ H R => ta σ H fun vs H1 => ∃ a xs, vs = [.ref a] ∧ SqT K H1 a xs ∧ R (IteT K a) H1
theorem pi_enumT {X : Cx} {e : Expr} {ta : TA} {p pos tpos : Pos} {elts : List Expr} {kk : Nat} (hg : Gl X "enumerate") (hm : X.mg "enumerate" = none) (ha : PA X [e] ta) (hs : starEach [e] X.env = [(false, eval e X.env)] := by rfl) :
    PI X (.Tuple elts kk tpos) (.Call (.Name "enumerate" p) [e] [] pos) (iEnumT X.K ta) := by
  refine ⟨fun pins s σ H R I h => Call_ (ld_blt I hg hm boot_enumerate (PyProof.Rows.callWith_type1 (thn (ha.run pos pins s σ H _ I h) fun us s1 ⟨vs, H1, I1, r1, a, xs, ex, hq, q⟩ => ?_) hs rfl))⟩
  subst ex
  rw [Vals.ref1 r1]
  obtain ⟨its, rv, p1, _⟩ := I1.tuple hq
  refine call_enumT p1 fun h2 en ti sz k2 => wpAny_pyIter_enum en ?_
  have I2 : Inv X pins σ H1 { s1 with heap := h2 } := I1.kept (t' := s1.toks) k2
  refine ⟨s1.heap.objs.size + 1, [s1.heap.objs.size + 1, s1.heap.objs.size], _, _, H1, rfl, I2, turn_enumT a (s1.heap.objs.size + 1) s1.heap.objs.size, ⟨⟨.none, en⟩, ti, Nat.succ_ne_self _⟩, fun b hb => ?_, q⟩
  have le : s1.heap.objs.size ≤ b := by
    rcases (List.mem_cons.mp hb : _ ∨ _) with z | z
    · rw [z]; exact Nat.le_succ _
    · rw [List.mem_singleton.mp z]; exact Nat.le_refl _
  exact I1.fpOk le (I1.hok.fresh le)
theorem walk_enumT {K : PySem.W.Frag} {a : Addr} {xs : List V} : Walk (IteT K a) xs.length (fun H => SqT K H a xs) (YPair (fun i => some (.int (i : Nat))) (fun i => xs[i]?)) where
  goes := fun i _ hi hq => ⟨xs, _, hq, List.getElem?_eq_getElem hi⟩
  stops := fun _ hq => ⟨xs, hq, Nat.le_refl _⟩
  yields := fun i _ _ _ hi hq ⟨T, x, e1, e2, e3, e4⟩ => ⟨T, _, x, e1, e2, e3, rfl, e4 xs hq⟩

/-! zip of a list and a tuple. -/
section
variable {s : Shared} {P : Program} {w : World} {A : Around} {E : Value → Shared → Prop}
/-- what a zip object over the iterators i1 (of the list l1), i2 (of the tuple l2) looks like, k items taken -/
structure ZipM (h : Heap) (z TI TO i1 i2 l1 l2 : Addr) (k : Nat) : Prop where
  ap : ZipApart z TI TO i1 i2 l1 l2
  zip : IsZip h z TI TO .none
  ti : IsPair h TI (.ref i1) (.ref i2)
  to_ : ∃ a b, IsPair h TO a b
  it1 : h.IsListIter i1 l1 k
  it2 : h.IsTupleIter i2 l2 k
theorem zipM_step {z TI TO i1 i2 l1 l2 : Addr} {k : Nat} {xs ys : Array Value} {x y : Value} {Q : Value → Shared → Prop} (Z : ZipM s.heap z TI TO i1 i2 l1 l2 k) (li : s.heap.IsList l1 xs) (tu : s.heap.IsTuple l2 ys) (hx : xs[k]? = some x) (hy : ys[k]? = some y)
    (q : ∀ h2, IsZip h2 z TI TO (rawInt s.heap.objs.size) → IsPair h2 TO x y → h2.IsListIter i1 l1 (k + 1) → h2.IsTupleIter i2 l2 (k + 1) → IsPair h2 s.heap.objs.size x y → h2.objs.size = s.heap.objs.size + 1 →
      (∀ c o, c ≠ z → c ≠ TO → c ≠ i1 → c ≠ i2 → s.heap.get? c = some o → h2.get? c = some o) → Q (.ref s.heap.objs.size) { s with heap := h2 }) :
    wpAny (model P w) A (Builtin.«zip.__next__» ⟨[.ref z], []⟩) (fun fin s2 => ∃ v, fin = .done (.ret v) ∧ Q v s2) E s := by
  obtain ⟨D, iz, iti, ⟨a0, b0, ito⟩, n1, n2⟩ := Z
  obtain ⟨hp, ge, dr, tk, os⟩ := s
  show wpAny _ _ (field (.ref z) 2 >>= _) _ _ (⟨hp, ge, dr, tk, os⟩ : Shared)
  refine wpAny_bind (wpAny_field iz rfl (x := .bool false) rfl ?_)
  show wpAny _ _ (field (.ref z) 3 >>= _) _ _ (⟨hp, ge, dr, tk, os⟩ : Shared)
  refine wpAny_bind (wpAny_field iz rfl (x := .ref TI) rfl ?_)
  refine wpAny_bind (wpAny_seqItems iti rfl ?_)
  show wpAny _ _ (Builtin.SmallTypes.ownedTupleIsFree (.ref z) >>= _) _ _ (⟨hp, ge, dr, tk, os⟩ : Shared)
  unfold Builtin.SmallTypes.ownedTupleIsFree; refine wpAny_bind (wpAny_bind (wpAny_field iz rfl (x := .none) rfl (wpAny_pure ?_)))
  simp only [if_true]
  refine wpAny_bind (wpAny_rule ?_); refine wpAny_bind (wpAny_field iz rfl (x := .ref TO) rfl ?_)
  refine wpAny_bind (wpAny_setField_rec iz (by simp) fun g1 iz1 k1 => ?_)
  replace k1 : Heap.SameBut z hp g1 := k1
  replace iz1 : IsZip g1 z TI TO .ellipsis := iz1
  refine wpAny_bind ?_
  simp only [List.zipIdx_cons, List.zipIdx_nil, List.forIn_cons, List.forIn_nil]; refine wpAny_bind (wpAny_bind (wpAny_onRaise ?_))
  show wpAny _ _ (Builtin.SmallTypes.nextOf (.ref i1) >>= _) _ _ (⟨g1, ge, dr, tk, os⟩ : Shared)
  have e1 := k1.extBut
  refine wpAny_bind (wpAny_nextOf_list_item (Heap.IsListIter.extBut n1 e1 D.i1z) (Heap.IsList.extBut li e1 D.l1z) hx fun g2 m1 k2 => wpAny_pure ?_)
  replace k2 : Heap.SameBut i1 g1 g2 := k2
  have e2 := k2.extBut
  have ito2 : IsPair g2 TO a0 b0 := e2 _ _ D.TOi1 (e1 _ _ D.TOz ito)
  refine wpAny_bind (wpAny_seqItems ito2 rfl ?_)
  refine wpAny_bind (wpAny_updateSeq_pair ito2 fun g3 ito3 k3 => ?_)
  replace k3 : Heap.SameBut TO g2 g3 := k3
  have e3 := k3.extBut
  replace ito3 : IsPair g3 TO x b0 := ito3
  refine wpAny_bind (wpAny_letGo (wpAny_pure ?_)); refine wpAny_bind (wpAny_bind (wpAny_onRaise ?_))
  show wpAny _ _ (Builtin.SmallTypes.nextOf (.ref i2) >>= _) _ _ (⟨g3, ge, dr, tk, os⟩ : Shared)
  have n23 : g3.IsTupleIter i2 l2 k := ((n2.extBut e1 D.i2z).extBut e2 D.i12.symm).extBut e3 D.TOi2.symm
  have tu3 : g3.IsTuple l2 ys := ((Heap.IsTuple.extBut tu e1 D.l2z).extBut e2 D.l2i1).extBut e3 D.l2TO
  refine wpAny_bind (nextOf_tuple_item n23 tu3 hy fun g4 m2 k4 => wpAny_pure ?_)
  replace k4 : Heap.SameBut i2 g3 g4 := k4
  have e4 := k4.extBut
  have ito4 : IsPair g4 TO x b0 := e4 _ _ D.TOi2 ito3
  refine wpAny_bind (wpAny_seqItems ito4 rfl ?_)
  refine wpAny_bind (wpAny_updateSeq_pair ito4 fun g5 ito5 k5 => ?_)
  replace k5 : Heap.SameBut TO g4 g5 := k5
  have e5 := k5.extBut
  replace ito5 : IsPair g5 TO x y := ito5
  refine wpAny_bind (wpAny_letGo (wpAny_pure (wpAny_pure ?_))); refine wpAny_bind (wpAny_seqItems ito5 rfl ?_)
  refine wpAny_bind (wpAny_newTuple ?_); have sz5 : g5.objs.size = hp.objs.size := k5.1.trans (k4.1.trans (k3.1.trans (k2.1.trans k1.1)))
  have iz5 : IsZip g5 z TI TO .ellipsis := e5 _ _ D.TOz.symm (e4 _ _ D.i2z.symm (e3 _ _ D.TOz.symm (e2 _ _ D.i1z.symm iz1)))
  have all5 : ∀ c o, c ≠ z → c ≠ TO → c ≠ i1 → c ≠ i2 → hp.get? c = some o → g5.get? c = some o := fun c o c1 c2 c3 c4 v => e5 _ _ c2 (e4 _ _ c4 (e3 _ _ c2 (e2 _ _ c3 (e1 _ _ c1 v))))
  have m15 : g5.IsListIter i1 l1 (k + 1) := ((Heap.IsListIter.extBut m1 e3 D.TOi1.symm).extBut e4 D.i12).extBut e5 D.TOi1.symm
  have m25 : g5.IsTupleIter i2 l2 (k + 1) := Heap.IsTupleIter.extBut m2 e5 D.TOi2.symm
  have ltz : z < g5.objs.size := Heap.lt_size iz5
  have ltTO : TO < g5.objs.size := Heap.lt_size ito5
  show wpAny _ _ (Builtin.SmallTypes.ownedTupleHandOut (.ref z) (.ref g5.objs.size) >>= _) _ _ _
  unfold Builtin.SmallTypes.ownedTupleHandOut; have iz6 : IsZip (g5.push { cls := .type "tuple", data := .seq #[x, y] }) z TI TO .ellipsis := Heap.get?_push_of_some _ iz5
  refine wpAny_bind (wpAny_bind (wpAny_setField_rec iz6 (by simp) fun g7 iz7 k7 => ?_))
  replace iz7 : IsZip g7 z TI TO (rawInt g5.objs.size) := iz7
  refine wpAny_setField_rec iz7 (by simp) fun g8 iz8 k8 => ?_
  replace iz8 : IsZip g8 z TI TO (rawInt g5.objs.size) := iz8
  have up : ∀ c o, c ≠ z → g5.get? c = some o → g8.get? c = some o := fun c o c1 v => k8.extBut _ _ c1 (k7.extBut _ _ c1 (Heap.get?_push_of_some _ v))
  have T8 : IsPair g8 g5.objs.size x y := k8.extBut _ _ (Nat.ne_of_gt ltz) (k7.extBut _ _ (Nat.ne_of_gt ltz) (Heap.get?_push_size _ rfl))
  have sz8 : g8.objs.size = g5.objs.size + 1 := by rw [k8.1, k7.1, Heap.size_push]
  rw [sz5] at iz8 T8 sz8
  refine wpAny_pure ⟨_, rfl, ?_⟩; show Q (.ref g5.objs.size) _
  rw [sz5]
  exact q g8 iz8 (up _ _ D.TOz ito5) (have ⟨o, ho, r⟩ := m15; ⟨o, up _ _ D.i1z ho, r⟩) (have ⟨o, ho, r⟩ := m25; ⟨o, up _ _ D.i2z ho, r⟩) T8 sz8 fun c o c1 c2 c3 c4 v => up c o c1 (all5 c o c1 c2 c3 c4 v)
theorem zipM_over {z TI TO i1 i2 l1 l2 : Addr} {k : Nat} {xs ys : Array Value} {Q : PySem.Fin → Shared → Prop} (calm : A.handled = none) (Z : ZipM s.heap z TI TO i1 i2 l1 l2 k) (li : s.heap.IsList l1 xs) (tu : s.heap.IsTuple l2 ys) (over : xs[k]? = none ∨ ys[k]? = none)
    (q : ∀ h2 e, (∀ c o, c ≠ z → c ≠ TO → c ≠ i1 → c ≠ i2 → s.heap.get? c = some o → h2.get? c = some o) → (∃ o, h2.get? e = some o ∧ o.cls = .type "StopIteration") → E (.ref e) { s with heap := h2 }) :
    wpAny (model P w) A (Builtin.«zip.__next__» ⟨[.ref z], []⟩) Q E s := by
  obtain ⟨D, iz, iti, ⟨a0, b0, ito⟩, n1, n2⟩ := Z
  obtain ⟨hp, ge, dr, tk, os⟩ := s
  show wpAny _ _ (field (.ref z) 2 >>= _) _ _ (⟨hp, ge, dr, tk, os⟩ : Shared)
  refine wpAny_bind (wpAny_field iz rfl (x := .bool false) rfl ?_)
  show wpAny _ _ (field (.ref z) 3 >>= _) _ _ (⟨hp, ge, dr, tk, os⟩ : Shared)
  refine wpAny_bind (wpAny_field iz rfl (x := .ref TI) rfl ?_)
  refine wpAny_bind (wpAny_seqItems iti rfl ?_)
  show wpAny _ _ (Builtin.SmallTypes.ownedTupleIsFree (.ref z) >>= _) _ _ (⟨hp, ge, dr, tk, os⟩ : Shared)
  unfold Builtin.SmallTypes.ownedTupleIsFree; refine wpAny_bind (wpAny_bind (wpAny_field iz rfl (x := .none) rfl (wpAny_pure ?_)))
  simp only [if_true]
  refine wpAny_bind (wpAny_rule ?_); refine wpAny_bind (wpAny_field iz rfl (x := .ref TO) rfl ?_)
  refine wpAny_bind (wpAny_setField_rec iz (by simp) fun g1 iz1 k1 => ?_)
  replace k1 : Heap.SameBut z hp g1 := k1
  have e1 := k1.extBut
  replace iz1 : IsZip g1 z TI TO .ellipsis := iz1
  refine wpAny_bind ?_
  simp only [List.zipIdx_cons, List.zipIdx_nil, List.forIn_cons, List.forIn_nil]; refine wpAny_bind (wpAny_bind (wpAny_onRaise ?_))
  show wpAny _ _ (Builtin.SmallTypes.nextOf (.ref i1) >>= _) _ _ (⟨g1, ge, dr, tk, os⟩ : Shared)
  have n11 : g1.IsListIter i1 l1 k := Heap.IsListIter.extBut n1 e1 D.i1z
  have li1 : g1.IsList l1 xs := Heap.IsList.extBut li e1 D.l1z
  cases hx : xs[k]? with
  | none =>
    refine wpAny_bind (wpAny_nextOf_list_end calm n11 li1 hx fun g2 e k2 ⟨oe, he, hc⟩ => ?_)
    have iz2 : IsZip g2 z TI TO .ellipsis := k2 _ _ D.i1z.symm iz1
    have ez : e ≠ z := fun v => by
      rw [v, iz2] at he
      cases he
      simp at hc
    exact wpAny_setField_rec iz2 (by simp) fun g3 _ k3 => q g3 e (fun c o c1 _ c3 _ v => k3.extBut _ _ c1 (k2 _ _ c3 (e1 _ _ c1 v))) ⟨oe, k3.extBut _ _ ez he, hc⟩
  | some x =>
    have hy : ys[k]? = none := over.elim (fun v => by rw [hx] at v; cases v) id
    refine wpAny_bind (wpAny_nextOf_list_item n11 li1 hx fun g2 m1 k2 => wpAny_pure ?_)
    replace k2 : Heap.SameBut i1 g1 g2 := k2
    have e2 := k2.extBut
    have ito2 : IsPair g2 TO a0 b0 := e2 _ _ D.TOi1 (e1 _ _ D.TOz ito)
    refine wpAny_bind (wpAny_seqItems ito2 rfl ?_)
    refine wpAny_bind (wpAny_updateSeq_pair ito2 fun g3 ito3 k3 => ?_)
    replace k3 : Heap.SameBut TO g2 g3 := k3
    have e3 := k3.extBut
    refine wpAny_bind (wpAny_letGo (wpAny_pure ?_)); refine wpAny_bind (wpAny_bind (wpAny_onRaise ?_))
    show wpAny _ _ (Builtin.SmallTypes.nextOf (.ref i2) >>= _) _ _ (⟨g3, ge, dr, tk, os⟩ : Shared)
    have n23 : g3.IsTupleIter i2 l2 k := ((n2.extBut e1 D.i2z).extBut e2 D.i12.symm).extBut e3 D.TOi2.symm
    have tu3 : g3.IsTuple l2 ys := ((Heap.IsTuple.extBut tu e1 D.l2z).extBut e2 D.l2i1).extBut e3 D.l2TO
    refine wpAny_bind (nextOf_tuple_end calm n23 tu3 hy fun g4 e k4 ⟨oe, he, hc⟩ => ?_)
    have iz4 : IsZip g4 z TI TO .ellipsis := k4 _ _ D.i2z.symm (e3 _ _ D.TOz.symm (e2 _ _ D.i1z.symm iz1))
    have ez : e ≠ z := fun v => by
      rw [v, iz4] at he
      cases he
      simp at hc
    exact wpAny_setField_rec iz4 (by simp) fun g5 _ k5 => q g5 e (fun c o c1 c2 c3 c4 v => k5.extBut _ _ c1 (k4 _ _ c4 (e3 _ _ c2 (e2 _ _ c3 (e1 _ _ c1 v))))) ⟨oe, k5.extBut _ _ ez he, hc⟩
theorem zipM_item {z TI TO i1 i2 l1 l2 : Addr} {k : Nat} {xs ys : Array Value} {x y : Value} {Q : Option Value → Shared → Prop} (Z : ZipM s.heap z TI TO i1 i2 l1 l2 k) (li : s.heap.IsList l1 xs) (tu : s.heap.IsTuple l2 ys) (hx : xs[k]? = some x) (hy : ys[k]? = some y)
    (q : ∀ h2, IsZip h2 z TI TO (rawInt s.heap.objs.size) → IsPair h2 TO x y → h2.IsListIter i1 l1 (k + 1) → h2.IsTupleIter i2 l2 (k + 1) → IsPair h2 s.heap.objs.size x y → h2.objs.size = s.heap.objs.size + 1 →
      (∀ c o, c ≠ z → c ≠ TO → c ≠ i1 → c ≠ i2 → s.heap.get? c = some o → h2.get? c = some o) → Q (some (.ref s.heap.objs.size)) { s with heap := h2 }) : wpAny (model P w) A (pyNext (.ref z)) Q E s := by
  have ty : s.TypeIs (.ref z) "zip" := ⟨_, Z.zip, rfl⟩
  unfold pyNext
  refine wpAny_bind (wpAny_attempt (wpAny_callSpecial?_slot (name := Str.ofString "__next__") ty PySem.F.slot_zip_next (wpAny_call_entry PySem.F.slot_zip_next ty PySem.F.entry_zip_next ?_ (PySem.F.args_zip_next_1 _))))
  exact zipM_step Z li tu hx hy fun h2 x1 x2 x3 x4 x5 x6 x7 => wpAny_pure (q h2 x1 x2 x3 x4 x5 x6 x7)
theorem zipM_end {z TI TO i1 i2 l1 l2 : Addr} {k : Nat} {xs ys : Array Value} {Q : Option Value → Shared → Prop} (calm : A.handled = none) (Z : ZipM s.heap z TI TO i1 i2 l1 l2 k) (li : s.heap.IsList l1 xs) (tu : s.heap.IsTuple l2 ys) (over : xs[k]? = none ∨ ys[k]? = none)
    (q : ∀ h2, (∀ c o, c ≠ z → c ≠ TO → c ≠ i1 → c ≠ i2 → s.heap.get? c = some o → h2.get? c = some o) → Q none { s with heap := h2 }) : wpAny (model P w) A (pyNext (.ref z)) Q E s := by
  have ty : s.TypeIs (.ref z) "zip" := ⟨_, Z.zip, rfl⟩
  unfold pyNext
  refine wpAny_bind (wpAny_attempt (wpAny_callSpecial?_slot (name := Str.ofString "__next__") ty PySem.F.slot_zip_next (wpAny_call_entry PySem.F.slot_zip_next ty PySem.F.entry_zip_next ?_ (PySem.F.args_zip_next_1 _))))
  refine zipM_over calm Z li tu over fun h2 e k2 ⟨o, ho, hc⟩ => ?_
  exact wpAny_bind (wpAny_isInstance (T := "StopIteration") (b := true) ⟨o, ho, hc⟩ isSubtype_stop (wpAny_pure (q _ k2)))
end
abbrev zm1 (h : Heap) (l1 : Addr) : Heap := h.push { cls := .type "list_iterator", data := .fields #[.ref l1, .int 0 0] }
abbrev zm2 (h : Heap) (l1 l2 : Addr) : Heap := (zm1 h l1).push { cls := .type "tuple_iterator", data := .fields #[.ref l2, .int 0 0] }
abbrev zm3 (h : Heap) (l1 l2 : Addr) : Heap := (zm2 h l1 l2).push { cls := .type "tuple", data := .seq #[.ref h.objs.size, .ref (zm1 h l1).objs.size] }
abbrev zm4 (h : Heap) (l1 l2 : Addr) : Heap := (zm3 h l1 l2).push { cls := .type "tuple", data := .seq #[.none, .none] }
abbrev zm5 (h : Heap) (l1 l2 : Addr) : Heap := (zm4 h l1 l2).push { cls := .type "zip", data := .fields #[.none, .bool false, .bool false, .ref (zm2 h l1 l2).objs.size, .ref (zm3 h l1 l2).objs.size] }
theorem newZipM (l1 l2 : Addr) (xs ys : Array Value) : Meets (Builtin.«zip.__new__» ⟨[.type "zip", .ref l1, .ref l2], []⟩) (fun _ R s => s.heap.IsList l1 xs ∧ s.heap.IsTuple l2 ys ∧
    R (.ok (.ret (.ref (zm4 s.heap l1 l2).objs.size))) { s with heap := zm5 s.heap l1 l2 }) :=
  .of_wp fun P w A R s ⟨li, tu, h⟩ => by
    obtain ⟨hp, ge, dr, tk, os⟩ := s
    have sb := sub_zip
    have L1 : Heap.IsList (Shared.heap ⟨hp, ge, dr, tk, os⟩) l1 xs := li
    have L2 : Heap.IsTuple (Shared.heap ⟨zm1 hp l1, ge, dr, tk, os⟩) l2 ys := Heap.IsTuple.push tu _
    wp_walk using wpAny_pyIter_list L1, wpAny_pyIter_tuple L2
    exact ⟨_, rfl, h⟩
section
variable {s : Shared} {P : Program} {w : World} {A : Around} {E : Value → Shared → Prop}
theorem call_zipM {l1 l2 : Addr} {xs ys : Array Value} {Q : Value → Shared → Prop} (li : s.heap.IsList l1 xs) (tu : s.heap.IsTuple l2 ys) (low1 : l1 < s.heap.objs.size) (low2 : l2 < s.heap.objs.size)
    (q : ∀ h2, ZipM h2 (s.heap.objs.size + 4) (s.heap.objs.size + 2) (s.heap.objs.size + 3) s.heap.objs.size (s.heap.objs.size + 1) l1 l2 0 → (∀ c o, s.heap.get? c = some o → h2.get? c = some o) → Q (.ref (s.heap.objs.size + 4)) { s with heap := h2 }) :
    wpAny (model P w) A (call (.type "zip") [.ref l1, .ref l2]) Q E s := by
  refine callType_new PySem.F.called_zip (by decide) (PySem.F.typeCall_zip_2 _ _) (PySem.F.newCall_zip_2 _ _) (fun ob => PySem.F.args_object_init_3 ob _ _) PySem.F.entry_zip_new (newZipM l1 l2 xs ys) ⟨li, tu, ?_⟩
  have n1 : (zm1 s.heap l1).objs.size = s.heap.objs.size + 1 := Heap.size_push ..
  have n2 : (zm2 s.heap l1 l2).objs.size = s.heap.objs.size + 2 := by rw [Heap.size_push, n1]
  have n3 : (zm3 s.heap l1 l2).objs.size = s.heap.objs.size + 3 := by rw [Heap.size_push, n2]
  have n4 : (zm4 s.heap l1 l2).objs.size = s.heap.objs.size + 4 := by rw [Heap.size_push, n3]
  have stay : ∀ (h : Heap) (o : Obj) c u, h.get? c = some u → (h.push o).get? c = some u := fun h o c u z => Heap.get?_push_of_some _ z
  have p5 : (zm5 s.heap l1 l2).get? (zm4 s.heap l1 l2).objs.size = some _ := Heap.get?_push_size _ rfl
  have p4 : (zm5 s.heap l1 l2).get? (zm3 s.heap l1 l2).objs.size = some _ := stay _ _ _ _ (Heap.get?_push_size _ rfl)
  have p3 : (zm5 s.heap l1 l2).get? (zm2 s.heap l1 l2).objs.size = some _ := stay _ _ _ _ (stay _ _ _ _ (Heap.get?_push_size _ rfl))
  have p2 : (zm5 s.heap l1 l2).get? (zm1 s.heap l1).objs.size = some _ := stay _ _ _ _ (stay _ _ _ _ (stay _ _ _ _ (Heap.get?_push_size _ rfl)))
  have p1 : (zm5 s.heap l1 l2).get? s.heap.objs.size = some _ := stay _ _ _ _ (stay _ _ _ _ (stay _ _ _ _ (stay _ _ _ _ (Heap.get?_push_size _ rfl))))
  rw [n2, n3, n4] at p5
  rw [n1, n2] at p3
  rw [n3] at p4
  rw [n1] at p2
  show _ ∧ _
  rw [n4]
  refine ⟨⟨_, p5, rfl⟩, q _ ⟨PySem.W.ktu_apart s.heap.objs.size l1 l2 low1 low2, p5, p3, ⟨_, _, p4⟩, ⟨_, p1, rfl, rfl⟩, ⟨_, p2, rfl, rfl⟩⟩ fun c o z => ?_⟩
  exact stay _ _ _ _ (stay _ _ _ _ (stay _ _ _ _ (stay _ _ _ _ (stay _ _ _ _ z))))
end
/-- the list at a beside the tuple at b -/
def ItzM (K : PySem.W.Frag) (a b : Addr) : It :=
  ⟨fun i H => ∃ (xs ys : List V) (x y : V), SqL K H a xs ∧ SqT K H b ys ∧ xs[i]? = some x ∧ ys[i]? = some y,
    fun i H v H' => ∃ T x y, v = .ref T ∧ H T = none ∧ H' = upd H T (.tup [x, y]) ∧ (∀ xs, SqL K H a xs → xs[i]? = some x) ∧ ∀ ys, SqT K H b ys → ys[i]? = some y,
    fun i H => ∃ xs ys : List V, SqL K H a xs ∧ SqT K H b ys ∧ (xs.length ≤ i ∨ ys.length ≤ i)⟩
theorem in5 {c a1 a2 a3 a4 a5 : Addr} (h : c ∈ [a1, a2, a3, a4, a5]) : c = a1 ∨ c = a2 ∨ c = a3 ∨ c = a4 ∨ c = a5 := by simpa using h
theorem turn_zipM {P : Program} {w : World} {K : PySem.W.Frag} {elts : List Expr} {kk : Nat} {tpos : Pos} {a b z TI TO i1 i2 : Addr} : Turn P w K (.Tuple elts kk tpos) (ItzM K a b) [z, TI, TO, i1, i2] z (fun i h => ZipM h z TI TO i1 i2 a b i) where
  mem := by simp
  obj := fun i h Z c hc => by
    obtain ⟨x, y, ito⟩ := Z.to_
    obtain ⟨o1, v1, _, d1⟩ := Z.it1
    obtain ⟨o2, v2, _, d2⟩ := Z.it2
    rcases in5 hc with rfl | rfl | rfl | rfl | rfl
    · exact ⟨_, Z.zip, fun v n => nomatch n⟩
    · exact ⟨_, Z.ti, fun v n => nomatch n⟩
    · exact ⟨_, ito, fun v n => nomatch n⟩
    · exact ⟨o1, v1, fun v n => by rw [d1] at n; cases n⟩
    · exact ⟨o2, v2, fun v n => by rw [d2] at n; cases n⟩
  keep := fun i h h2 Z k => ⟨Z.ap, k z (by simp) _ Z.zip, k TI (by simp) _ Z.ti, have ⟨x, y, v⟩ := Z.to_; ⟨x, y, k TO (by simp) _ v⟩, have ⟨o, ho, r⟩ := Z.it1; ⟨o, k i1 (by simp) _ ho, r⟩, have ⟨o, ho, r⟩ := Z.it2; ⟨o, k i2 (by simp) _ ho, r⟩⟩
  item := by
    rintro X rfl rfl rfl calm i pins s σ H E I free Z ⟨xs, ys, x, y, qx, qy, hx, hy⟩
    obtain ⟨its, rv, p, _⟩ := I.list qx
    obtain ⟨its2, rv2, p2, _⟩ := I.tuple qy
    obtain ⟨u, hu, ru⟩ := rv.get hx; obtain ⟨u2, hu2, ru2⟩ := rv2.get hy
    have D := Z.ap
    have lz : z < s.heap.objs.size := Heap.lt_size Z.zip
    refine zipM_item Z p.isList p2 (x := u) (y := u2) (by simpa using hu) (by simpa using hu2) fun h2 z2 TO2 n1 n2 T2 sz k2 => ⟨_, rfl, wpAny_letOwnedTupleGo_zip (s := { s with heap := h2 }) z2 fun h3 z3 sb => ?_⟩
    have T3 : h3.get? s.heap.objs.size = some { cls := .type "tuple", data := .seq #[u, u2] } := (sb.2 _ (Nat.ne_of_gt lz)).trans T2
    have ok : ObjOk X.prog X.w (upd H s.heap.objs.size (.tup [x, y])) h3 s.heap.objs.size (.tup [x, y]) := ⟨by show 2 ≤ sizeLine; decide, [u, u2], .cons ru (.cons ru2 .nil), ⟨_, T3, rfl, _, rfl⟩⟩
    have I3 : Inv X pins σ (upd H s.heap.objs.size (.tup [x, y])) { s with heap := h3 } :=
      I.turnedNew (t' := s.toks) (ch := [z, TI, TO, i1, i2]) (fun c o hb v => (sb.2 c (fun n => hb (by simp [n]))).trans (k2 c o (fun n => hb (by simp [n])) (fun n => hb (by simp [n])) (fun n => hb (by simp [n])) (fun n => hb (by simp [n])) v)) free (Nat.le_refl _) ok
    refine ⟨.ref s.heap.objs.size, _, I3, rfl, ⟨_, x, y, rfl, I.hok.fresh (Nat.le_refl _), rfl, fun l hl => by rw [I.list_inj hl qx]; exact hx, fun l hl => by rw [I.tuple_inj hl qy]; exact hy⟩, ⟨D, z3, ?_, ⟨u, u2, (sb.2 _ D.TOz).trans TO2⟩, ?_, ?_⟩, fun c hc => ?_⟩
    · exact (sb.2 _ D.TIz).trans (k2 _ _ D.TIz D.TITO D.TIi1 D.TIi2 Z.ti)
    · exact have ⟨o, ho, r⟩ := n1; ⟨o, (sb.2 _ D.i1z).trans ho, r⟩
    · exact have ⟨o, ho, r⟩ := n2; ⟨o, (sb.2 _ D.i2z).trans ho, r⟩
    · have lc : c < s.heap.objs.size := by
        obtain ⟨_, _, v⟩ := Z.to_
        obtain ⟨_, v1, _⟩ := Z.it1
        obtain ⟨_, v2, _⟩ := Z.it2
        rcases in5 hc with rfl | rfl | rfl | rfl | rfl
        · exact lz
        · exact Heap.lt_size Z.ti
        · exact Heap.lt_size v
        · exact Heap.lt_size v1
        · exact Heap.lt_size v2
      rw [upd_ne (Nat.ne_of_lt lc)]
      exact (free c hc).1
  done := by
    rintro X rfl rfl rfl calm i pins s σ H E I free Z ⟨xs, ys, qx, qy, over⟩
    obtain ⟨its, rv, p, _⟩ := I.list qx
    obtain ⟨its2, rv2, p2, _⟩ := I.tuple qy
    have n1 := rv.length
    have n2 := rv2.length
    refine zipM_end (I.ok.hd calm) Z p.isList p2 (over.imp (fun v => by simp; omega) (fun v => by simp; omega)) fun h2 k2 => ⟨rfl, I.turnedL (t' := s.toks) (ch := [z, TI, TO, i1, i2]) (fun c o hb v => ?_) free⟩
    exact k2 c o (fun n => hb (by simp [n])) (fun n => hb (by simp [n])) (fun n => hb (by simp [n])) (fun n => hb (by simp [n])) v
  self := fun A i s Q E Z h => wpAny_pyIter_zip Z.zip h
/-- zip(e, e2), a list and a tuple -/
def iZipM (K : PySem.W.Frag) (ta : TA) : TI := fun σ H R => ta σ H fun vs H1 => ∃ a b xs ys, vs = [.ref a, .ref b] ∧ SqL K H1 a xs ∧ SqT K H1 b ys ∧ R (ItzM K a b) H1
theorem pi_zipM {X : Cx} {e e2 : Expr} {ta : TA} {p pos tpos : Pos} {elts : List Expr} {kk : Nat} (hg : Gl X "zip") (hm : X.mg "zip" = none) (ha : PA X [e, e2] ta)
    (hs : starEach [e, e2] X.env = (false, eval e X.env) :: starEach [e2] X.env := by rfl) (hp : (backTo pos (starEach [e2] X.env)).any (·.1) = false := by rfl) : PI X (.Tuple elts kk tpos) (.Call (.Name "zip" p) [e, e2] [] pos) (iZipM X.K ta) := by
  refine ⟨fun pins s σ H R I h => Call_ (ld_blt I hg hm PyProof.Rows.boot_zip (PyProof.Rows.callWith_type1 (thn (ha.run pos pins s σ H _ I h) fun us s1 ⟨vs, H1, I1, r1, a, b, xs, ys, ex, qx, qy, q⟩ => ?_) hs hp))⟩
  subst ex
  obtain ⟨u1, u2, rfl, r1, r2⟩ := vals2 r1
  cases (show u1 = Value.ref a from r1); cases (show u2 = Value.ref b from r2)
  obtain ⟨its, rv, p1, _⟩ := I1.list qx
  obtain ⟨its2, rv2, p2, _⟩ := I1.tuple qy
  have low2 : b < s1.heap.objs.size := have ⟨_, v, _⟩ := id p2; Heap.lt_size v
  refine call_zipM p1.isList p2 p1.lt low2 fun h2 Z k2 => wpAny_pyIter_zip Z.zip ?_
  have I2 : Inv X pins σ H1 { s1 with heap := h2 } := I1.kept (t' := s1.toks) k2
  refine ⟨s1.heap.objs.size + 4, [s1.heap.objs.size + 4, s1.heap.objs.size + 2, s1.heap.objs.size + 3, s1.heap.objs.size, s1.heap.objs.size + 1], _, _, H1, rfl, I2, turn_zipM, Z, fun c hc => ?_, q⟩
  have le : s1.heap.objs.size ≤ c := by
    rcases in5 hc with rfl | rfl | rfl | rfl | rfl
    all_goals first | exact Nat.le_refl _ | exact Nat.le_add_right _ _
  exact I1.fpOk le (I1.hok.fresh le)
theorem walk_zipM {K : PySem.W.Frag} {a b : Addr} {xs ys : List V} {n : Nat} (hn : n = min xs.length ys.length) : Walk (ItzM K a b) n (fun H => SqL K H a xs ∧ SqT K H b ys) (YPair (fun i => xs[i]?) (fun i => ys[i]?)) where
  goes := fun i _ hi hq => ⟨xs, ys, _, _, hq.1, hq.2, List.getElem?_eq_getElem (show i < xs.length by omega), List.getElem?_eq_getElem (show i < ys.length by omega)⟩
  stops := fun _ hq => ⟨xs, ys, hq.1, hq.2, by omega⟩
  yields := fun _ _ _ _ _ hq ⟨T, c, d, e1, e2, e3, e4, e5⟩ => ⟨T, c, d, e1, e2, e3, e4 xs hq.1, e5 ys hq.2⟩

/-! len(set(texts)); list(text). -/
/-- each text once -/
def onceS : List Str → List Str → List Str
  | acc, [] => acc
  | acc, x :: xs => onceS (if x ∈ acc then acc else acc ++ [x]) xs
def dcount (xs : List Str) : Nat := (onceS [] xs).length
theorem onceS_snoc (x : Str) : ∀ (xs acc : List Str), onceS acc (xs ++ [x]) = (if x ∈ onceS acc xs then onceS acc xs else onceS acc xs ++ [x])
  | [], _ => rfl
  | y :: ys, acc => onceS_snoc x ys _
theorem mem_onceS (x : Str) : ∀ (xs acc : List Str), x ∈ onceS acc xs ↔ x ∈ acc ∨ x ∈ xs
  | [], acc => by simp [onceS]
  | y :: ys, acc => by
    show x ∈ onceS (if y ∈ acc then acc else acc ++ [y]) ys ↔ _
    rw [mem_onceS x ys]
    by_cases h : y ∈ acc
    · rw [if_pos h, List.mem_cons]
      exact ⟨fun z => z.imp_right .inr, fun z => z.elim .inl fun z => z.elim (fun e => .inl (e ▸ h)) .inr⟩
    · rw [if_neg h, List.mem_append, List.mem_singleton, List.mem_cons, or_assoc]
theorem dcount_snoc (xs : List Str) (x : Str) : dcount (xs ++ [x]) = if x ∈ xs then dcount xs else dcount xs + 1 := by
  unfold dcount
  rw [onceS_snoc]
  have m : x ∈ onceS [] xs ↔ x ∈ xs := (mem_onceS x xs []).trans ⟨fun z => z.elim (fun y => nomatch y) id, .inr⟩
  by_cases h : x ∈ xs
  · rw [if_pos h, if_pos (m.mpr h)]
  · rw [if_neg h, if_neg fun z => h (m.mp z), List.length_append]
    rfl
theorem onceS_le : ∀ xs acc : List Str, (onceS acc xs).length ≤ acc.length + xs.length
  | [], _ => Nat.le_refl _
  | y :: ys, acc => by
    refine Nat.le_trans (onceS_le ys _) ?_
    rw [List.length_cons]
    split
    · omega
    · rw [List.length_append]; rw [List.length_singleton]; omega
theorem dcount_le (xs : List Str) : dcount xs ≤ xs.length := Nat.le_trans (onceS_le xs []) (by simp)
theorem onceS_nodup : ∀ xs acc : List Str, (acc ++ xs).Nodup → onceS acc xs = acc ++ xs
  | [], acc, _ => (List.append_nil acc).symm
  | y :: ys, acc, h => by
    have h2 : y ∉ acc := fun z => (List.nodup_append.mp h).2.2 y z y (List.mem_cons_self ..) rfl
    show onceS (if y ∈ acc then acc else acc ++ [y]) ys = _
    rw [if_neg h2, onceS_nodup ys (acc ++ [y]) (by rw [List.append_assoc]; exact h), List.append_assoc]
    rfl
theorem dcount_nodup {xs : List Str} (h : xs.Nodup) : dcount xs = xs.length := by
  unfold dcount
  rw [onceS_nodup xs [] h]
  rfl
section
variable {P : Program} {w : World} {A : Around} {R : Result → Shared → Prop} {I : Addr} {fp wr : List Addr} {G : Array GenState → Array GenState → Prop} {n : Nat} {Pv : Nat → Value → Prop} {St : Nat → Shared → Prop}
/-- the set at S has the texts xs -/
abbrev HasS (P : Program) (w : World) (h : Heap) (S : Addr) (xs : List Str) : Prop := h.SetOf (PySem.strKind P w) S (fun y => decide (y ∈ xs)) (dcount xs)
theorem HasS.at {h h2 : Heap} {S : Addr} {xs : List Str} (x : HasS P w h S xs) (k : ∀ o, h.get? S = some o → h2.get? S = some o) : HasS P w h2 S xs := have ⟨o, es, ep, t, ho, r⟩ := x; ⟨o, es, ep, t, k o ho, r⟩
theorem fill_strs (W : WalksS P w A.in1 I fp wr G n Pv St) (S : Addr) (out : S ∉ fp) (xs : List Str) (hn : xs.length = n) (few : n + 1 < scanBound) (val : ∀ i v, i < n → Pv i v → ∃ t x, xs[i]? = some x ∧ v = .str x t) :
    ∀ (k i : Nat) (s : Shared), n - i = k → i ≤ n → St i s → HasS P w s.heap S (xs.take i) → (∀ s2, Moved (S :: wr) G s s2 → HasS P w s2.heap S xs → R (.ok (.ret .none)) s2) → codeAny (model P w) A (.builtin "set.update.loop" ⟨[.ref S, .ref I], []⟩) R s := by
  have out2 : S ∉ wr := fun h => out (W.sub _ h)
  have more : ∀ b ∈ wr, b ∈ S :: wr := fun b hb => List.mem_cons_of_mem _ hb
  intro k
  induction k with
  | zero =>
    intro i s hk hi st has q
    obtain rfl : i = n := by omega
    apply codeAny_builtin PyProof.Rows.F.entry_set_update_loop
    rw [Around.under_plainId PyProof.Rows.F.plain_set_update_loop _]; refine wpAny_bind (W.done s _ _ st fun s2 hm => wpAny_pure (q s2 (hm.mono more) ?_))
    rw [← hn, List.take_length] at has
    exact has.at fun o ho => hm.heap S o out2 ho
  | succ k ih =>
    intro i s hk hi st has q
    have lt : i < n := by omega
    apply codeAny_builtin PyProof.Rows.F.entry_set_update_loop
    rw [Around.under_plainId PyProof.Rows.F.plain_set_update_loop _]; refine wpAny_bind (W.item i s _ _ lt st fun v s2 hv st2 hm => ?_)
    obtain ⟨t, x, hx, rfl⟩ := val i v lt hv
    have has2 : HasS P w s2.heap S (xs.take i) := has.at fun o ho => hm.heap S o out2 ho
    show wpAny _ A.in1 (holding [Value.str x t] (setAdd S (.str x t)) >>= _) _ _ s2
    unfold setAdd
    refine wpAny_bind (wpAny_holding (wpAny_holding (wpAny_bind ((PySem.strKind P w).pyHash (k := x) (strKind_is _ _ _ _) ?_))))
    have room : dcount (xs.take i) + 1 < scanBound := by
      have := dcount_le (xs.take i)
      rw [List.length_take] at this
      omega
    refine wpAny_setAddHashed_of (knd := PySem.strKind P w) (s := { s2 with toks := s2.toks + 1 }) (strKind_is _ _ _ _) rfl has2 room fun h3 sb has3 => ?_
    have tk : xs.take (i + 1) = xs.take i ++ [x] := by rw [List.take_add_one, hx]; rfl
    have has4 : HasS P w h3 S (xs.take (i + 1)) := by
      refine SetOf_congr has3 (fun y => ?_) ?_
      · rw [tk, ← Bool.decide_or]
        exact decide_eq_decide.mpr (by rw [List.mem_append, List.mem_singleton])
      · rw [tk, dcount_snoc]
        by_cases h : x ∈ xs.take i
        · rw [if_pos h, if_pos (decide_eq_true h)]
        · rw [if_neg h, if_neg (by simp [h])]
    have ne : ∀ b, b ∈ fp → b ≠ S := fun b hb h => out (h ▸ hb)
    refine wpAny_pure ⟨plainId_quiet PyProof.Rows.F.plain_set_update_loop _, ih (i + 1) _ (by omega) lt (W.frame _ s2 _ _ st2 (Nat.le_succ _) fun b hb o e => ?_) has4 fun s5 hm5 has5 => q s5 ?_ has5⟩
    · rw [sb.2 b (ne b hb)]; exact e
    · refine Moved.trans W.gtrans ((hm.mono more).then_heap (Nat.le_succ _) fun b o hb e => ?_) hm5
      rw [sb.2 b fun h => hb (by rw [h]; exact List.mem_cons_self ..)]
      exact e
end
section
variable {s : Shared} {w : World} {P : Program} {A : Around} {E : Value → Shared → Prop}
abbrev bareL (led : Bool) : Obj := { cls := .type "set", dict := none, data := .set #[] 0 (.fresh 0 0 led) }
/-- the heap and the tokens alone changed, all that stood stays -/
def GrownS (s s2 : Shared) (R : Heap → Prop) : Prop := ∃ h2 t2, s2 = { s with heap := h2, toks := t2 } ∧ R h2 ∧ ∀ b o, s.heap.get? b = some o → h2.get? b = some o
theorem sub_tup_set : isSubtype (.type "tuple") (.type "set") = pure false := by rw [isSubtype_type]; kernel_rfl
theorem sub_tup_fset : isSubtype (.type "tuple") (.type "frozenset") = pure false := by rw [isSubtype_type]; kernel_rfl
theorem init_strs {l : Addr} {vs : Array Value} {led : Bool} (xs : List Str) (calm : A.handled = none) (seq : s.heap.IsList l vs ∨ s.heap.IsTuple l vs) (isS : StrsAre vs.toList xs) (few : xs.length + 1 < scanBound) :
    codeAny (model P w) A (.call (.builtin "set.__init__") ⟨[.ref s.heap.objs.size, .ref l], []⟩) (wants (fun r s2 => r = .none ∧ GrownS s s2 fun h2 => HasS P w h2 s.heap.objs.size xs) E) { s with heap := s.heap.push (bareL led) } := by
  have size : xs.length = vs.size := by rw [← StrsAre.len_eq isS, Array.length_toList]
  have stands : (s.heap.push (bareL led)).get? s.heap.objs.size = some (bareL led) := Heap.get?_push_size _ rfl
  have typed : Shared.TypeIs { s with heap := s.heap.push (bareL led) } (.ref s.heap.objs.size) "set" := ⟨_, stands, rfl⟩
  apply codeAny_call_builtin F.called_set.init.plain F.entry_set_init (check_set_init_1 typed ?_)
  have low : l < s.heap.objs.size := seq.elim (fun ⟨_, e, _⟩ => Heap.lt_size e) fun ⟨_, e, _⟩ => Heap.lt_size e
  have new : (s.heap.push (bareL led)).objs.size = s.heap.objs.size + 1 := Heap.size_push ..
  have ne : l ≠ (s.heap.push (bareL led)).objs.size := by rw [new]; exact Nat.ne_of_lt (Nat.lt_succ_of_lt low)
  have two : ∀ {b : Addr}, b < s.heap.objs.size → b ∉ [s.heap.objs.size, (s.heap.push (bareL led)).objs.size] := fun hb z => by
    rw [new] at z; rcases List.mem_cons.mp z with z | z
    · exact absurd z (Nat.ne_of_lt hb)
    · exact absurd (List.mem_singleton.mp z) (Nat.ne_of_lt (Nat.lt_succ_of_lt hb))
  have apart : s.heap.objs.size ∉ [(s.heap.push (bareL led)).objs.size, l] := fun z => by
    rw [new] at z; rcases List.mem_cons.mp z with z | z
    · exact absurd z (Nat.ne_of_lt (Nat.lt_succ_self _))
    · exact absurd (List.mem_singleton.mp z) (Nat.ne_of_gt low)
  have val : ∀ (i : Nat) (v : Value), i < vs.size → vs[i]? = some v → ∃ t x, xs[i]? = some x ∧ v = .str x t := fun i v hi hv => by
    obtain ⟨t, e⟩ := SS.strs_at isS i v (by rw [Array.getElem?_toList]; exact hv)
    have hl : i < xs.length := by omega
    refine ⟨t, xs[i], List.getElem?_eq_getElem hl, ?_⟩
    rw [e, List.getD_eq_getElem?_getD, List.getElem?_eq_getElem hl]
    rfl
  have hasZ : ∀ o : Obj, HasS P w ((s.heap.push (bareL led)).push o) s.heap.objs.size (xs.take 0) := fun o =>
    SetOf_congr ((setObjOf_fresh (knd := PySem.strKind P w) led).setOf (Heap.get?_push_of_some _ stands) (by unfold scanBound; omega)) (fun _ => rfl) rfl
  have done : ∀ {wr : List Addr} {G : Array GenState → Array GenState → Prop} (o : Obj) (s3 : Shared), (∀ b, b < s.heap.objs.size → b ∉ s.heap.objs.size :: wr) → (∀ a b, G a b → b = a) → Moved (s.heap.objs.size :: wr) (fun a b => b = a) { s with heap := (s.heap.push (bareL led)).push o } s3 → HasS P w s3.heap s.heap.objs.size xs →
      GrownS s s3 fun h2 => HasS P w h2 s.heap.objs.size xs := fun {wr G} o s3 hw _ hm has => by
    obtain ⟨h3, g3, d3, t3, o3⟩ := s3
    cases (hm.gens : g3 = s.gens)
    cases (hm.drawn : d3 = s.drawn)
    cases (hm.os : o3 = s.os)
    exact ⟨h3, t3, rfl, has, fun b u e => hm.heap b u (hw b (Heap.lt_size e)) (Heap.get?_push_of_some _ (Heap.get?_push_of_some _ e))⟩
  unfold Builtin.«set.__init__»
  unfold noKeywords
  unfold Builtin.Frozenset.updateFrom
  generalize gen : pyIter = PI
  rcases seq with hl | hl
  · have hl1 := hl.push (bareL led)
    have ⟨ob, e0, e1, n0, e2⟩ := hl1
    obtain ⟨k1, k2, k3, k4⟩ := ob
    simp only at e1 e2
    subst e1 e2
    have t1 := F.sub_list_set
    have t2 := F.sub_list_frozenset
    have t3 : (Value.type "list" == Value.type "dict") = false := rfl
    wp_walk
    subst gen
    apply wpAny_pyIter_list hl1
    apply wpAny_bind
    apply wpAny_runValue
    apply fill_strs (Walks.list (by simp [calm]) _ l ne vs).toS s.heap.objs.size apart xs size (by omega) val (vs.size - 0) 0 _ (by omega) (Nat.zero_le _) ⟨⟨_, Heap.get?_push_size _ rfl, rfl, rfl⟩, hl1.push _⟩ (hasZ _)
    intro s3 hm has
    apply wpAny_pure
    apply wpAny_pure
    exact ⟨rfl, done (G := fun a b => b = a) _ s3 (fun b hb => two hb) (fun _ _ z => z) hm has⟩
  · have hl1 := hl.push (bareL led)
    have ⟨ob, e0, e1, n0, e2⟩ := hl1
    obtain ⟨k1, k2, k3, k4⟩ := ob
    simp only at e1 e2
    subst e1 e2
    have t1 := sub_tup_set
    have t2 := sub_tup_fset
    have t3 : (Value.type "tuple" == Value.type "dict") = false := rfl
    wp_walk
    subst gen
    apply wpAny_pyIter_tuple hl1
    apply wpAny_bind
    apply wpAny_runValue
    apply fill_strs (Walks.tuple (by simp [calm]) _ l ne vs).toS s.heap.objs.size apart xs size (by omega) val (vs.size - 0) 0 _ (by omega) (Nat.zero_le _) ⟨⟨_, Heap.get?_push_size _ rfl, rfl, rfl⟩, hl1.push _⟩ (hasZ _)
    intro s3 hm has
    apply wpAny_pure
    apply wpAny_pure
    exact ⟨rfl, done (G := fun a b => b = a) _ s3 (fun b hb => two hb) (fun _ _ z => z) hm has⟩
/-- set(xs), xs texts -/
theorem set_of_strs {l : Addr} {vs : Array Value} (xs : List Str) {Q : Value → Shared → Prop} (calm : A.handled = none) (seq : s.heap.IsList l vs ∨ s.heap.IsTuple l vs) (isS : StrsAre vs.toList xs) (few : xs.length + 1 < scanBound)
    (q : ∀ (h2 : Heap) (t2 : Nat), HasS P w h2 s.heap.objs.size xs → (∀ b o, s.heap.get? b = some o → h2.get? b = some o) → Q (.ref s.heap.objs.size) { s with heap := h2, toks := t2 }) : wpAny (model P w) A (call (.type "set") [.ref l]) Q E s := by
  have ⟨_, _, line⟩ := F.called_set.mro
  have b1 := F.called_set.made
  have b2 := F.called_set.sub
  have b3 := F.called_set.notType
  have b4 := F.called_set.canCreate
  have b5 := F.typeCall_set_1 (.ref l)
  apply wpAny_call
  apply codeAny_of_tree
  change wpAny _ _ (callAny (.type "set") _) _ _ _
  apply wpAny_pure
  refine ⟨Code.quiet_builtin _ (by decide +kernel), ?_⟩
  apply codeAny_builtin F.entry_type_call
  rewrite [Around.under_plain (weight_type_call_type "set" [.ref l] []) rfl]
  repeat any_goals first | assumption | wp_step
  apply codeAny_mono (code_set_new_1 (.ref l) (E := E) (Q₁ := fun ob s2 => ∃ led, ob = .ref s.heap.objs.size ∧ s2 = { s with heap := s.heap.push (bareL led) }) fun led => ⟨led, rfl, rfl⟩)
  intro r s2 hr
  match r, hr with
  | .error _, hr => exact hr
  | .ok (.ret ob), hr =>
    obtain ⟨led, e1, e2⟩ := hr
    subst e1 e2
    have stands : (s.heap.push (bareL led)).get? s.heap.objs.size = some (bareL led) := Heap.get?_push_size _ rfl
    have typed : Shared.TypeIs { s with heap := s.heap.push (bareL led) } (.ref s.heap.objs.size) "set" := ⟨_, stands, rfl⟩
    have c1 := F.called_set.init.lookup
    have c2 := F.called_set.init.bind (.ref s.heap.objs.size)
    repeat any_goals first | assumption | wp_step
    apply codeAny_mono (init_strs xs (E := E) (by simp [calm]) seq isS few)
    intro r2 s3 hr2
    match r2, hr2 with
    | .error _, hr2 => exact hr2
    | .ok (.ret ob2), hr2 =>
      obtain ⟨e3, h2, t2, e4, has, hk⟩ := hr2
      subst e3 e4
      repeat any_goals first | assumption | wp_step
      exact q h2 t2 has hk
end
section
variable {X : Cx}
/-- len(set(e)), e texts -/
def tLenSetS (K : PySem.W.Frag) (ta : TE) : TE := fun σ H Q => ta σ H fun x H1 => ∃ l, ∃ xs : List Str, x = .ref l ∧ (SqL K H1 l (xs.map V.str) ∨ SqT K H1 l (xs.map V.str)) ∧ xs.length < 60 ∧ Q (.int (dcount xs)) H1
theorem few60 {n : Nat} (h : n < 60) : n + 1 < scanBound := by unfold scanBound; omega
theorem pe_lenSetS {a : Expr} {ta : TE} {p p2 q pos : Pos} (hc : X.calm = true) (hg : Gl X "len") (hm : X.mg "len" = none) (hg2 : Gl X "set") (hm2 : X.mg "set" = none) (ha : PE X a ta)
    (na : starEach [a] X.env = (false, eval a X.env) :: starEach [] X.env := by rfl) : PE X (.Call (.Name "len" p) [.Call (.Name "set" p2) [a] [] q] [] pos) (tLenSetS X.K ta) := by
  refine ⟨fun pins s σ H Q I h => Call_ (ld_blt I hg hm boot_len (PyProof.Rows.callWith_builtin1 (PyProof.Rows.args_cons ?_ rfl) rfl rfl))⟩
  refine Call_ (ld_blt I hg2 hm2 boot_set (PyProof.Rows.callWith_type1 (PyProof.Rows.args_cons (thn (ha.run pins s σ H _ I h) fun v s1 ⟨x, H1, I1, r1, l, xs, ex, hq, few, q1⟩ => PyProof.Rows.args_nil ?_) na) na rfl))
  subst ex; cases (show v = Value.ref l from r1)
  have fin : ∀ (h2 : Heap) (tk : Nat), HasS X.prog X.w h2 s1.heap.objs.size xs → (∀ b o, s1.heap.get? b = some o → h2.get? b = some o) →
      wpAny (model X.prog X.w) X.A (spliced (backTo pos (starEach [] X.env))) (fun vs s2 => wpAny (model X.prog X.w) X.A (call (.builtin "len") (Value.ref s1.heap.objs.size :: vs)) (EP X pins σ Q) X.xe s2) X.xe { s1 with heap := h2, toks := tk } := fun h2 tk has hk => by
    obtain ⟨o, es, ep, t, ho, hex, hd, _, _, _, hf, hn⟩ := has
    have I2 : Inv X pins σ H1 { s1 with heap := h2, toks := tk } := I1.kept hk
    have small := dcount_le xs
    refine PyProof.Rows.args_nil (call_len_set ho hex hd hf (by rw [hn]; have : sizeLine = 16777216 := sizeLine_eq; omega) ⟨.int (dcount xs), H1, I2.tok _, ⟨_, by rw [hn]⟩, q1⟩)
  rcases hq with hq | hq
  · obtain ⟨its, r, pl, _⟩ := I1.list hq
    exact set_of_strs xs (I1.ok.hd hc) (.inl pl.isList) (by simpa using strsAre_of r) (few60 few) fin
  · obtain ⟨its, r, pl, _⟩ := I1.tuple hq
    exact set_of_strs xs (I1.ok.hd hc) (.inr pl) (by simpa using strsAre_of r) (few60 few) fin
theorem vals_at : ∀ (xs : List V) (us : List Value), xs.length = us.length → (∀ (i : Nat) (x : V) (u : Value), xs[i]? = some x → us[i]? = some u → RelV x u) → Vals xs us
  | [], [], _, _ => .nil
  | x :: xs, u :: us, h, r => .cons (r 0 x u rfl rfl) (vals_at xs us (Nat.succ.inj h) fun i y v hy hv => r (i + 1) y v hy hv)
/-- list(z), z a text -/
def gListS : List V → Hp → VK → Prop := fun xs H Q => ∃ z : Str, xs = [.str z] ∧ z.length ≤ sizeLine ∧ ∀ p, H p = none → Q (.ref p) (upd H p (.lst (z.cps.toList.map fun c => .str ⟨#[c]⟩)))
theorem cg_listS (hc : X.calm = true) : CallR X (.type "list") gListS := by
  rintro pins s σ H xs us Q I r ⟨z, rfl, hz, q⟩
  obtain ⟨u, rfl, t, rfl⟩ := vals1 r; refine call_list_str (I.ok.hd hc) z t (fun h2 tk acc c kp stands items => ?_) hz
  have r2 : Vals (z.cps.toList.map fun c => V.str ⟨#[c]⟩) acc.toList := by
    refine vals_at _ _ (by rw [List.length_map, Array.length_toList, Array.length_toList, items.1]) fun i x v hx hv => ?_
    rw [Array.getElem?_toList] at hv
    obtain ⟨c, tk2, hc2, rfl⟩ := items.2 i v hv
    rw [List.getElem?_map, Array.getElem?_toList, hc2] at hx
    cases hx
    exact ⟨tk2, rfl⟩
  have len : (z.cps.toList.map fun c => V.str ⟨#[c]⟩).length ≤ sizeLine := by rw [List.length_map, Array.length_toList]; exact hz
  exact ⟨.ref s.heap.objs.size, _, I.laid (t' := tk) kp (Nat.le_refl _) (show ObjOk X.prog X.w _ h2 _ (.lst _) from ⟨len, acc.toList, c, r2, stands⟩), rfl, q _ (I.hok.fresh (Nat.le_refl _))⟩
end

/-! Readings with a stronger promise behind them; the empty text's join. -/
section
variable {X : Cx}
/-- with a stronger promise behind it -/
def tUp (te : TE) : TE := fun σ H Q => ∃ Q2 : VK, te σ H Q2 ∧ ∀ x H1, Q2 x H1 → Q x H1
theorem pe_up {e : Expr} {te : TE} (h : PE X e te) : PE X e (tUp te) := by
  constructor
  rintro pins s σ H Q hI ⟨Q2, hq, imp⟩
  exact thn (h.run pins s σ H Q2 hI hq) fun v s1 ⟨x, H1, hI1, hr, q⟩ => ⟨x, H1, hI1, hr, imp x H1 q⟩
theorem pe_weak {e : Expr} {t t2 : TE} (h : PE X e t) (imp : ∀ σ H Q, t2 σ H Q → t σ H Q) : PE X e t2 := ⟨fun pins s σ H Q hI hq => h.run pins s σ H Q hI (imp σ H Q hq)⟩
/-- "".join(xs) -/
def JoinG (K : PySem.W.Frag) (x : V) (H : Hp) (Q : VK) : Prop := ∃ (p : Addr) (ys : List Str), x = .ref p ∧ SqL K H p (ys.map V.str) ∧ (ys.map (·.length)).sum ≤ 1000000 ∧ Q (.str (Txt.join "" ys)) H
def tJoin0 (K : PySem.W.Frag) (te : TE) : TE := fun σ H Q => te σ H fun x H1 => JoinG K x H1 Q
theorem rd_join {K : PySem.W.Frag} {te : TE} {σ : L2.St} {H : Hp} {Q : VK} (q : te σ H fun x H1 => JoinG K x H1 Q) : tJoin0 K te σ H Q := q
theorem pe_join0 {e : Expr} {te : TE} {k : Nat} {p0 apos pos : Pos} (he : PE X e te)
    (hs : starEach [e] X.env = [(false, eval e X.env)] := by rfl)
    (hbase : attributeBase (.Constant (.str "") k p0) "join" X.env (eval (.Constant (.str "") k p0) X.env) = eval (.Constant (.str "") k p0) X.env := by rfl)
    (hline : (apos.endLine == pos.line) = true := by rfl) :
    PE X (.Call (.Attribute (.Constant (.str "") k p0) "join" apos) [e] [] pos) (tJoin0 X.K te) := by
  refine pe_weak (pe_join pe_str (pe_up he) hs hbase hline) fun σ H Q h => ⟨⟨_, rfl⟩, _, h, ?_⟩
  rintro x H1 ⟨p, ys, rfl, hs, hl, q⟩
  refine ⟨"", p, ys, rfl, rfl, .inl hs, ?_, q⟩
  rw [show ("" : Str).length = 0 from rfl, Nat.mul_zero]
  omega
end

/-! Classes of the program: their addresses, calls of methods, properties, staticmethods; what is never reached. -/
/-- a statement that is never reached -/
def tNo : TS := fun _ _ _ => False
theorem ps_no {X : Cx} {st : Stmt} : PS X st tNo := ⟨fun _ _ _ _ _ _ h => h.elim⟩
theorem pss_no {X : Cx} {st : List Stmt} : PSs X st tNo := ⟨fun _ _ _ _ _ _ h => h.elim⟩
/-- what a name of the module holds -/
def cls_at (K : PySem.W.Frag) (x : Str) : Addr := match PySem.W.nsIn K mainGlobals x with
  | some (some (.ref a)) => a
  | _ => 0
theorem cls_at_of {K : PySem.W.Frag} {x : Str} {a : Addr} (h : PySem.W.nsIn K mainGlobals x = some (some (.ref a))) : cls_at K x = a := by
  unfold cls_at
  rw [h]
/-- a method that is a property -/
structure Prp (P : Program) (w : World) (K : PySem.W.Frag) (mg : Str → Option Value) (base : Heap) (k : Nat) (C : Addr) (f : Str) (sp : Sp) : Prop where
  ex : ∃ (p g : Addr) (fd : FuncData) (ps : List Str), Cls K C ∧ PropOf K C f p g ∧ FnOk P w K mg base C8.CX0 k g fd ps sp ∧ Binds K fd ps []
/-- a class that may be made by its name, sp being what its __init__ keeps -/
structure MakR (P : Program) (w : World) (K : PySem.W.Frag) (mg : Str → Option Value) (base : Heap) (k : Nat) (x : Str) (C : Addr) (sp : Sp) : Prop where
  ex : ∃ f : Addr, Mk K C f ∧ FnR P w K mg base C8.CX0 k f sp ∧ mg x = some (.ref C)
/-- a staticmethod of the class at C -/
structure Sta (P : Program) (w : World) (K : PySem.W.Frag) (mg : Str → Option Value) (base : Heap) (k : Nat) (C : Addr) (m : Str) (sp : Sp) : Prop where
  ex : ∃ (mc : Value) (p g : Addr), ClX.CRead K C mc ∧ PySem.W.findCls K (.ref C) mc m = some (.get (.builtin "staticmethod.__get__") (.ref p) .none (.ref C)) ∧ (∃ rest, PySem.W.recIn K p "staticmethod" = some (.ref g :: rest)) ∧ PySem.W.keepIn K (.ref g) = true ∧ FnR P w K mg base C8.CX0 k g sp
section
variable {X : Cx} {k j : Nat} {C : Addr} {x m f : Str} {sp : Sp} {p pos apos : Pos} {e o : Expr} {es : List Expr} {ta : TE} {t : TA}
/-- o.f, a property -/
theorem pe_pr (c : Prp X.prog X.w X.K X.mg X.base k C f sp) (hr : Room j X.A) (hk : k + 1 ≤ j) (he : PE X e ta) (hb : attributeBase e f X.env (eval e X.env) = eval e X.env) : PE X (.Attribute e f pos) (tProp C sp [] C8.E0 ta) := by
  obtain ⟨p, g, fd, ps, hc, hp, F, b⟩ := c.ex
  exact pe_prop he hc hp F (hr.mono hk) b .nil C8.pass0 hb
/-- C(e, ..) -/
theorem pe_mkR (c : MakR X.prog X.w X.K X.mg X.base k x C sp) (hr : Room j X.A) (hk : k + 1 ≤ j) (hg : Gl X x) (ha : PA X (e :: es) t) (hdb : (x == ("__debug__" : Str)) = false := by decide)
    (he : starEach (e :: es) X.env = (false, eval e X.env) :: starEach es X.env := by rfl) (hpl : (backTo pos (starEach es X.env)).any (·.1) = false := by rfl) : PE X (.Call (.Name x p) (e :: es) [] pos) (StX.tMakeR C sp C8.E0 t) := by
  obtain ⟨f, M, F, hm⟩ := c.ex
  exact StX.pe_makeR M F (hr.mono hk) hg hm C8.pass0 ha hdb he hpl
/-- C(e, .., *es) -/
theorem pe_mkS (c : MakR X.prog X.w X.K X.mg X.base k x C sp) (hr : Room j X.A) (hk : k + 1 ≤ j) (hg : Gl X x) (ha : PA X (e :: es) t) (hdb : (x == ("__debug__" : Str)) = false := by decide)
    (he : starEach (e :: es) X.env = (false, eval e X.env) :: starEach es X.env := by rfl) (hst : (backTo pos (starEach es X.env)).any (·.1) = true := by rfl) : PE X (.Call (.Name x p) (e :: es) [] pos) (StX.tMakeR C sp C8.E0 t) := by
  obtain ⟨f, M, F, hm⟩ := c.ex
  refine ⟨fun pins s σ H Q I h => wpAny_Call_Name_kw (ld_glob I hg hm ?_ hdb)⟩
  exact PySem.W.callWith_S2 (h₀ := X.base) I.ok.mod.kin M.kp (thn (ha.run pos pins s σ H _ I h) fun us s1 ⟨vs, H1, I1, r, q⟩ => ⟨I1.kIn, StX.run_makeR M F (hr.mono hk) C8.pass0 I1 r q⟩) he hst
/-- C.m(e, ..), m a staticmethod -/
def tStc (C : Addr) (sp : Sp) (ta : TE) (t : TA) : TE := fun σ H Q => ta σ H fun x H1 => x = .ref C ∧ t σ H1 fun vs H2 => sp vs H2 Q C8.E0
theorem pe_st {pl : Sem Bool} (c : Sta X.prog X.w X.K X.mg X.base k C m sp) (hr : Room j X.A) (hk : k ≤ j) (he : PE X o ta) (ha : PA X (e :: es) t) (hst : starEach (e :: es) X.env = (false, eval e X.env) :: starEach es X.env := by rfl) (hpl : (backTo pos (starEach es X.env)).any (·.1) = false := by rfl)
    (ht : eval (.Call (.Attribute o m apos) (e :: es) [] pos) X.env = (do let ov ← eval o X.env; standAt apos.atName; let (f, first) ← holding [ov] (getMethod ov m pl); callWith pos f first (backTo pos (starEach (e :: es) X.env)) (backToKw pos (keywordEach [] X.env))) := by rfl) :
    PE X (.Call (.Attribute o m apos) (e :: es) [] pos) (tStc C sp ta t) := by
  obtain ⟨mc, p, g, r, at_, ⟨rest, hp⟩, kp, F⟩ := c.ex
  refine ⟨fun pins s σ H Q I h => PySem.W.methodCall_KW (pl := pl) (thn (he.run pins s σ H _ I h) fun u s1 ⟨x, H1, I1, rx, ex, q⟩ => ?_) ht⟩
  subst ex
  cases (show u = Value.ref C from rx)
  have I2 := I1.tok (s1.toks + 1)
  refine PySem.W.method_cls I1.kIn r.ga (PySem.W.cls_bind I1.kIn r.rd at_ (wpAny_call (PySem.W.sm_get (s := { s1 with toks := s1.toks + 1 }) I1.kIn hp (PySem.W.handed_on rfl ?_))))
  refine PySem.W.callWith_K (h₀ := X.base) I2.ok.mod.kin kp (thn (ha.run pos pins _ σ H1 _ I2 q) fun us s2 ⟨vs, H2, I3, rv, q2⟩ => ⟨I3.kIn, ?_⟩) hst hpl
  exact wpAny_call (run_fnR F (hr.mono hk) C8.pass0 I3 rv q2)
end
/-! ### short readings -/
def tFs (ts : List TE) : TE := fun σ H Q => tJs ts Str.empty σ H fun out H1 => Q (.str out) H1
def rPart : V → List V → Hp → VK → Prop := fun x xs H Q => ∃ a b, x = .str a ∧ xs = [.str b] ∧ (b.length == 0) = false ∧ a.length ≤ sizeLine ∧ ∀ p, H p = none → Q (.ref p) (upd H p (.tup [.str (Txt.partition a b).1, .str (Txt.partition a b).2.1, .str (Txt.partition a b).2.2]))
def rSplit : V → List V → Hp → VK → Prop := fun x xs H Q => ∃ a b, x = .str a ∧ xs = [.str b] ∧ (b.length == 0) = false ∧ a.length + 2 ≤ sizeLine ∧ rNewStrs (Txt.split a b) H Q
def rTupIx (K : PySem.W.Frag) : V → List V → Hp → VK → Prop := fun x xs H Q => ∃ p, ∃ ys : List Str, ∃ z j, x = .ref p ∧ xs = [.str z] ∧ SqT K H p (ys.map V.str) ∧ ys[j]? = some z ∧ (∀ m, m < j → ys[m]? ≠ some z) ∧ Q (.int (j : Nat)) H
/-- a class whose instances are read -/
structure InsK (K : PySem.W.Frag) (C : Addr) : Prop where
  cl : Cls K C
  (ha : PySem.W.findIn K (.ref C) "__class__" = some (some (.builtin "object.__class__"))) (hn : PySem.W.specialIn K (.builtin "object.__class__") "__get__" = some (some (.builtin "getset_descriptor.__get__")))
  (ht : PySem.W.takesIn K (.builtin "object.__class__") = some true) (hm : PySem.W.mroIn K C (.type "object") = some true)
class SchK (K : PySem.W.Frag) : Prop where
  ins : InsK K (cls_at K "Schema")
  nF : NoAttr K (cls_at K "Schema") "fields"
  nL : NoAttr K (cls_at K "Schema") "_lists"
/-- "..".join(xs) -/
def JoinS (K : PySem.W.Frag) (z : Str) (x : V) (H : Hp) (Q : VK) : Prop := ∃ (p : Addr) (ys : List Str), x = .ref p ∧ SqL K H p (ys.map V.str) ∧ (ys.map (·.length)).sum + ys.length * z.length ≤ 1000000 ∧ Q (.str (Txt.join z ys)) H
def tJoinS (K : PySem.W.Frag) (z : Str) (te : TE) : TE := fun σ H Q => te σ H fun x H1 => JoinS K z x H1 Q
theorem rd_joinS {K : PySem.W.Frag} {z : Str} {te : TE} {σ : L2.St} {H : Hp} {Q : VK} (q : te σ H fun x H1 => JoinS K z x H1 Q) : tJoinS K z te σ H Q := q
theorem pe_joinS {X : Cx} {z : Str} {e : Expr} {te : TE} {k : Nat} {p0 apos pos : Pos} (he : PE X e te)
    (hs : starEach [e] X.env = [(false, eval e X.env)] := by rfl)
    (hbase : attributeBase (.Constant (.str z) k p0) "join" X.env (eval (.Constant (.str z) k p0) X.env) = eval (.Constant (.str z) k p0) X.env := by rfl)
    (hline : (apos.endLine == pos.line) = true := by rfl) : PE X (.Call (.Attribute (.Constant (.str z) k p0) "join" apos) [e] [] pos) (tJoinS X.K z te) := by
  refine pe_weak (pe_join pe_str (pe_up he) hs hbase hline) fun σ H Q h => ⟨⟨_, rfl⟩, _, h, ?_⟩
  rintro x H1 ⟨p, ys, rfl, hs, hl, q⟩
  exact ⟨z, p, ys, rfl, rfl, .inl hs, Nat.le_trans hl (by decide), q⟩
/-- what is walked is a list or a tuple -/
def iSeq (K : PySem.W.Frag) (te : TE) : TI := fun σ H R => te σ H fun x H1 => ∃ a, x = .ref a ∧ (((∃ xs, SqL K H1 a xs) ∧ R (Itl K a) H1) ∨ ((∃ xs, SqT K H1 a xs) ∧ R (Itt K a) H1))
theorem pi_seq {X : Cx} {tg l : Expr} {te : TE} (hl : PE X l te) : PI X tg l (iSeq X.K te) := by
  refine ⟨fun pins s σ H R I h => thn (hl.run pins s σ H _ I h) fun v s1 ⟨x, H1, I1, rx, a, ex, q⟩ => ?_⟩
  subst ex; cases (show v = Value.ref a from rx)
  have fr : ∀ b, b ∈ [s1.heap.objs.size] → FpOk X pins H1 b := fun b hb => by
    rw [List.mem_singleton.mp hb]; exact I1.fpOk (Nat.le_refl _) (I1.hok.fresh (Nat.le_refl _))
  rcases q with ⟨⟨xs, hq⟩, q⟩ | ⟨⟨xs, hq⟩, q⟩
  · obtain ⟨its, rv, pl, _⟩ := I1.list hq
    exact wpAny_pyIter_list pl.isList ⟨s1.heap.objs.size, _, _, _, H1, rfl, I1.kept (t' := s1.toks) fun b o e => Heap.get?_push_of_some _ e, turn_list a _, ⟨_, Heap.get?_push_size _ rfl, rfl, rfl⟩, fr, q⟩
  · obtain ⟨its, rv, pl, _⟩ := I1.tuple hq
    exact wpAny_pyIter_tuple (show s1.heap.IsTuple a its.toArray from pl) ⟨s1.heap.objs.size, _, _, _, H1, rfl, I1.kept (t' := s1.toks) fun b o e => Heap.get?_push_of_some _ e, turn_tuple a _, ⟨_, Heap.get?_push_size _ rfl, rfl, rfl⟩, fr, q⟩
/-! ### readings by the head -/
section
variable {K : PySem.W.Frag} {σ : L2.St} {H : Hp} {Q : VK} {D : Ends} {x y v : V} {te tv : TE} {ta tk : TA} {i j l : Nat} {C : Addr} {f m : Str} {sp : Sp} {E : XK} {R : It → Hp → Prop}
theorem rd_fld (q : te σ H fun x H1 => ∃ a C dx fs v, x = .ref a ∧ H1 a = some (.ins C dx fs) ∧ Cls K C ∧ NoAttr K C f ∧ fs.lookup f = some v ∧ Q v H1) : tFld K te f σ H Q := q
theorem rd_sfld (q : tv σ H fun y H1 => te σ H1 fun x H2 => ∃ a C dx fs, x = .ref a ∧ H2 a = some (.ins C dx fs) ∧ Cls K C ∧ NoAttr K C f ∧ fs.length < 1000 ∧ D.nx σ (upd H2 a (.ins C dx (putF f y fs)))) : sFld K te tv f D σ H := q
theorem rd_meth (q : te σ H fun x H1 => ∃ a dx fs, x = .ref a ∧ H1 a = some (.ins C dx fs) ∧ fs.lookup m = none ∧ ta σ H1 fun vs H2 => sp (x :: (vs ++ [])) H2 Q E) : tMeth C m sp [] E te ta σ H Q := q
theorem rd_prop (q : te σ H fun x H1 => ∃ a dx fs, x = .ref a ∧ H1 a = some (.ins C dx fs) ∧ sp (.ref a :: []) H1 Q E) : tProp C sp [] E te σ H Q := q
theorem rd_mkR (q : ta σ H fun vs H1 => ∀ x dx, H1 x = none → H1 dx = none → dx ≠ x → sp (.ref x :: vs) (upd (upd H1 dx (.own x)) x (.ins C dx [])) (fun v H2 => v = .non ∧ Q (.ref x) H2) E) : StX.tMakeR C sp E ta σ H Q := q
theorem rd_stc (q : te σ H fun x H1 => x = .ref C ∧ ta σ H1 fun vs H2 => sp vs H2 Q C8.E0) : tStc C sp te ta σ H Q := q
theorem rd_star {QA : List V → Hp → Prop} (q : te σ H fun x H1 => ∃ p xs, x = V.ref p ∧ (SqT K H1 p xs ∨ SqL K H1 p xs) ∧ ta σ H1 fun ys H2 => QA (xs ++ ys) H2) : StX.tStar K te ta σ H QA := q
theorem rd_lenSetS (q : te σ H fun x H1 => ∃ l, ∃ xs : List Str, x = .ref l ∧ (SqL K H1 l (xs.map V.str) ∨ SqT K H1 l (xs.map V.str)) ∧ xs.length < 60 ∧ Q (.int (dcount xs)) H1) : tLenSetS K te σ H Q := q
theorem rd_sq (q : te σ H fun x H1 => ∃ a, x = .ref a ∧ (((∃ xs, SqL K H1 a xs) ∧ R (Itl K a) H1) ∨ ((∃ xs, SqT K H1 a xs) ∧ R (Itt K a) H1))) : iSeq K te σ H R := q
theorem rd_enumT (q : ta σ H fun vs H1 => ∃ a xs, vs = [.ref a] ∧ SqT K H1 a xs ∧ R (IteT K a) H1) : iEnumT K ta σ H R := q
theorem rd_zipMx (q : ta σ H fun vs H1 => ∃ a b xs ys, vs = [.ref a, .ref b] ∧ SqL K H1 a xs ∧ SqT K H1 b ys ∧ R (ItzM K a b) H1) : iZipM K ta σ H R := q
theorem rd_fs {ts : List TE} (q : tJs ts Str.empty σ H fun out H1 => Q (.str out) H1) : tFs ts σ H Q := q
theorem rd_js {t : TE} {ts : List TE} {acc : Str} {QS : Str → Hp → Prop} (q : t σ H fun x H1 => ∃ y : Str, x = .str y ∧ (acc ++ y).length ≤ sizeLine ∧ tJs ts (acc ++ y) σ H1 QS) : tJs (t :: ts) acc σ H QS := q
theorem rd_js0 {acc : Str} {QS : Str → Hp → Prop} (q : QS acc H) : tJs [] acc σ H QS := q
theorem rd_fmt (q : te σ H fun x H1 => (∃ y : Str, x = .str y ∧ y.length ≤ sizeLine ∧ Q (.str y) H1) ∨ ∃ i : Int, x = .int i ∧ i.natAbs.log2 < 1920 ∧ Q (.str (toString i)) H1) : tFmt te σ H Q := q
end

/-! == and != by an own __eq__, tuples that hold such objects; repr and bool of an own object; C(k=e) of a class with *rest. -/
section
variable {X : Cx} {n m k j : Nat}
/-- a tuple's items are told by its place alone -/
def Uniq (K : PySem.W.Frag) (H : Hp) : Prop := ∀ a xs ys, SqT K H a xs → SqT K H a ys → xs = ys
/-- what == of two values comes to, told by the heap -/
abbrev EqvB := V → V → Hp → Bool → Prop
def EqB (X : Cx) (n : Nat) (D : EqvB) : Prop := ∀ (A : Around) (pins : List (Addr × Obj)) (s : Shared) (σ : L2.St) (H : Hp) (x y : V) (u v : Value) (b : Bool), Sub X n A → Inv X pins σ H s → RelV x u → RelV y v → D x y H b →
    wpAny (model X.prog X.w) A (eqBool u v) (fun r s' => r = b ∧ Inv X pins σ H s') X.xe s
def RcB (X : Cx) (n : Nat) (D : EqvB) : Prop := ∀ (A : Around) (pins : List (Addr × Obj)) (s : Shared) (σ : L2.St) (H : Hp) (x y : V) (u v : Value) (b : Bool), Sub X n A → Inv X pins σ H s → RelV x u → RelV y v → D x y H b →
    wpAny (model X.prog X.w) A (richCompare .Eq u v) (fun r s' => r = .bool b ∧ Inv X pins σ H s') X.xe s
theorem EqB.mono {D : EqvB} (h : EqB X n D) (hn : n ≤ m) : EqB X m D := fun A pins s σ H x y u v b sb => h A pins s σ H x y u v b (sb.mono hn)
theorem EqB.or {D D' : EqvB} (h : EqB X n D) (h' : EqB X n D') : EqB X n (fun x y H b => D x y H b ∨ D' x y H b) := fun A pins s σ H x y u v b sb I rx ry d =>
  d.elim (h A pins s σ H x y u v b sb I rx ry) (h' A pins s σ H x y u v b sb I rx ry)
/-- flat values -/
def DFl : EqvB := fun x y _ b => flatV x = true ∧ flatV y = true ∧ eqV x y = b
theorem eqB_flat : EqB X 0 DFl := by
  intro A pins s σ H x y u v b sb I rx ry d
  obtain ⟨fx, fy, e⟩ := d; have q := eqAt_V (A := A) (s := s) rx ry fx fy
  rw [e] at q
  exact q X.prog X.w X.xe _ ⟨rfl, I⟩
/-- item by item -/
def PrsB (D : EqvB) : List V → List V → Hp → Bool → Prop
  | [], [], _, b => b = true
  | [], _ :: _, _, b => b = false
  | _ :: _, [], _, b => b = false
  | x :: xs, y :: ys, H, b => (D x y H true ∧ PrsB D xs ys H b) ∨ (D x y H false ∧ b = false)
theorem zipR_of {D : EqvB} (h : EqB X n D) {A : Around} (sb : Sub X (n + 1) A) {pins : List (Addr × Obj)} {σ : L2.St} {H : Hp} {b : Bool} :
    ∀ {xs ys : List V} {its its2 : List Value}, PrsB D xs ys H b → Vals xs its → Vals ys its2 → ∀ fin : Bool, fin = (its.length == its2.length) → GE.ZipR X.prog X.w A X.xe (fun s' => Inv X pins σ H s') b fin (its.zip its2)
  | _, _, _, _, p, .nil, .nil, fin, e => by rw [e]; exact p
  | _, _, _, _, p, .nil, .cons _ _, fin, e => by rw [e]; exact p
  | _, _, _, _, p, .cons _ _, .nil, fin, e => by rw [e]; exact p
  | _, _, u :: us, v :: vs, p, .cons rx r, .cons ry r2, fin, e => by
    have e2 : fin = (us.length == vs.length) := e.trans (Bool.eq_iff_iff.mpr (by simp))
    rcases p with ⟨d, p⟩ | ⟨d, p⟩
    · exact ⟨true, fun s I => h A.in1 pins s σ H _ _ _ _ _ sb.in1 I rx ry d, .inl ⟨rfl, zipR_of h sb p r r2 fin e2⟩⟩
    · exact ⟨false, fun s I => h A.in1 pins s σ H _ _ _ _ _ sb.in1 I rx ry d, .inr ⟨rfl, p⟩⟩
/-- tuples, item by item; one and the same tuple is equal to itself -/
def DTp (K : PySem.W.Frag) (D : EqvB) : EqvB := fun x y H b => ∃ p q xs ys, x = .ref p ∧ y = .ref q ∧ SqT K H p xs ∧ SqT K H q ys ∧ PrsB D xs ys H b ∧ (p = q → Uniq K H → b = true)
theorem rcB_tup {D : EqvB} (h : EqB X n D) : RcB X (n + 1) (DTp X.K D) := by
  intro A pins s σ H x y u v b sb I rx ry d
  obtain ⟨p, q, xs, ys, rfl, rfl, hp, hq, pr, _⟩ := d
  cases rx
  cases ry
  obtain ⟨its, r, e, z⟩ := I.tuple hp
  obtain ⟨its2, r2, e2, z2⟩ := I.tuple hq
  exact GE.rc_tupB sb.room.units0 (fun s' => Inv X pins σ H s') b e e2 (zipR_of h sb pr r r2 _ (by rw [List.size_toArray, List.size_toArray])) (fun s' q => ⟨rfl, q⟩) I
/-- from a rich comparison to == inside a tuple: one object is equal to itself -/
theorem RcB.eqB {D : EqvB} (h : RcB X n D) (hr : ∀ x y H b, D x y H b → ∃ p q, x = .ref p ∧ y = .ref q ∧ (p = q → Uniq X.K H → b = true)) : EqB X n D := by
  intro A pins s σ H x y u v b sb I rx ry d
  obtain ⟨p, q, rfl, rfl, hs⟩ := hr _ _ _ _ d
  cases rx
  cases ry
  by_cases hab : p = q
  · subst hab
    rw [hs rfl fun a xs ys h1 h2 => I.tuple_inj h1 h2]
    exact SeqAt.EqAt.same (A := A) (s := s) (.ref p) X.prog X.w X.xe _ ⟨rfl, I⟩
  · refine GQ.eqBool_refG hab (wpAny_mono (h A pins s σ H (.ref p) (.ref q) _ _ b sb I rfl rfl d) (fun r s' q => ?_) fun _ _ x => x)
    obtain ⟨hr', q⟩ := q
    exact ⟨b, hr', rfl, q⟩
theorem eqB_tup {D : EqvB} (h : EqB X n D) : EqB X (n + 1) (DTp X.K D) := (rcB_tup h).eqB fun _ _ _ _ d => let ⟨p, q, _, _, hx, hy, _, _, _, hs⟩ := d; ⟨p, q, hx, hy, hs⟩
/-- a def called from somewhere below -/
theorem run_sub {A : Around} {f : Addr} {fd : FuncData} {ps : List Str} {ds : List Value} {dvs : List V} {sp : Sp} {pins : List (Addr × Obj)} {σ : L2.St} {H : Hp} {s : Shared} {Q : VK} {us : List Value} {vs : List V} (F : FnOk X.prog X.w X.K X.mg X.base C8.CX0 k f fd ps sp)
    (sb : Sub X k A) (hb : Binds X.K fd ps ds) (hd : Vals dvs ds) (I : Inv X pins σ H s) (r : Vals vs us) (h : sp (vs ++ dvs) H Q C8.E0) : wpAny (model X.prog X.w) A (call (.ref f) us) (EP X pins σ Q) X.xe s := by
  have rr := r.append hd
  have hl : (us ++ ds).length = ps.length := rr.length.symm.trans (F.len _ _ _ _ h)
  have e := I.env0
  have e0 : Env0 X.prog X.w X.K X.mg X.base A X.stack s H := ⟨sb.fr ▸ e.frames, e.mod, e.bs, e.bsz, e.funs, e.frf, e.hok, e.bare⟩
  refine wpAny_call (codeAny_mono (F.run A X.stack s H ⟨us, []⟩ (us ++ ds) (vs ++ dvs) Q C8.E0 sb.room e0 (hb s us I.kIn hl) rr h) fun r s' hq => ?_)
  cases r with
  | error e => exact (C8.pass0 : Passes C8.CX0 X C8.E0) pins σ H s e s' I hq
  | ok fl =>
    cases fl with
    | ret w =>
      obtain ⟨z, H', I', rz, q⟩ := I.after hq
      exact ⟨z, H', I', rz, q⟩
    | next => exact False.elim hq
    | brk => exact False.elim hq
    | cont => exact False.elim hq
section
variable {C : Addr} {sp : Sp}
/-- instances of C: what the own == says -/
def DOw (K : PySem.W.Frag) (C : Addr) (sp : Sp) : EqvB := fun x y H b => ∃ p q dx dy fs gs, x = .ref p ∧ y = .ref q ∧ H p = some (.ins C dx fs) ∧ H q = some (.ins C dy gs) ∧ sp [.ref p, .ref q] H (fun v H' => v = .bl b ∧ H' = H) C8.E0 ∧ (p = q → Uniq K H → b = true)
theorem rcB_own (c : C8.Met X.prog X.w X.K X.mg X.base k C "__eq__" sp []) : RcB X k (DOw X.K C sp) := by
  intro A pins s σ H x y u v b sb I rx ry d
  obtain ⟨p, q, dx, dy, fs, gs, rfl, rfl, ha, hb, hs, _⟩ := d
  cases rx
  cases ry
  obtain ⟨f, fd, ps, ds, hc, hm, F, bd, dd⟩ := c.ex
  obtain ⟨mA, O, _⟩ := ins_get I.hok ha; obtain ⟨mB, O', _⟩ := ins_get I.hok hb
  obtain ⟨od, J, _⟩ := O.look
  obtain ⟨od', J', _⟩ := O'.look
  obtain ⟨m, hF⟩ := I.fr
  refine PySem.W.cmp_K (op := .Eq) (tb := .ref C) sb.room.units0 hF I.ok.mod.kin J J'.type (by simp [PySem.W.notFirst]) hm.at_ hm.fn ?_
  refine wpAny_mono (run_sub F sb bd dd I (vs := [.ref p, .ref q]) (.cons rfl (.cons rfl .nil)) (by rw [List.append_nil]; exact hs)) (fun r s' hq => ?_) fun _ _ z => z
  obtain ⟨z, H', I', rz, ez, eh⟩ := hq
  subst ez eh
  cases rz
  exact ⟨rfl, I'⟩
theorem eqB_own (c : C8.Met X.prog X.w X.K X.mg X.base k C "__eq__" sp []) : EqB X k (DOw X.K C sp) := (rcB_own c).eqB fun _ _ _ _ d => let ⟨p, q, _, _, _, _, hx, hy, _, _, _, hs⟩ := d; ⟨p, q, hx, hy, hs⟩
/-- tuples of tuples of flat values and instances of C -/
abbrev DIt (K : PySem.W.Frag) (C : Addr) (sp : Sp) : EqvB := fun x y H b => DFl x y H b ∨ DOw K C sp x y H b
abbrev DPs (K : PySem.W.Frag) (C : Addr) (sp : Sp) : EqvB := DTp K (DTp K (DIt K C sp))
def rEqP (K : PySem.W.Frag) (C : Addr) (sp : Sp) : R2 := fun x y H Q => ∃ b, DPs K C sp x y H b ∧ Q (.bl b) H
theorem op_eqP (c : C8.Met X.prog X.w X.K X.mg X.base k C "__eq__" sp []) (hr : Room j X.A) (hk : k + 2 ≤ j) : OpR X (compareOp .Eq) (rEqP X.K C sp) := by
  intro pins s σ H x y v u Q I rx ry hq; obtain ⟨b, d, q⟩ := hq
  show wpAny (model X.prog X.w) X.A (richCompare .Eq v u) (EP X pins σ Q) X.xe s; have h : RcB X (k + 2) (DPs X.K C sp) := rcB_tup (eqB_tup ((EqB.mono eqB_flat (Nat.zero_le k)).or (eqB_own c)))
  refine wpAny_mono (h X.A pins s σ H x y v u b ⟨hr.mono hk, rfl⟩ I rx ry d) (fun r s' z => ?_) fun _ _ x => x
  obtain ⟨hr', I'⟩ := z
  subst hr'
  exact ⟨.bl b, H, I', rfl, q⟩
/-- o == y: another instance, a text, None -/
def EqWith (C : Addr) (y : V) (H : Hp) : Prop := y = .non ∨ (∃ t, y = .str t) ∨ ∃ q dy gs, y = .ref q ∧ H q = some (.ins C dy gs)
theorem eqWith_type {C : Addr} {y : V} {v : Value} {H : Hp} {pins : List (Addr × Obj)} {σ : L2.St} {s : Shared} (I : Inv X pins σ H s) (ry : RelV y v) (h : EqWith C y H) :
    ∃ tb, PySem.W.Looks (model X.prog X.w) s.heap (typeOf v) tb ∧ PySem.W.notFirst X.K C tb = true := by
  rcases h with rfl | ⟨t, rfl⟩ | ⟨q, dy, gs, rfl, hb⟩
  · cases ry
    exact ⟨.type "NoneType", .of_pure rfl, by simp [PySem.W.notFirst, HN.sub_none]⟩
  · obtain ⟨t', rfl⟩ := ry
    exact ⟨.type "str", .of_pure rfl, by simp [PySem.W.notFirst, GE.sub_str]⟩
  · cases ry
    obtain ⟨mB, O', _⟩ := ins_get I.hok hb
    obtain ⟨od', J', _⟩ := O'.look
    exact ⟨_, J'.type, by simp [PySem.W.notFirst]⟩
def rEqO (C : Addr) (sp : Sp) : R2 := fun x y H Q => ∃ p dx fs, x = .ref p ∧ H p = some (.ins C dx fs) ∧ EqWith C y H ∧ sp [x, y] H (fun v H' => ∃ b, v = .bl b ∧ Q (.bl b) H') C8.E0
theorem op_eqO (c : C8.Met X.prog X.w X.K X.mg X.base k C "__eq__" sp []) (hr : Room j X.A) (hk : k ≤ j) : OpR X (compareOp .Eq) (rEqO C sp) := by
  intro pins s σ H x y u v Q I rx ry hq
  obtain ⟨p, dx, fs, rfl, ha, hy, hs⟩ := hq
  cases rx
  obtain ⟨f, fd, ps, ds, hc, hm, F, bd, dd⟩ := c.ex
  obtain ⟨mA, O, _⟩ := ins_get I.hok ha; obtain ⟨od, J, _⟩ := O.look
  obtain ⟨tb, ht, hn⟩ := eqWith_type I ry hy
  obtain ⟨m, hF⟩ := I.fr
  show wpAny (model X.prog X.w) X.A (richCompare .Eq (.ref p) v) (EP X pins σ Q) X.xe s
  refine PySem.W.cmp_K (op := .Eq) hr.units0 hF I.ok.mod.kin J ht hn hm.at_ hm.fn ?_
  refine wpAny_mono (run_sub F ⟨hr.mono hk, rfl⟩ bd dd I (vs := [.ref p, y]) (.cons rfl (.cons ry .nil)) (by rw [List.append_nil]; exact hs)) (fun r s' hq => ?_) fun _ _ z => z
  obtain ⟨z, H', I', rz, b, ez, q⟩ := hq
  subst ez
  cases rz
  exact ⟨.bl b, H', I', rfl, q⟩
/-- o != y, y another instance of the class, which has no __ne__ of its own -/
def rNeO (C : Addr) (sp : Sp) : R2 := fun x y H Q => ∃ p dx fs, x = .ref p ∧ H p = some (.ins C dx fs) ∧ EqWith C y H ∧ sp [x, y] H (fun v H' => ∃ b, v = .bl b ∧ Q (.bl (!b)) H') C8.E0
theorem op_neO (c : C8.Met X.prog X.w X.K X.mg X.base k C "__eq__" sp []) (hne : PySem.W.findIn X.K (.ref C) "__ne__" = some (some (.builtin "object.__ne__"))) (hmo : PySem.W.mroIn X.K C (.type "object") = some true) (hr : Room j X.A) (hk : k + 1 ≤ j) : OpR X (compareOp .NotEq) (rNeO C sp) := by
  intro pins s σ H x y u v Q I rx ry hq
  obtain ⟨p, dx, fs, rfl, ha, hy, hs⟩ := hq
  cases rx
  obtain ⟨f, fd, ps, ds, hc, hm, F, bd, dd⟩ := c.ex
  obtain ⟨mA, O, _⟩ := ins_get I.hok ha; obtain ⟨od, J, _⟩ := O.look
  obtain ⟨tb, ht, hn⟩ := eqWith_type I ry hy
  have sb : Sub X (k + 1) X.A := ⟨hr.mono hk, rfl⟩
  show wpAny (model X.prog X.w) X.A (richCompare .NotEq (.ref p) v) (EP X pins σ Q) X.xe s
  have run := run_sub F sb.in1 bd dd I (vs := [.ref p, y]) (us := [.ref p, v]) (.cons rfl (.cons ry .nil)) (by rw [List.append_nil]; exact hs)
  have body : wpAny (model X.prog X.w) X.A.in1 (Builtin.«object.__ne__» ⟨[.ref p, v], []⟩) (fun fin s' => ∃ r, fin = .done (.ret (.bool r)) ∧ ∃ H', Inv X pins σ H' s' ∧ Q (.bl r) H') X.xe s := by
    unfold Builtin.«object.__ne__»; repeat (first
      | with_reducible refine wpAny_cRoomFor sb.in1.room.units0 ?_
      | (refine wpAny_bind (m := callSpecialIfBound? (.ref p) (Str.ofString "__eq__") [v])
          (PySem.W.ifBound_K I.kIn J hm.at_ hm.fn (wpAny_mono run (fun r s' hr => by
            obtain ⟨z, H', I', rz, b, ez, q⟩ := hr
            subst ez
            cases rz
            repeat (first | exact ⟨_, rfl, H', I', q⟩ | exact wpAny_pure ⟨_, rfl, H', I', q⟩ | exact wpAny_truthy_bool ⟨_, rfl, H', I', q⟩ | (refine wpAny_bind (m := truthy (.bool _)) (wpAny_truthy_bool ?_)) | wp_step)) fun _ _ e => e)))
      | wp_step)
  have one : wpAny (model X.prog X.w) X.A (tryCompare (.ref p) "__ne__" v) (fun r s' => ∃ b, r = some (.bool b) ∧ ∃ H', Inv X pins σ H' s' ∧ Q (.bl b) H') X.xe s := by
    unfold tryCompare
    refine wpAny_bind (GE.ifBound_objNe I.kIn J hne (wpAny_call (codeAny_call_builtin PySem.F.cmp_object.ne.plain PySem.F.cmpEntry_ne (PySem.W.check_slot PySem.F.cmpKind_ne PySem.F.cmpSplit_ne (J.type.andThen (PySem.W.looks_mroIn I.kIn hmo)) (PySem.F.cmpArgs_ne _ _)
      (wpAny_mono body (fun fin s' hf => ?_) fun _ _ e => e)))))
    obtain ⟨r, rfl, H', I', q⟩ := hf
    exact wpAny_pure ⟨_, rfl, H', I', q⟩
  have X1 := I.kIn
  unfold richCompare
  simp only [oneThing_ref]
  refine wpAny_holding (wpAny_bind (wpAny_cRoomFor hr.units0 ?_))
  refine wpAny_bind (J.type.here (wpAny_bind (ht.here ?_)))
  split
  · rename_i q
    have e : PySem.W.subIn X.K tb (.ref C) = some false := by
      rcases Bool.or_eq_true_iff.mp hn with e1 | e1
      · exfalso; rw [beq_iff_eq.mp e1] at q; simp at q
      · exact beq_iff_eq.mp e1
    refine wpAny_bind ((PySem.W.looks_subIn X1 e).here ?_)
    simp only [Bool.false_eq_true, if_false]; refine wpAny_bind (wpAny_mono one (fun r s' z => ?_) fun _ _ e => e)
    obtain ⟨b, rfl, H', I', hq⟩ := z
    exact wpAny_pure ⟨.bl b, H', I', rfl, hq⟩
  · refine wpAny_bind (wpAny_pure ?_); simp only [Bool.false_eq_true, if_false]
    refine wpAny_bind (wpAny_mono one (fun r s' z => ?_) fun _ _ e => e); obtain ⟨b, rfl, H', I', hq⟩ := z
    exact wpAny_pure ⟨.bl b, H', I', rfl, hq⟩
/-- repr(o) -/
def gReprO (C : Addr) (sp : Sp) : List V → Hp → VK → Prop := fun xs H Q => ∃ p dx fs, xs = [.ref p] ∧ H p = some (.ins C dx fs) ∧ sp [.ref p] H (fun v H' => ∃ t, v = .str t ∧ Q (.str t) H') C8.E0
theorem cr_reprO (c : C8.Met X.prog X.w X.K X.mg X.base k C "__repr__" sp []) (hr : Room j X.A) (hk : k + 1 ≤ j) : CallR X (.builtin "repr") (gReprO C sp) := by
  intro pins s σ H xs us Q I r h; obtain ⟨p, dx, fs, rfl, ha, hs⟩ := h
  obtain rfl := Vals.ref1 r
  obtain ⟨f, fd, ps, ds, hc, hm, F, bd, dd⟩ := c.ex
  obtain ⟨mA, O, _⟩ := ins_get I.hok ha; obtain ⟨od, J, _⟩ := O.look
  have sb : Sub X (k + 1) X.A := ⟨hr.mono hk, rfl⟩
  refine Calls.call_function_entry PySem.F.kind_repr PySem.F.plain_repr PySem.F.entry_repr (PySem.F.args_repr1 _) ?_; unfold Builtin.«repr»
  refine wpAny_bind (m := oneArg "repr" _) (wpAny_pure ?_); refine wpAny_bind (wpAny_cRoomFor sb.in1.room.units0 ?_)
  refine wpAny_bind ((J.type.andThen (PySem.W.looks_findIn I.kIn hm.at_)).here ?_)
  show wpAny _ _ (if (some (Value.ref f)).isNone = true then _ else _) _ _ _; rw [if_neg (by simp)]
  refine wpAny_bind (m := callSpecialIfBound? (.ref p) (Str.ofString "__repr__") _) (PySem.W.ifBound_K I.kIn J hm.at_ hm.fn (wpAny_mono (run_sub F sb.in1 bd dd I (vs := [.ref p]) (.cons rfl .nil) (by rw [List.append_nil]; exact hs)) (fun r s' hr => ?_) fun _ _ y => y))
  obtain ⟨z, H', I', rz, t, ez, q⟩ := hr
  subst ez
  obtain ⟨tk, rfl⟩ := rz
  refine wpAny_bind (wpAny_isInstance (typeIs_str _ _ _) isSubtype_str_str ?_); have fin : ∃ v, Fin.done (Flow.ret (Value.str t tk)) = Fin.done (Flow.ret v) ∧ EP X pins σ Q v s' := ⟨_, rfl, V.str t, H', I', ⟨tk, rfl⟩, q⟩
  first
    | exact wpAny_pure fin
    | (rw [if_pos rfl]; exact wpAny_pure fin)
    | (simp only [if_true]; exact wpAny_pure fin)
/-- bool(o), o of a class with neither __bool__ nor __len__ -/
def gBoolO (C : Addr) : List V → Hp → VK → Prop := fun xs H Q => ∃ p dx fs, xs = [.ref p] ∧ H p = some (.ins C dx fs) ∧ Q (.bl true) H
theorem cg_boolO (hb : PySem.W.findIn X.K (.ref C) "__bool__" = some none) (hl : PySem.W.findIn X.K (.ref C) "__len__" = some none) : CallR X (.type "bool") (gBoolO C) := by
  intro pins s σ H xs us Q I r h; obtain ⟨p, dx, fs, rfl, ha, q⟩ := h
  obtain rfl := Vals.ref1 r
  obtain ⟨mA, O, _⟩ := ins_get I.hok ha; obtain ⟨od, J, _⟩ := O.look
  have KI := I.kIn
  refine call_bool_1 (GE.meets_bool_any (.ref p) true) ⟨fun M A E Q' hq => ?_, rfl, .bl true, H, I, rfl, q⟩
  unfold truthy callSpecial?
  refine wpAny_bind (wpAny_bind ((J.type.andThen (PySem.W.looks_findIn KI hb)).here (wpAny_pure ?_)))
  show wpAny M A (specialOf (.ref p) "__len__" >>= _) Q' E s
  refine wpAny_bind ((J.type.andThen (PySem.W.looks_findIn KI hl)).here ?_)
  exact wpAny_pure hq
/-! ### C(k=e), where C's __init__ takes *rest -/
def FnK1 (P : Program) (w : World) (K : PySem.W.Frag) (mg : Str → Option Value) (base : Heap) (CX : CXT) (k : Nat) (f : Addr) (kn : Str) (sp : Sp) : Prop :=
  ∀ (A : Around) (outer : List Env) (s : Shared) (H : Hp) (u0 u1 : Value) (v0 v1 : V) (Q : VK) (E : XK), Room k A → Env0 P w K mg base A outer s H → RelV v0 u0 → RelV v1 u1 → sp [v0, v1] H Q E →
    codeAny (model P w) A (.call (.ref f) ⟨[u0], [(kn, u1)]⟩) (CR CX outer P w H s Q E) s
end
section
variable {CX : CXT} {P : Program} {w : World} {K : PySem.W.Frag} {mg : Str → Option Value} {base : Heap} {f : Addr} {name qual : Str} {params : Arguments} {body : List Stmt} {scope : Scope} {dV kV doc pm cdv ct oc : Value} {an od : Option Addr}
  {osl : Array (Option Value)} {N : List Str} {sp sp' : Sp} {self kn pv : Str}
theorem FnK1.imp (F : FnK1 P w K mg base CX k f kn sp) (h : ∀ vs H Q E, sp' vs H Q E → sp vs H Q E) : FnK1 P w K mg base CX k f kn sp' := fun A outer s H u0 u1 v0 v1 Q E hr e0 r0 r1 hs => F A outer s H u0 u1 v0 v1 Q E hr e0 r0 r1 (h _ _ _ _ hs)
theorem fn_starK1 (lk : K.lookup f = some ⟨oc, od, .func (PySem.W.fnOf name qual params body scope dV kV doc pm an cdv ct), osl⟩) (hcd : PySem.W.codeIn K cdv qual = true) (S : FnScope N ([self, kn] ++ [pv]) scope) (hCX : StX.CXUp CX)
    (hb : ∀ a b : Value, bindArgs (PySem.W.fnOf name qual params body scope dV kV doc pm an cdv ct) ⟨[a], [(kn, b)]⟩ = (newTuple [] >>= fun t => pure [(self, a), (kn, b), (pv, t)]))
    (hbd : ∀ (A : Around) (outer : List Env) (s : Shared) (H : Hp) (vs : List V) (Q : VK) (E : XK), Room k (A.deeper (envOfC qual scope s.heap.objs.size f cdv)) → sp vs H Q E → ∃ t, PSs (cxOf CX P w K mg base N qual scope f cdv A outer s H E) body t ∧
      t { nx := fun _ H' => Q .non H', rt := Q } (start N vs) H) :
    FnK1 P w K mg base CX (k + 1) f kn (fun vs H Q E => ∃ ws rest, vs = ws ++ rest ∧ ws.length = 2 ∧ rest.length ≤ sizeLine ∧ ∀ p, H p = Option.none → sp (ws ++ [V.ref p]) (upd H p (.tup rest)) Q E) := by
  intro A outer s H u0 u1 v0 v1 Q E hr e0 r0 r1 hsp
  obtain ⟨ws, rest, ev, hl, hz, hq⟩ := hsp; have hn : H s.heap.objs.size = Option.none := e0.hok.fresh (Nat.le_refl _)
  have hw : ws = [v0, v1] ∧ rest = [] := by
    match ws, hl, ev with
    | [a, b], _, ev => have e2 := List.cons.inj ev; have e3 := List.cons.inj e2.2; exact ⟨by rw [e2.1, e3.1], e3.2.symm⟩
  obtain ⟨rfl, rfl⟩ := hw
  refine StX.run_bnd lk hcd S hr e0 (G := fun xs H2 => ∃ p, H p = Option.none ∧ xs = [v0, v1] ++ [V.ref p] ∧ H2 = upd H p (.tup [])) (fun A' Ex Q' h => ?_) fun s2 H2 xs ⟨p, hp, ex, eH⟩ hr' => ?_
  · rw [hb u0 u1]
    refine wpAny_bind (wpAny_newTuple (wpAny_pure ?_) hz)
    have new : ObjOk P w (upd H s.heap.objs.size (.tup [])) (s.heap.push ({ cls := .type "tuple", data := .seq ([] : List Value).toArray } : Obj)) s.heap.objs.size (.tup []) := ⟨hz, [], .nil, ⟨_, Heap.get?_push_size _ rfl, rfl, _, rfl⟩⟩
    have un := StX.un_laid (fs := frs outer) (s := s) (o := ({ cls := .type "tuple", data := .seq ([] : List Value).toArray } : Obj)) (u := .tup []) hn
    exact h _ _ [v0, v1, V.ref s.heap.objs.size] [u0, u1, Value.ref s.heap.objs.size] (StX.env0_laid e0 new) un rfl (fun e s' => hCX outer s H _ _ E e s' un (fun b o q => Heap.get?_push_of_some _ q) rfl) (.cons r0 (.cons r1 (.cons rfl .nil))) rfl ⟨_, hn, rfl, rfl⟩
  · subst ex eH
    exact hbd A outer s2 _ _ Q E hr' (hq _ hp)
end
structure MakK1 (P : Program) (w : World) (K : PySem.W.Frag) (mg : Str → Option Value) (base : Heap) (k : Nat) (x : Str) (C : Addr) (kn : Str) (sp : Sp) : Prop where
  ex : ∃ f : Addr, Mk K C f ∧ FnK1 P w K mg base C8.CX0 k f kn sp ∧ mg x = some (.ref C)
def tMakeK1 (C : Addr) (sp : Sp) (E : XK) (tk : TA) : TE := fun σ H Q => tk σ H fun zs H2 => ∃ z, zs = [z] ∧ ∀ x dx, H2 x = none → H2 dx = none → dx ≠ x → sp [.ref x, z] (upd (upd H2 dx (.own x)) x (.ins C dx [])) (fun v H3 => v = .non ∧ Q (.ref x) H3) E
theorem pe_mkK1 {C : Addr} {sp : Sp} {x kn : Str} {p pos : Pos} {kws : List Keyword} {tk : TA} (c : MakK1 X.prog X.w X.K X.mg X.base k x C kn sp) (hr : Room j X.A) (hk : k + 1 ≤ j) (hg : Gl X x) (hkw : PK X kws tk)
    (hall : (backToKw pos (keywordEach kws X.env)).all (·.1.isSome) = true := by rfl) (hks : (backToKw pos (keywordEach kws X.env)).filterMap (·.1) = [kn] := by rfl) (hdb : (x == ("__debug__" : Str)) = false := by decide) (hpl : ((backTo pos (starEach [] X.env)).any (·.1) || (backToKw pos (keywordEach kws X.env)).any (·.1.isNone)) = false := by rfl) :
    PE X (.Call (.Name x p) [] kws pos) (tMakeK1 C sp C8.E0 tk) := by
  obtain ⟨f, M, F, hm⟩ := c.ex
  refine ⟨fun pins s σ H Q I h => ?_⟩; refine wpAny_Call_Name_kw (ld_glob I hg hm ?_ hdb)
  refine PySem.W.callWith_KW0 (h₀ := X.base) I.ok.mod.kin M.kp hall ?_ hpl; refine thn (hkw.run pos pins s σ H _ I h) fun ws s2 ⟨zs, H2, I2, rz, z, ez, h2⟩ => ⟨I2.kIn, ?_⟩
  rw [hks]
  subst ez
  obtain ⟨u, rfl, ru⟩ := vals1 rz
  have hq := h2 (s2.heap.objs.size + 1) s2.heap.objs.size (I2.hok.fresh (Nat.le_succ _)) (I2.hok.fresh (Nat.le_refl _)) (Nat.ne_of_lt (Nat.lt_succ_self _))
  have I3 := Inv.made (C := C) I2
  refine wpAny_call (make_map (f := f) I2.kIn M.makes M.init (beq_iff_eq.mp M.fn) (codeAny_mono (F _ X.stack _ _ (Value.ref (s2.heap.objs.size + 1)) u (.ref (s2.heap.objs.size + 1)) z _ C8.E0 ((hr.mono hk).make C [] [(kn, u)])
    (I3.env0.make C [] [(kn, u)]) rfl ru hq) fun r s' hq' => ?_))
  cases r with
  | error e => exact (C8.pass0 : Passes C8.CX0 X C8.E0) pins σ _ _ e s' I3 hq'
  | ok fl =>
    cases fl with
    | ret w =>
      obtain ⟨v, H', I4, rv, ev, q3⟩ := I3.after hq'
      subst ev
      exact ⟨rv, ⟨V.ref (s2.heap.objs.size + 1), H', I4, rfl, q3⟩⟩
    | next => exact hq'.elim
    | brk => exact hq'.elim
    | cont => exact hq'.elim
end

/-! Names: short texts of letters that are no words. -/

local macro_rules | `(tactic| walk_at "kt") => `(tactic| first
  | exact kt_NoneType_bool
  | exact kt_NoneType_int
  | exact kt_NoneType_str
  | exact kt_NoneType_list
  | exact kt_NoneType_tuple
  | exact kt_bool_bool
  | exact kt_bool_int
  | exact kt_bool_str
  | exact kt_bool_list
  | exact kt_bool_tuple
  | exact kt_int_bool
  | exact kt_int_int
  | exact kt_int_str
  | exact kt_int_list
  | exact kt_int_tuple
  | exact kt_str_bool
  | exact kt_str_int
  | exact kt_str_str
  | exact kt_str_list
  | exact kt_str_tuple
  | exact kt_list_bool
  | exact kt_list_int
  | exact kt_list_str
  | exact kt_list_list
  | exact kt_list_tuple
  | exact kt_tuple_bool
  | exact kt_tuple_int
  | exact kt_tuple_str
  | exact kt_tuple_list
  | exact kt_tuple_tuple)
local macro_rules | `(tactic| walk_at "dp") => `(tactic| first
  | exact Dp.non | exact Dp.bl _ | exact Dp.int _ | exact Dp.str _ | assumption | exact Dp.ex (Stt.ex (by assumption)) _ _ (by assumption))
local macro_rules | `(tactic| walk_at "isi") => `(tactic| ((with_reducible refine' rd_isi ?h ?k ?_); (case h => walk_at "dp"); (case k => walk_at "kt")))
local macro_rules | `(tactic| walk_at "gk") => `(tactic| repeat (first | walk_at "go1" | walk_at "isi" | walk_at "dec"))
local macro_rules | `(tactic| walk_at "dc") => `(tactic| first
  | ((with_reducible refine rd_dec (fun e => ?aa) (fun e => ?bb)); (case aa => first | (exfalso; revert e; decide) | (exfalso; cases e; done) | exact absurd rfl e))
  | ((with_reducible refine rd_dec (fun e => ?aa) (fun e => ?bb)); (case bb => first | (exfalso; revert e; decide) | (exfalso; cases e; done) | exact absurd rfl e))
  | ((with_reducible refine rd_decN (fun e => ?aa) (fun e => ?bb)); (case aa => first | (exfalso; revert e; decide) | (exfalso; cases e; done) | exact absurd rfl e))
  | ((with_reducible refine rd_decN (fun e => ?aa) (fun e => ?bb)); (case bb => first | (exfalso; revert e; decide) | (exfalso; cases e; done) | exact absurd rfl e)))
local macro_rules | `(tactic| walk_at "gc") => `(tactic| (repeat (first | walk_at "go1" | walk_at "isi" | walk_at "dc")); (try dsimp only))

def letters : Str := "abcdefghijklmnopqrstuvwxyz"
def v_LETTERS : V := .str "abcdefghijklmnopqrstuvwxyz"
def v_MOST_LETTERS : V := .int 8
def c_WORDS : List Str := ["all", "and", "any", "for", "if", "lacks", "none", "not", "or", "where", "with"]
def v_WORDS (K : PySem.W.Frag) : V := match PySem.W.nsIn K mainGlobals "WORDS" with
  | some (some (.ref a)) => .ref a
  | _ => .non
/-- the words stand on the heap -/
class Consts (K : PySem.W.Frag) : Prop where
  words : ∃ a, v_WORDS K = .ref a ∧ ∀ H, SqT K H a (c_WORDS.map V.str)
def nameS (z : Str) : Bool := decide ((1 : Int) ≤ z.length) && (decide ((z.length : Int) ≤ 8) && (!inV (.str z) (c_WORDS.map V.str) && z.cps.toList.all fun c => decide (c ∈ letters.cps.toList)))
def isName : PyData → Bool
  | .str z => nameS z
  | _ => false
/-- a text is not too long -/
def shortS : PyData → Prop
  | .str z => z.length < 100000
  | _ => True
def sp_is_name (K : PySem.W.Frag) : Sp := fun vs H Q _ => ∃ (x : V) (d : PyData) (G : Hp) (L : List (Addr × HO)), vs = [x] ∧ Stt G H L ∧ Dp K G x d ∧ shortS d ∧ (∀ H', Stt G H' L → Q (.bl (isName d)) H')
def t_is_name_1 (K : PySem.W.Frag) : TS :=
  (tRet (tCB (rAll K) (tCons (tLc (iStr (tVar 0)) (gName 1) tYes (tOp (gIn K) (tVar 1) (tC v_LETTERS)) [1]) tNil)))
def t_is_name (K : PySem.W.Frag) : TS :=
  (tSeq (tIfS (tOr (tNot (tB (tCB (gIsi K) (tCons (tVar 0) (tCons (tC (.ty "str")) tNil))))) (tOr (tNot (tTest (tChain (rI0 fun i j => .bl (decide (i ≤ j))) (rI0 fun i j => .bl (decide (i ≤ j))) (tC (.int 1)) (tCB (gLen K) (tCons (tVar 0) tNil)) (tC v_MOST_LETTERS)))) (tTest (tOp (gIn K) (tVar 0) (tC (v_WORDS K)))))) (tRet (tC (.bl false))) tNext)
  (t_is_name_1 K))
theorem rd_chain {r r' : R2} {ta tb tc : TE} {σ : L2.St} {H : Hp} {Q : VK} (q : ta σ H fun x H1 => tb σ H1 fun y H2 => r x y H2 fun z H3 => ∃ k, z = .bl k ∧ (if k = true then tc σ H3 fun w H4 => r' y w H4 Q else Q (.bl false) H3)) : tChain r r' ta tb tc σ H Q := q
theorem rd_inT {K : PySem.W.Frag} {x : V} {a : Addr} {xs : List V} {H : Hp} {Q : VK} (h : SqT K H a xs) (f : flatV x = true) (fs : xs.all flatV = true) (q : Q (.bl (inV x xs)) H) : gIn K x (.ref a) H Q := .inr ⟨a, xs, rfl, .inr h, f, fs, q⟩
theorem rd_inS {K : PySem.W.Frag} {c : Nat} {z : Str} {H : Hp} {Q : VK} (q : Q (.bl (decide (c ∈ z.cps.toList))) H) : gIn K (.str ⟨#[c]⟩) (.str z) H Q := .inl ⟨c, z, rfl, rfl, q⟩
theorem read_is_name {K : PySem.W.Frag} [CK : Consts K] {x : V} {d : PyData} {G H : Hp} {L : List (Addr × HO)} {D : Ends} {a1 : Option V} (S : Stt G H L) (hx : Dp K G x d) (hz : shortS d) (q : ∀ H', Stt G H' L → D.rt (.bl (isName d)) H') : t_is_name K D [some x, a1] H := by
  unfold t_is_name
  cases d with
  | dict _ => cases hx
  | str z =>
    cases hx
    have hz' : z.length < 100000 := hz
    have hz2 : z.length ≤ sizeLine := sz_of (by omega)
    obtain ⟨W, hW, hWs⟩ := CK.words
    rw [hW]
    walk_at "gc"
    refine rd_chain ?_
    walk_at "gc"
    refine rd_lenS hz2 ?_
    walk_at "gc"
    have hq : ∀ H', Stt G H' L → D.rt (.bl (nameS z)) H' := q
    unfold nameS at hq
    refine rd_dec (fun e1 => ?_) (fun e1 => ?_)
    · rw [decide_eq_true e1] at hq
      unfold v_MOST_LETTERS
      walk_at "gc"
      refine rd_decN (fun e2 => ?_) (fun e2 => ?_)
      · rw [decide_eq_true e2] at hq
        walk_at "gc"
        refine rd_inT (hWs _) rfl rfl ?_
        walk_at "gc"
        cases hin : inV (.str z) (c_WORDS.map V.str) with
        | true =>
          rw [hin] at hq
          walk_at "gc"
          exact hq H S
        | false =>
          rw [hin] at hq
          walk_at "gc"
          unfold t_is_name_1 v_LETTERS
          walk_at "gc"
          refine rd_lc (rd_is ?_)
          walk_at "gc"
          refine ⟨z, rfl, ?_⟩
          refine lc_go stt_world (walk_str (z := z)) S (show z.cps.size < 1000000 from by have : z.cps.size = z.length := rfl; omega) (fun i v _ => ∃ c, z.cps[i]? = some c ∧ v = .str ⟨#[c]⟩) (fun i acc _ => acc = ((z.cps.toList.take i).map fun c => decide (c ∈ letters.cps.toList)).map V.bl)
            (fun _ _ => True.intro) (fun i x G1 H1 H2 L1 _ e1 S1 y => by
              obtain ⟨rfl, h⟩ := y
              exact ⟨G1, Ex.refl _, S1, h⟩) rfl (fun _ _ _ _ _ h => h) ?_ ?_
          · intro D1 i x acc G1 H1 hi _ e1 S1 I1 it Kp Sk kp sk
            obtain ⟨c, hc, rfl⟩ := it
            refine rd_name ⟨rfl, rd_yes (rd_iT ?_)⟩
            walk_at "gc"
            refine rd_inS ?_
            refine kp _ G1 H1 (Ex.refl _) S1 ?_
            rw [I1, List.take_add_one, show z.cps.toList[i]? = some c by rw [← hc]; simp, List.map_append, List.map_append]
            rfl
          · intro D1 acc G2 H2 e2 S2 I2 _
            rw [show z.cps.size = z.cps.toList.length from (Array.length_toList ..).symm, List.take_length] at I2
            subst I2
            walk_at "gc"
            refine rd_all (sq_of (S2.at 0 rfl)) ?_
            rw [List.all_map]
            exact hq H2 (S2.drop.less e2)
      · rw [decide_eq_false e2] at hq
        walk_at "gc"
        exact hq H S
    · rw [decide_eq_false e1] at hq
      walk_at "gc"
      exact hq H S
  | _ =>
    have hx' := Dp.ex S.ex _ _ hx
    walk_at "gc"
    exact q H S
theorem sat_is_name {K : PySem.W.Frag} [CK : Consts K] {vs : List V} {H : Hp} {Q : VK} {E : XK} (h : sp_is_name K vs H Q E) : vs.length = 1 ∧ t_is_name K { nx := fun _ H' => Q .non H', rt := Q } (vs.map some ++ List.replicate (2 - vs.length) none) H := by
  obtain ⟨x, d, G, L, rfl, S, hx, hz, q⟩ := h
  exact ⟨rfl, read_is_name S hx hz q⟩

/-! Texts of letters. -/
abbrev cps (z : Str) : List Nat := z.cps.toList
def alls (z : Str) : Prop := ∀ c, c ∈ cps z → c ∈ cps letters
theorem cps_add (a b : Str) : cps (a ++ b) = cps a ++ cps b := TL.tl_append a b
theorem len_add (a b : Str) : (a ++ b).length = a.length + b.length := by
  have h := congrArg List.length (cps_add a b)
  rw [List.length_append] at h
  simpa [cps, Str.length] using h
theorem alls_add {a b : Str} (ha : alls a) (hb : alls b) : alls (a ++ b) := fun c hc => by
  rw [cps_add] at hc
  exact (List.mem_append.mp hc).elim (ha c) (hb c)
theorem alls_one {c : Nat} (h : c ∈ cps letters) : alls ⟨#[c]⟩ := fun d hd => by
  rw [List.mem_singleton.mp (show d ∈ [c] from hd)]
  exact h
theorem alls_cut {a : Str} (ha : alls a) (lo hi : Option Int) : alls (cutS a lo hi) := fun c hc => by
  unfold cutS at hc
  exact ha c (List.mem_of_mem_drop (List.mem_of_mem_take (by simpa [cps] using hc)))
def dueS (z : Str) : Bool := decide ((1 : Int) ≤ z.length) && (decide ((z.length : Int) ≤ 8) && !inV (.str z) (c_WORDS.map V.str))
theorem name_due {z : Str} (h : alls z) : nameS z = dueS z := by
  unfold nameS dueS
  rw [show (z.cps.toList.all fun c => decide (c ∈ letters.cps.toList)) = true from List.all_eq_true.mpr fun c hc => decide_eq_true (h c hc), Bool.and_true]
theorem name_bad {z : Str} {c : Nat} (h : c ∈ cps z) (n : c ∉ cps letters) : nameS z = false := by
  unfold nameS
  rw [show (z.cps.toList.all fun c => decide (c ∈ letters.cps.toList)) = false from List.all_eq_false.mpr ⟨c, h, by rw [decide_eq_false n]; decide⟩]
  simp
theorem alls_words : ∀ w, w ∈ c_WORDS → alls w := by
  have h : ∀ w ∈ c_WORDS, ∀ c ∈ cps w, c ∈ cps letters := by decide +kernel
  exact h
theorem len_words : ∀ w, w ∈ c_WORDS → w.length < 10 ∧ 0 < w.length := by decide +kernel
theorem name_words : ∀ w, w ∈ c_WORDS → nameS w = false := by decide +kernel

/-! Schemas as plain data: levels, their texts, the words of a text, what the law holds of them. -/
mutual
inductive Lev where
  | mk (fs : List Str) (ls : LevL)
inductive LevL where
  | nil
  | cons (n : Str) (l : Lev) (r : LevL)
end
abbrev Lev.fs : Lev → List Str | .mk fs _ => fs
abbrev Lev.ls : Lev → LevL | .mk _ ls => ls
def LevL.names : LevL → List Str
  | .nil => []
  | .cons n _ r => n :: r.names
def LevL.levs : LevL → List Lev
  | .nil => []
  | .cons _ l r => l :: r.levs
mutual
def Lev.depth : Lev → Nat
  | .mk _ ls => 1 + ls.depth
def LevL.depth : LevL → Nat
  | .nil => 0
  | .cons _ l r => max l.depth r.depth
end
mutual
/-- the text, sign by sign -/
def Lev.tx : Lev → List Nat
  | .mk fs ls => TL.joinL [32] (fs.map cps ++ ls.tws)
def LevL.tws : LevL → List (List Nat)
  | .nil => []
  | .cons n l r => (cps n ++ (40 :: (l.tx ++ [41]))) :: r.tws
end
mutual
/-- what the law holds of a level -/
def Lev.dat : Lev → PyData
  | .mk fs ls => .list [.list (fs.map PyData.str), .list ls.dats]
def LevL.dats : LevL → List PyData
  | .nil => []
  | .cons n l r => .tuple [.str n, l.dat] :: r.dats
end
/-- a name that is drawn or written -/
def NameOk (z : Str) : Prop := nameS z = true ∧ (∀ c, c ∈ cps z → c ≠ 32 ∧ c ≠ 40 ∧ c ≠ 41 ∧ c ≠ 91 ∧ c ≠ 93)
mutual
def Lev.good : Lev → Prop
  | .mk fs ls => 0 < fs.length ∧ fs.length ≤ 3 ∧ (∀ n, n ∈ fs → NameOk n) ∧ (fs ++ ls.names).Nodup ∧ ls.names.length ≤ 2 ∧ ls.good
def LevL.good : LevL → Prop
  | .nil => True
  | .cons n l r => NameOk n ∧ l.good ∧ r.good
end
theorem LevL.len_levs : ∀ r : LevL, r.levs.length = r.names.length
  | .nil => rfl
  | .cons _ _ r => by rw [LevL.levs, LevL.names, List.length_cons, List.length_cons, LevL.len_levs r]
theorem LevL.len_tws : ∀ r : LevL, r.tws.length = r.names.length
  | .nil => by simp [LevL.tws, LevL.names]
  | .cons _ _ r => by rw [LevL.tws, LevL.names, List.length_cons, List.length_cons, LevL.len_tws r]
theorem LevL.len_dats : ∀ r : LevL, r.dats.length = r.names.length
  | .nil => by simp [LevL.dats, LevL.names]
  | .cons _ _ r => by rw [LevL.dats, LevL.names, List.length_cons, List.length_cons, LevL.len_dats r]
/-! ### the words of a text -/
structure Scan where
  found : List (List Nat)
  word : List Nat
  deep : Int
def scanDeep (d : Int) (c : Nat) : Int := if c = 40 ∨ c = 91 then d + 1 else if c = 41 ∨ c = 93 then d - 1 else d
def scan1 (s : Scan) (c : Nat) : Scan := if c = 32 ∧ scanDeep s.deep c = 0 then ⟨s.found ++ [s.word], [], scanDeep s.deep c⟩ else ⟨s.found, s.word ++ [c], scanDeep s.deep c⟩
def scanned (t : List Nat) : Scan := t.foldl scan1 ⟨[], [], 0⟩
def topW (t : List Nat) : List (List Nat) := if t = [] then [] else (scanned t).found ++ [(scanned t).word]
/-- within brackets: nothing is split, the depth comes back -/
def Flat (t : List Nat) : Prop := ∀ f w d, 1 ≤ d → t.foldl scan1 ⟨f, w, d⟩ = ⟨f, w ++ t, d⟩
/-- outside: the same -/
def Word (t : List Nat) : Prop := ∀ f w, t.foldl scan1 ⟨f, w, 0⟩ = ⟨f, w ++ t, 0⟩
theorem flat_nil : Flat [] := fun f w d _ => by rw [List.append_nil]; rfl
theorem Flat.app {a b : List Nat} (ha : Flat a) (hb : Flat b) : Flat (a ++ b) := fun f w d h => by rw [List.foldl_append, ha f w d h, hb f _ d h, List.append_assoc]
theorem Word.app {a b : List Nat} (ha : Word a) (hb : Word b) : Word (a ++ b) := fun f w => by rw [List.foldl_append, ha f w, hb f _, List.append_assoc]
def plainC (c : Nat) : Prop := c ≠ 32 ∧ c ≠ 40 ∧ c ≠ 41 ∧ c ≠ 91 ∧ c ≠ 93
theorem scan_plain {c : Nat} (h : plainC c) (f : List (List Nat)) (w : List Nat) (d : Int) : scan1 ⟨f, w, d⟩ c = ⟨f, w ++ [c], d⟩ := by
  obtain ⟨h1, h2, h3, h4, h5⟩ := h
  unfold scan1 scanDeep
  simp [h1, h2, h3, h4, h5]
theorem scan_name : ∀ (t : List Nat), (∀ c, c ∈ t → plainC c) → ∀ f w d, t.foldl scan1 ⟨f, w, d⟩ = ⟨f, w ++ t, d⟩
  | [], _, f, w, d => by rw [List.append_nil]; rfl
  | c :: t, h, f, w, d => by
    rw [List.foldl_cons, scan_plain (h c (List.mem_cons_self ..)), scan_name t (fun x hx => h x (List.mem_cons_of_mem _ hx)), List.append_assoc]
    rfl
theorem flat_name {t : List Nat} (h : ∀ c, c ∈ t → plainC c) : Flat t := fun f w d _ => scan_name t h f w d
theorem word_name {t : List Nat} (h : ∀ c, c ∈ t → plainC c) : Word t := fun f w => scan_name t h f w 0
theorem flat_space : Flat [32] := fun f w d h => by
  show scan1 ⟨f, w, d⟩ 32 = _
  unfold scan1 scanDeep
  have : d ≠ 0 := by omega
  simp [this]
theorem flat_in {t : List Nat} (h : Flat t) : Flat (40 :: (t ++ [41])) := fun f w d hd => by
  rw [List.foldl_cons, List.foldl_append]
  have e1 : scan1 ⟨f, w, d⟩ 40 = ⟨f, w ++ [40], d + 1⟩ := by unfold scan1 scanDeep; simp
  have e2 : ∀ v, scan1 ⟨f, v, d + 1⟩ 41 = ⟨f, v ++ [41], d⟩ := fun v => by unfold scan1 scanDeep; simp
  rw [e1, h _ _ _ (by omega), List.foldl_cons, List.foldl_nil, e2]
  simp
theorem word_in {t : List Nat} (h : Flat t) : Word (40 :: (t ++ [41])) := fun f w => by
  rw [List.foldl_cons, List.foldl_append]
  have e1 : scan1 ⟨f, w, 0⟩ 40 = ⟨f, w ++ [40], 1⟩ := by unfold scan1 scanDeep; simp
  have e2 : ∀ v, scan1 ⟨f, v, 1⟩ 41 = ⟨f, v ++ [41], 0⟩ := fun v => by unfold scan1 scanDeep; simp
  rw [e1, h _ _ _ (by omega), List.foldl_cons, List.foldl_nil, e2]
  simp
theorem flat_join : ∀ ws : List (List Nat), (∀ w, w ∈ ws → Flat w) → Flat (TL.joinL [32] ws)
  | [], _ => flat_nil
  | [w], h => h w (List.mem_cons_self ..)
  | w :: v :: ws, h => by
    show Flat (w ++ ([32] ++ TL.joinL [32] (v :: ws)))
    exact (h w (List.mem_cons_self ..)).app (flat_space.app (flat_join (v :: ws) fun x hx => h x (List.mem_cons_of_mem _ hx)))
theorem scan_join : ∀ (ws : List (List Nat)) (f : List (List Nat)), ws ≠ [] → (∀ w, w ∈ ws → Word w) → ∃ i l, ws = i ++ [l] ∧ (TL.joinL [32] ws).foldl scan1 ⟨f, [], 0⟩ = ⟨f ++ i, l, 0⟩
  | [], _, h, _ => (h rfl).elim
  | [w], f, _, h => ⟨[], w, rfl, by
    show w.foldl scan1 ⟨f, [], 0⟩ = _
    rw [h w (List.mem_cons_self ..), List.append_nil]
    rfl⟩
  | w :: v :: ws, f, _, h => by
    obtain ⟨i, l, e, r⟩ := scan_join (v :: ws) (f ++ [w]) (List.cons_ne_nil _ _) fun x hx => h x (List.mem_cons_of_mem _ hx)
    refine ⟨w :: i, l, by rw [e]; rfl, ?_⟩
    show (w ++ ([32] ++ TL.joinL [32] (v :: ws))).foldl scan1 ⟨f, [], 0⟩ = _
    rw [List.foldl_append, h w (List.mem_cons_self ..), List.foldl_append]
    have e1 : [32].foldl scan1 ⟨f, [] ++ w, 0⟩ = ⟨f ++ [w], [], 0⟩ := by
      show scan1 ⟨f, [] ++ w, 0⟩ 32 = _
      unfold scan1 scanDeep
      simp
    rw [e1, r, List.append_assoc]
    rfl
theorem joinL_ne : ∀ ws : List (List Nat), ws ≠ [] → (∀ w, w ∈ ws → w ≠ []) → TL.joinL [32] ws ≠ []
  | [], h, _ => (h rfl).elim
  | [w], _, h => h w (List.mem_cons_self ..)
  | w :: v :: ws, _, _ => fun z => by
    have z : w ++ ([32] ++ TL.joinL [32] (v :: ws)) = [] := z
    simp at z
/-- the words of a text of words -/
theorem topW_join {ws : List (List Nat)} (ne : ws ≠ []) (h : ∀ w, w ∈ ws → Word w) (h2 : ∀ w, w ∈ ws → w ≠ []) : topW (TL.joinL [32] ws) = ws := by
  unfold topW scanned
  rw [if_neg (joinL_ne ws ne h2)]
  obtain ⟨i, l, e, r⟩ := scan_join ws [] ne h
  rw [r, e]
  rfl
theorem name_plain {z : Str} (h : NameOk z) : ∀ c, c ∈ cps z → plainC c := h.2
theorem nameOk_len {z : Str} (h : NameOk z) : 0 < z.length ∧ z.length ≤ 8 := by
  have h1 := h.1
  unfold nameS at h1
  simp only [Bool.and_eq_true, decide_eq_true_eq] at h1; omega
theorem nameOk_ne {z : Str} (h : NameOk z) : cps z ≠ [] := fun e => by
  have h1 : (cps z).length = z.length := Array.length_toList ..
  rw [e] at h1
  have := (nameOk_len h).1
  simp at h1
  omega
mutual
theorem Lev.flat : ∀ l : Lev, l.good → Flat l.tx
  | .mk fs ls, h => by
    rw [Lev.tx]
    refine flat_join _ fun w hw => ?_
    rw [Lev.good] at h
    rcases List.mem_append.mp hw with hw | hw
    · obtain ⟨n, hn, rfl⟩ := List.mem_map.mp hw
      exact flat_name (name_plain (h.2.2.1 n hn))
    · exact LevL.flats ls h.2.2.2.2.2 w hw
theorem LevL.flats : ∀ r : LevL, r.good → ∀ w, w ∈ r.tws → Flat w
  | .nil, _, w, hw => by rw [LevL.tws] at hw; cases hw
  | .cons n l r, h, w, hw => by
    rw [LevL.good] at h
    rw [LevL.tws] at hw
    rcases List.mem_cons.mp hw with rfl | hw
    · exact (flat_name (name_plain h.1)).app (flat_in (Lev.flat l h.2.1))
    · exact LevL.flats r h.2.2 w hw
end
theorem LevL.words : ∀ r : LevL, r.good → ∀ w, w ∈ r.tws → Word w ∧ w ≠ []
  | .nil, _, w, hw => by rw [LevL.tws] at hw; cases hw
  | .cons n l r, h, w, hw => by
    rw [LevL.good] at h
    rw [LevL.tws] at hw
    rcases List.mem_cons.mp hw with rfl | hw
    · exact ⟨(word_name (name_plain h.1)).app (word_in (Lev.flat l h.2.1)), by simp⟩
    · exact LevL.words r h.2.2 w hw
theorem Lev.topW : ∀ l : Lev, l.good → EE.topW l.tx = l.fs.map cps ++ l.ls.tws
  | .mk fs ls, h => by
    rw [Lev.tx]
    rw [Lev.good] at h
    have all : ∀ w, w ∈ fs.map cps ++ ls.tws → Word w ∧ w ≠ [] := fun w hw => by
      rcases List.mem_append.mp hw with hw | hw
      · obtain ⟨n, hn, rfl⟩ := List.mem_map.mp hw
        exact ⟨word_name (name_plain (h.2.2.1 n hn)), nameOk_ne (h.2.2.1 n hn)⟩
      · exact LevL.words ls h.2.2.2.2.2 w hw
    refine topW_join (fun z => ?_) (fun w hw => (all w hw).1) fun w hw => (all w hw).2
    have h1 : fs.map cps = [] := (List.append_eq_nil_iff.mp z).1
    have h2 : fs = [] := List.map_eq_nil_iff.mp h1
    have h0 := h.1
    rw [h2] at h0
    exact Nat.lt_irrefl _ h0
/-- with a bracket, without -/
theorem tws_open : ∀ r : LevL, ∀ w, w ∈ r.tws → 40 ∈ w
  | .nil, w, hw => by rw [LevL.tws] at hw; cases hw
  | .cons n l r, w, hw => by
    rw [LevL.tws] at hw
    rcases List.mem_cons.mp hw with rfl | hw
    · exact List.mem_append_right _ (List.mem_cons_self ..)
    · exact tws_open r w hw
theorem Lev.depth_pos : ∀ l : Lev, 0 < l.depth
  | .mk _ _ => by rw [Lev.depth]; omega

/-! The class Schema, read. -/


section
variable {K : PySem.W.Frag} {σ : L2.St} {H : Hp} {Q : VK} {D : Ends} {x y : V} {te : TE} {ta : TA} {i j l : Nat}
theorem rd_aug {ti : TIp} (h : σ[i]? = some (some x)) (q : te σ H fun y H1 => ti x y H1 fun z H2 => D.nx (σ.set i (some z)) H2) : tAug i te ti D σ H := ⟨x, h, q⟩
theorem rd_ipI {f : Int → Int → Int} {a b : Int} (q : Q (.int (f a b)) H) : ipI f (.int a) (.int b) H Q := ⟨a, b, rfl, rfl, q⟩
theorem rd_ipS {a b : Str} (h : a.length + b.length ≤ sizeLine) (q : Q (.str (a ++ b)) H) : rAddS (.str a) (.str b) H Q := ⟨a, b, rfl, rfl, h, q⟩
theorem rd_parB {k : Nat} (q : ta σ H fun vs H1 => ∃ u v w, vs = [u, v, w] ∧ D.nx (((σ.set i (some u)).set j (some v)).set k (some w)) H1) : tPar3 i j k ta D σ H := q
theorem rd_gtupleL {a : Addr} {xs : List V} (h : SqL K H a xs) (q : ∀ l, H l = none → Q (.ref l) (upd H l (.tup xs))) : gTuple K [.ref a] H Q := ⟨a, xs, rfl, .inl ⟨h, q⟩⟩
theorem rd_gtupleT {a : Addr} {xs : List V} (h : SqT K H a xs) (q : Q (.ref a) H) : gTuple K [.ref a] H Q := ⟨a, xs, rfl, .inr ⟨h, q⟩⟩
theorem rd_gtup3 {z : V} {i j k : Nat} {T : Addr} {N : L2.St → Hp → Prop} (h : SqT K H T [x, y, z]) (q : N (((σ.set i (some x)).set j (some y)).set k (some z)) H) : gTup K 3 (gCons (gName i) (gCons (gName j) (gCons (gName k) gNil))) (.ref T) σ H N :=
  ⟨T, [x, y, z], rfl, h, rfl, x, [y, z], rfl, y, [z], rfl, z, [], rfl, rfl, q⟩
theorem rd_slS {z : Str} {lo hi : Option Int} (h : z.length ≤ sizeLine) (q : Q (.str (cutS z lo hi)) H) : gSl K (.str z) lo hi H Q := .inr (.inl ⟨z, rfl, h, q⟩)
theorem rd_notInS {c : Nat} {z : Str} (q : Q (.bl (!decide (c ∈ z.cps.toList))) H) : gNotIn K (.str ⟨#[c]⟩) (.str z) H Q := .inl ⟨c, z, rfl, rfl, q⟩
theorem cps_S (t : List Nat) : cps (SX.S t) = t := rfl
theorem S_cps (z : Str) : SX.S (cps z) = z := SX.S_tl z
theorem len_S (t : List Nat) : (SX.S t).length = t.length := SX.S_len t
theorem len_cps (z : Str) : (cps z).length = z.length := Array.length_toList ..
/-! ### top_words -/
def sp_top_words (K : PySem.W.Frag) : Sp := fun vs H Q _ => ∃ (t : List Nat) (G : Hp) (L : List (Addr × HO)), vs = [.str (SX.S t)] ∧ t.length < 90000 ∧ Stt G H L ∧
  ∀ p G' H', Ex G G' → Stt G' H' L → SqL K G' p ((topW t).map fun w => V.str (SX.S w)) → Q (.ref p) H'
def t_top_words_2b_1a_1 (K : PySem.W.Frag) : TS :=
  (tAsg (tC (.str "")) (gName 2))
def t_top_words_2b_1 (K : PySem.W.Frag) : TS :=
  (tIfS (tAnd (tTest (tOp (gEq K) (tVar 4) (tC (.str " ")))) (tTest (tOp (gEq K) (tVar 3) (tC (.int 0))))) (tSeq (tDrop (tBM K "list" rAppend (tVar 1) (tCons (tVar 2) tNil)))
  (t_top_words_2b_1a_1 K)) (tAug 2 (tVar 4) rAddS))
def t_top_words_2b (K : PySem.W.Frag) : TS :=
  (tSeq (tIfS (tTest (tOp (gIn K) (tVar 4) (tC (.str "([")))) (tAug 3 (tC (.int 1)) (ipI fun i j => i + j)) (tIfS (tTest (tOp (gIn K) (tVar 4) (tC (.str ")]")))) (tAug 3 (tC (.int 1)) (ipI fun i j => i - j)) tNext))
  (t_top_words_2b_1 K))
def t_top_words_3 (K : PySem.W.Frag) : TS :=
  (tRet (tOp (gAdd K) (tVar 1) (tLst (tCons (tVar 2) tNil))))
def t_top_words_2 (K : PySem.W.Frag) : TS :=
  (tSeq (tFor (iStr (tVar 0)) (gName 4) (t_top_words_2b K))
  (t_top_words_3 K))
def t_top_words_1 (K : PySem.W.Frag) : TS :=
  (tSeq (tPar3 1 2 3 (tCons (tLst tNil) (tCons (tC (.str "")) (tCons (tC (.int 0)) tNil))))
  (t_top_words_2 K))
def t_top_words (K : PySem.W.Frag) : TS :=
  (tSeq (tIfS (tTest (tOp (gEq K) (tVar 0) (tC (.str "")))) (tRet (tLst tNil)) tNext)
  (t_top_words_1 K))
theorem scan_len : ∀ (t : List Nat) (s : Scan), (t.foldl scan1 s).word.length ≤ s.word.length + t.length ∧ (t.foldl scan1 s).found.length ≤ s.found.length + t.length
  | [], s => ⟨Nat.le_refl _, Nat.le_refl _⟩
  | c :: t, s => by
    obtain ⟨h1, h2⟩ := scan_len t (scan1 s c); rw [List.foldl_cons, List.length_cons]
    have e : (scan1 s c).word.length ≤ s.word.length + 1 ∧ (scan1 s c).found.length ≤ s.found.length + 1 := by
      unfold scan1
      split
      · exact ⟨Nat.zero_le _, by rw [List.length_append]; exact Nat.le_refl _⟩
      · exact ⟨by rw [List.length_append]; exact Nat.le_refl _, Nat.le_succ _⟩
    omega
theorem read_tw_turn {fa : Addr} {G : Hp} {L : List (Addr × HO)} {z : Str} {f : List (List Nat)} {w : List Nat} {d : Int} {c : Nat} (S : Stt G H ((fa, .lst (f.map fun w => V.str (SX.S w))) :: L)) (lw : w.length < 99999) (lf : f.length < 200000)
    (q : ∀ H', Stt G H' ((fa, .lst ((scan1 ⟨f, w, d⟩ c).found.map fun w => V.str (SX.S w))) :: L) → D.nx [some (.str z), some (.ref fa), some (.str (SX.S (scan1 ⟨f, w, d⟩ c).word)), some (.int (scan1 ⟨f, w, d⟩ c).deep), some (.str (SX.S [c]))] H') :
    t_top_words_2b K D [some (.str z), some (.ref fa), some (.str (SX.S w)), some (.int d), some (.str (SX.S [c]))] H := by
  have m1 : (c ∈ ("([" : Str).cps.toList) ↔ (c = 40 ∨ c = 91) := by show c ∈ [40, 91] ↔ _; simp
  have m2 : (c ∈ (")]" : Str).cps.toList) ↔ (c = 41 ∨ c = 93) := by show c ∈ [41, 93] ↔ _; simp
  have m3 : (SX.S [c] = (" " : Str)) ↔ c = 32 := ⟨fun e => by
    have := congrArg cps e
    exact (List.cons.inj (show [c] = [32] from this)).1, fun e => by rw [e]; rfl⟩
  have key : ∀ d2 : Int, d2 = scanDeep d c → t_top_words_2b_1 K D [some (.str z), some (.ref fa), some (.str (SX.S w)), some (.int d2), some (.str (SX.S [c]))] H := by
    intro d2 hd2
    subst hd2
    unfold t_top_words_2b_1
    walk_at "go"
    have stay : ¬ (c = 32 ∧ scanDeep d c = 0) → tAug 2 (tVar 4) rAddS D [some (.str z), some (.ref fa), some (.str (SX.S w)), some (.int (scanDeep d c)), some (.str (SX.S [c]))] H := fun hn => by
      refine rd_aug rfl ?_
      walk_at "go"
      refine rd_ipS (by rw [len_S, len_S]; exact sz_of (by rw [List.length_singleton]; omega)) ?_
      rw [SX.S_cat]
      have e : scan1 ⟨f, w, d⟩ c = ⟨f, w ++ [c], scanDeep d c⟩ := by unfold scan1; rw [if_neg hn]
      rw [e] at q
      exact q H S
    refine rd_dec (fun e1 => ?_) (fun e1 => ?_)
    · walk_at "go"
      refine rd_dec (fun e2 => ?_) (fun e2 => ?_)
      · walk_at "go"
        refine ⟨ty_list (sq_of (S.at 0 rfl)), ?_⟩
        walk_at "go"
        refine rd_app (S.at 0 rfl) (by rw [List.length_map]; omega) ?_
        unfold t_top_words_2b_1a_1
        walk_at "go"
        have e : scan1 ⟨f, w, d⟩ c = ⟨f ++ [w], [], scanDeep d c⟩ := by unfold scan1; rw [if_pos ⟨m3.mp e1, e2⟩]
        rw [e] at q
        refine q _ ?_
        rw [List.map_append]
        exact S.wr 0 rfl
      · exact stay fun h => e2 h.2
    · walk_at "go"
      exact stay fun h => e1 (m3.mpr h.1)
  unfold t_top_words_2b
  walk_at "go"
  refine .inl ⟨c, _, rfl, rfl, ?_⟩
  walk_at "go"
  refine rd_dec (fun e1 => ?_) (fun e1 => ?_)
  · walk_at "go"
    refine rd_aug rfl ?_
    walk_at "go"
    refine rd_ipI ?_
    exact key _ (by unfold scanDeep; rw [if_pos (m1.mp e1)])
  · walk_at "go"
    refine .inl ⟨c, _, rfl, rfl, ?_⟩
    walk_at "go"
    have n1 : ¬ (c = 40 ∨ c = 91) := fun h => e1 (m1.mpr h)
    refine rd_dec (fun e2 => ?_) (fun e2 => ?_)
    · walk_at "go"
      refine rd_aug rfl ?_
      walk_at "go"
      refine rd_ipI ?_
      exact key _ (by unfold scanDeep; rw [if_neg n1, if_pos (m2.mp e2)])
    · walk_at "go"
      exact key _ (by unfold scanDeep; rw [if_neg n1, if_neg fun h => e2 (m2.mpr h)])
theorem read_top_words {G : Hp} {L : List (Addr × HO)} {t : List Nat} {a1 a2 a3 a4 : Option V} (S : Stt G H L) (lt : t.length < 90000)
    (q : ∀ p G' H', Ex G G' → Stt G' H' L → SqL K G' p ((topW t).map fun w => V.str (SX.S w)) → D.rt (.ref p) H') : t_top_words K D [some (.str (SX.S t)), a1, a2, a3, a4] H := by
  unfold t_top_words
  walk_at "go"
  refine rd_dec (fun e1 => ?_) (fun e1 => ?_)
  · walk_at "go"
    have e : t = [] := congrArg cps e1
    subst e
    refine mk_lst stt_world S (Nat.zero_le _) fun p G1 e1 S1 h1 => ?_
    exact q p G1 _ e1 S1 (sq_of h1)
  · walk_at "go"
    have ne : t ≠ [] := fun z => e1 (by rw [z]; rfl)
    unfold t_top_words_1
    refine rd_seq (rd_parB ?_)
    walk_at "go"
    refine mk_lstM stt_world S (Nat.zero_le _) fun fa S1 => ?_
    refine ⟨_, _, _, rfl, ?_⟩
    unfold t_top_words_2
    refine rd_seq (rd_for (rd_is ?_))
    walk_at "go"
    refine ⟨_, rfl, ?_⟩
    refine for_go (walk_str (z := SX.S t)) (G := G) (fun i σ1 G2 H2 => ∃ x4 s, s = (t.take i).foldl scan1 ⟨[], [], 0⟩ ∧ σ1 = [some (.str (SX.S t)), some (.ref fa), some (.str (SX.S s.word)), some (.int s.deep), x4] ∧ Stt G H2 ((fa, .lst (s.found.map fun w => V.str (SX.S w))) :: L))
      ⟨a4, _, rfl, rfl, S1⟩ (fun _ _ _ _ _ _ => True.intro) ?_ ?_
    · rintro i x σ1 G2 H2 H3 hi ⟨x4, s, hs, rfl, S2⟩ y N hN
      obtain ⟨rfl, c, hc, rfl⟩ := y
      have hi2 : i < t.length := by simpa using hi
      have ln := scan_len (t.take i) ⟨[], [], 0⟩
      rw [← hs, List.length_take] at ln
      have hc2 : t[i]? = some c := by
        rw [← hc]
        simp
      walk_at "go"
      refine read_tw_turn S2 (by simp at ln; omega) (by simp at ln; omega) fun H4 S4 => hN _ G H4 ⟨_, _, ?_, rfl, S4⟩
      rw [List.take_add_one, hc2, hs, Option.toList_some, List.foldl_append]
      rfl
    · rintro σ1 G2 H2 ⟨x4, s, hs, rfl, S2⟩
      have hs2 : s = scanned t := by
        rw [hs, show (SX.S t).cps.size = t.length by simp, List.take_length]
        rfl
      have ln := scan_len t ⟨[], [], 0⟩
      have ln2 : s.found.length ≤ t.length := by
        rw [hs2]
        have := ln.2
        simp at this
        exact this
      unfold t_top_words_3
      walk_at "go"
      refine mk_lst stt_world S2 (by show 1 ≤ _; decide) fun p G3 e3 S3 h3 => ?_
      refine rd_addL (S3.at 0 rfl) (S3.ex _ _ h3) (by rw [List.length_map]; exact sz_of (by show _ + 1 ≤ _; omega)) ?_
      refine mk_im (o := .lst ((s.found.map fun w => V.str (SX.S w)) ++ [V.str (SX.S s.word)])) stt_world S3.drop fun p2 G4 e4 S4 h4 => ?_
      refine q p2 G4 _ (e3.trans e4) S4 (sq_of ?_)
      rw [h4]
      congr 2
      unfold topW
      rw [if_neg ne, List.map_append, ← hs2]
      rfl
theorem sat_top_words {vs : List V} {E : XK} (h : sp_top_words K vs H Q E) : vs.length = 1 ∧ t_top_words K { nx := fun _ H' => Q .non H', rt := Q } (vs.map some ++ List.replicate (5 - vs.length) none) H := by
  obtain ⟨t, G, L, rfl, lt, S, q⟩ := h
  exact ⟨rfl, read_top_words S lt q⟩
end



local macro_rules | `(tactic| walk_at "gs1") => `(tactic| first
  | walk_at "go1"
  | with_reducible refine rd_fld ?_
  | with_reducible refine rd_sfld ?_
  | with_reducible refine rd_meth ?_
  | with_reducible refine rd_prop ?_
  | with_reducible refine rd_mkR ?_
  | with_reducible refine rd_stc ?_
  | with_reducible refine rd_star ?_
  | with_reducible refine rd_bk ?_
  | with_reducible refine rd_ipI ?_
  | with_reducible refine rd_joinS ?_
  | with_reducible refine rd_join ?_
  | with_reducible refine rd_lenSetS ?_
  | with_reducible refine rd_lc ?_
  | with_reducible refine rd_for ?_
  | with_reducible refine rd_il ?_
  | with_reducible refine rd_it ?_
  | with_reducible refine rd_sq ?_
  | with_reducible refine rd_is ?_
  | with_reducible refine rd_rng1 ?_
  | with_reducible refine rd_enumT ?_
  | with_reducible refine rd_zipA ?_
  | with_reducible refine rd_zipMx ?_
  | with_reducible refine rd_parB ?_
  | ((with_reducible refine' rd_aug ?hv ?_); (case hv => exact rfl))
  | walk_at "isi"
  | walk_at "dc")
local macro_rules | `(tactic| walk_at "gs") => `(tactic| (repeat walk_at "gs1"); (try dsimp only))

def schF (tf tl : Addr) : List (Str × V) := putF "_lists" (.ref tl) (putF "fields" (.ref tf) [])
theorem schF_eq (tf tl : Addr) : schF tf tl = ([("fields", .ref tf), ("_lists", .ref tl)] : List (Str × V)) := by
  unfold schF
  show (if ("fields" : Str) = "_lists" then _ else (("fields" : Str), V.ref tf) :: putF "_lists" (.ref tl) []) = _
  rw [if_neg (by decide +kernel)]; rfl
theorem schF_f (tf tl : Addr) : (schF tf tl).lookup ("fields" : Str) = some (.ref tf) := by
  unfold schF
  rw [lookup_putF, if_neg (by decide +kernel), lookup_putF, if_pos rfl]
theorem schF_l (tf tl : Addr) : (schF tf tl).lookup ("_lists" : Str) = some (.ref tl) := by
  unfold schF
  rw [lookup_putF, if_pos rfl]
theorem schF_no (tf tl : Addr) {m : Str} (h1 : ¬ m = "_lists") (h2 : ¬ m = "fields") : (schF tf tl).lookup m = none := by
  unfold schF; rw [lookup_putF, if_neg h1, lookup_putF, if_neg h2]
  rfl
mutual
inductive SchAt (K : PySem.W.Frag) (H : Hp) : V → Lev → Prop where
  | mk {x dx tf tl : Addr} {fs : List Str} {ls : LevL} {ps : List Addr} (ob : H x = some (.ins (cls_at K "Schema") dx (schF tf tl))) (hf : SqT K H tf (fs.map V.str)) (hl : SqT K H tl (ps.map V.ref)) (h : SchAll K H ps ls) : SchAt K H (.ref x) (.mk fs ls)
inductive SchAll (K : PySem.W.Frag) (H : Hp) : List Addr → LevL → Prop where
  | nil : SchAll K H [] .nil
  | cons {p : Addr} {n : Str} {v : V} {l : Lev} {ps : List Addr} {ls : LevL} (hp : SqT K H p [.str n, v]) (hv : SchAt K H v l) (r : SchAll K H ps ls) : SchAll K H (p :: ps) (.cons n l ls)
end
mutual
theorem SchAt.ex {K : PySem.W.Frag} {H H' : Hp} (e : Ex H H') : ∀ {v : V} {l : Lev}, SchAt K H v l → SchAt K H' v l
  | _, _, .mk ob hf hl h => .mk (e _ _ ob) (ex_t e hf) (ex_t e hl) (SchAll.ex e h)
theorem SchAll.ex {K : PySem.W.Frag} {H H' : Hp} (e : Ex H H') : ∀ {ps : List Addr} {ls : LevL}, SchAll K H ps ls → SchAll K H' ps ls
  | _, _, .nil => .nil
  | _, _, .cons hp hv r => .cons (ex_t e hp) (SchAt.ex e hv) (SchAll.ex e r)
end
theorem SchAll.len {K : PySem.W.Frag} {H : Hp} : ∀ {ps : List Addr} {ls : LevL}, SchAll K H ps ls → ps.length = ls.names.length
  | _, _, .nil => rfl
  | _, _, .cons _ _ r => by rw [List.length_cons, LevL.names, List.length_cons, SchAll.len r]
theorem SchAll.at {K : PySem.W.Frag} {H : Hp} : ∀ {ps : List Addr} {ls : LevL} {i : Nat} {x : V}, SchAll K H ps ls → (ps.map V.ref)[i]? = some x → ∃ p n v l, x = .ref p ∧ SqT K H p [.str n, v] ∧ ls.names[i]? = some n ∧ ls.levs[i]? = some l ∧ SchAt K H v l
  | _, _, i, x, .nil, h => by simp at h
  | _, _, 0, x, .cons hp hv _, h => by
    cases (Option.some.inj h)
    exact ⟨_, _, _, _, rfl, hp, rfl, rfl, hv⟩
  | _, _, i + 1, x, .cons _ _ r, h => SchAll.at r (i := i) h
section
variable {K : PySem.W.Frag} [SK : SchK K] {σ : L2.St} {G H : Hp} {L : List (Addr × HO)} {Q : VK} {D : Ends} {x dx tf tl : Addr} {te : TE}
theorem rd_Sfields {P : V → Prop} (ob : H x = some (.ins (cls_at K "Schema") dx (schF tf tl))) (q : P (.ref tf)) : ∃ a C dx fs v, V.ref x = .ref a ∧ H a = some (.ins C dx fs) ∧ Cls K C ∧ NoAttr K C "fields" ∧ fs.lookup ("fields" : Str) = some v ∧ P v :=
  ⟨x, _, _, _, _, rfl, ob, SK.ins.cl, SK.nF, schF_f tf tl, q⟩
theorem rd_Slists {P : V → Prop} (ob : H x = some (.ins (cls_at K "Schema") dx (schF tf tl))) (q : P (.ref tl)) : ∃ a C dx fs v, V.ref x = .ref a ∧ H a = some (.ins C dx fs) ∧ Cls K C ∧ NoAttr K C "_lists" ∧ fs.lookup ("_lists" : Str) = some v ∧ P v :=
  ⟨x, _, _, _, _, rfl, ob, SK.ins.cl, SK.nL, schF_l tf tl, q⟩
/-! ### lists() -/
def sp_Schema_lists (K : PySem.W.Frag) : Sp := fun vs H Q _ => ∃ (x dx tf tl : Addr) (ps : List Addr) (G : Hp) (L : List (Addr × HO)), vs = [.ref x] ∧ Stt G H L ∧ G x = some (.ins (cls_at K "Schema") dx (schF tf tl)) ∧ SqT K G tl (ps.map V.ref) ∧
  ∀ p H', Stt G H' ((p, .lst (ps.map V.ref)) :: L) → Q (.ref p) H'
def t_Schema_lists (K : PySem.W.Frag) : TS :=
  (tRet (tCB (gList K) (tCons (tFld K (tVar 0) "_lists") tNil)))
theorem sat_Schema_lists {vs : List V} {E : XK} (h : sp_Schema_lists K vs H Q E) : vs.length = 1 ∧ t_Schema_lists K { nx := fun _ H' => Q .non H', rt := Q } (vs.map some ++ List.replicate (1 - vs.length) none) H := by
  obtain ⟨x, dx, tf, tl, ps, G, L, rfl, S, ob, hl, q⟩ := h
  refine ⟨rfl, ?_⟩
  unfold t_Schema_lists
  walk_at "gs"
  refine rd_Slists (S.ex _ _ ob) ?_
  walk_at "gs"
  refine ⟨tl, _, rfl, .inr (ex_t S.ex hl), ?_⟩
  exact mk_mu (o := .lst (ps.map V.ref)) stt_world S fun p S1 => q p _ S1
/-! ### depth -/
def sp_Schema_depth (K : PySem.W.Frag) (n : Nat) : Sp := fun vs H Q _ => ∃ (v : V) (l : Lev) (G : Hp) (L : List (Addr × HO)), vs = [v] ∧ Stt G H L ∧ SchAt K G v l ∧ l.depth ≤ n ∧ l.good ∧ ∀ H', Stt G H' L → Q (.int l.depth) H'
theorem never_Schema_depth (K : PySem.W.Frag) : ∀ vs H Q E, sp_Schema_depth K 0 vs H Q E → False := fun vs H Q E ⟨v, l, G, L, _, _, _, h, _⟩ => by
  have := l.depth_pos
  omega
def t_Schema_depth (K : PySem.W.Frag) (n : Nat) : TS :=
  (tRet (tOp (gAdd K) (tC (.int 1)) (tBK (rMaxD K) (tCons (tLc (iTup K (tFld K (tVar 0) "_lists")) (gTup K 2 (gCons (gName 1) (gCons (gName 2) gNil))) tYes (tProp (cls_at K "Schema") (sp_Schema_depth K n) [] E0 (tVar 2)) [1, 2]) tNil) (tCons (tC (.int 0)) tNil))))
theorem LevL.depth_get : ∀ (r : LevL) (i : Nat) (l : Lev), r.levs[i]? = some l → l.depth ≤ r.depth
  | .nil, i, l, h => by simp [LevL.levs] at h
  | .cons n m r, 0, l, h => by
    rw [LevL.levs] at h
    cases (Option.some.inj h)
    rw [LevL.depth]
    exact Nat.le_max_left _ _
  | .cons n m r, i + 1, l, h => by
    rw [LevL.levs] at h
    rw [LevL.depth]
    exact Nat.le_trans (LevL.depth_get r i l h) (Nat.le_max_right _ _)
theorem LevL.good_get : ∀ (r : LevL) (i : Nat) (l : Lev), r.good → r.levs[i]? = some l → l.good
  | .nil, i, l, _, h => by simp [LevL.levs] at h
  | .cons n m r, 0, l, g, h => by
    rw [LevL.levs] at h
    cases (Option.some.inj h)
    rw [LevL.good] at g
    exact g.2.1
  | .cons n m r, i + 1, l, g, h => by
    rw [LevL.levs] at h
    rw [LevL.good] at g
    exact LevL.good_get r i l g.2.2 h
theorem max_depths : ∀ (r : LevL) (m : Int), 0 ≤ m → (r.levs.map fun l => (l.depth : Int)).foldl max m = max m r.depth
  | .nil, m, h => by
    rw [LevL.levs, LevL.depth]
    show m = _
    omega
  | .cons n l r, m, h => by
    rw [LevL.levs, LevL.depth, List.map_cons, List.foldl_cons, max_depths r _ (by omega)]
    omega
theorem fold_depths (r : LevL) : (foldMax (r.levs.map fun l => (l.depth : Int))).elim (V.int 0) V.int = .int r.depth := by
  cases r with
  | nil => rw [LevL.levs, LevL.depth]; rfl
  | cons n l r =>
    rw [LevL.levs, LevL.depth, List.map_cons]
    show V.int ((r.levs.map fun l => (l.depth : Int)).foldl max (l.depth : Int)) = _
    rw [max_depths r _ (by omega)]
    congr 1
    omega
theorem sat_Schema_depth {n : Nat} {vs : List V} {E : XK} (h : sp_Schema_depth K (n + 1) vs H Q E) : vs.length = 1 ∧ t_Schema_depth K n { nx := fun _ H' => Q .non H', rt := Q } (vs.map some ++ List.replicate (3 - vs.length) none) H := by
  obtain ⟨v, l, G, L, rfl, S, hv, hd, gd, q⟩ := h
  refine ⟨rfl, ?_⟩
  cases hv with
  | @mk x dx tf tl fs ls ps ob hf hl hA =>
  rw [Lev.depth] at hd q
  rw [Lev.good] at gd
  unfold t_Schema_depth
  walk_at "gs"
  refine rd_Slists (S.ex _ _ ob) ?_
  walk_at "gs"
  refine ⟨tl, rfl, ⟨_, ex_t S.ex hl⟩, ?_⟩
  have hlen := SchAll.len hA
  have hlv := LevL.len_levs ls
  refine lc_go stt_world (walk_tup (xs := ps.map V.ref)) S (by rw [List.length_map]; omega) (fun i v _ => (ps.map V.ref)[i]? = some v) (fun i acc _ => acc = ((ls.levs.take i).map fun l => (l.depth : Int)).map V.int) (fun H' e' => ex_t e' hl)
    (fun i x G1 H1 H2 L1 _ e1 S1 y => item_at S1 y) rfl (fun _ _ _ _ _ h => h) ?_ ?_
  · intro D1 i x acc G1 H1 hi _ e1 S1 I1 it Kp Sk kp sk
    obtain ⟨p, nm, v, l, rfl, hp, hn, hl2, hv⟩ := SchAll.at hA it
    refine rd_gtup2 (ex_t (e1.trans S1.ex) hp) ⟨rfl, ?_⟩
    refine rd_yes (rd_iT ?_)
    walk_at "gs"
    have dl := LevL.depth_get ls i l hl2
    cases hv with
    | @mk x2 dx2 tf2 tl2 fs2 ls2 ps2 ob2 hf2 hl3 hA2 =>
    refine ⟨x2, _, _, rfl, S1.ex _ _ (e1 _ _ ob2), ?_⟩
    refine ⟨_, _, G1, _, rfl, S1, (SchAt.mk ob2 hf2 hl3 hA2).ex e1, by omega, LevL.good_get ls i _ gd.2.2.2.2.2 hl2, fun H3 S3 => kp _ G1 H3 (Ex.refl _) S3 ?_⟩
    rw [I1, List.take_add_one, hl2, List.map_append, List.map_append]
    rfl
  · intro D1 acc G2 H2 e2 S2 I2 _
    have hacc : acc = (ls.levs.map fun l => (l.depth : Int)).map V.int := by
      rw [I2, List.take_of_length_le (by rw [List.length_map]; omega)]
    subst hacc
    walk_at "gs"
    refine rd_bk1 ⟨D1, _, rfl, sq_of (S2.at 0 rfl), ?_⟩
    rw [fold_depths]
    refine rd_addI ?_
    have := q H2 (S2.drop.less e2)
    rw [show ((1 + ls.depth : Nat) : Int) = 1 + (ls.depth : Int) by omega] at this
    exact this
end




/-! ### how long a text may be -/
theorem join_le : ∀ ws : List (List Nat), (TL.joinL [32] ws).length ≤ (ws.map fun w => w.length + 1).sum
  | [] => Nat.le_refl _
  | [w] => by show w.length ≤ (w.length + 1) + 0; omega
  | w :: v :: ws => by
    have := join_le (v :: ws)
    show (w ++ ([32] ++ TL.joinL [32] (v :: ws))).length ≤ (w.length + 1) + ((v :: ws).map fun w => w.length + 1).sum
    rw [List.length_append, List.length_append, List.length_singleton]
    omega
theorem sum_le_join : ∀ ws : List (List Nat), (ws.map List.length).sum ≤ (TL.joinL [32] ws).length
  | [] => Nat.le_refl _
  | [w] => by show w.length + 0 ≤ w.length; omega
  | w :: v :: ws => by
    have := sum_le_join (v :: ws)
    show w.length + ((v :: ws).map List.length).sum ≤ (w ++ ([32] ++ TL.joinL [32] (v :: ws))).length
    rw [List.length_append, List.length_append]
    omega
theorem sum_few (B : Nat) : ∀ ws : List (List Nat), (∀ w, w ∈ ws → w.length + 1 ≤ B) → (ws.map fun w => w.length + 1).sum ≤ ws.length * B
  | [], _ => Nat.zero_le _
  | w :: ws, h => by
    have h1 := h w (List.mem_cons_self ..)
    have h2 := sum_few B ws fun x hx => h x (List.mem_cons_of_mem _ hx)
    rw [List.map_cons, List.sum_cons, List.length_cons, Nat.succ_mul]; omega
theorem pow_pos2 (n : Nat) : 1 ≤ 2 ^ n := Nat.one_le_two_pow
theorem name_len {z : Str} (h : NameOk z) : (cps z).length ≤ 8 := by
  rw [len_cps]
  exact (nameOk_len h).2
mutual
theorem Lev.len_tx : ∀ l : Lev, l.good → l.tx.length + 80 ≤ 80 * 2 ^ l.depth
  | .mk fs ls, h => by
    rw [Lev.good] at h
    rw [Lev.tx, Lev.depth]
    refine Nat.le_trans (Nat.add_le_add_right (join_le _) 80) ?_
    rw [List.map_append, List.sum_append]
    have h1 := sum_few 9 (fs.map cps) fun w hw => by
      obtain ⟨n, hn, rfl⟩ := List.mem_map.mp hw
      have := name_len (h.2.2.1 n hn)
      omega
    have hp : 80 ≤ 80 * 2 ^ ls.depth := Nat.le_mul_of_pos_right _ (Nat.two_pow_pos _)
    have h2 := sum_few (80 * 2 ^ ls.depth - 69) ls.tws fun w hw => by
      have := LevL.len_tws2 ls h.2.2.2.2.2 w hw
      omega
    have h3 := LevL.len_tws ls
    rw [List.length_map] at h1
    have h4 : ls.tws.length * (80 * 2 ^ ls.depth - 69) ≤ 2 * (80 * 2 ^ ls.depth - 69) := Nat.mul_le_mul_right _ (by rw [h3]; exact h.2.2.2.2.1)
    have h5 : 80 * 2 ^ (1 + ls.depth) = 2 * (80 * 2 ^ ls.depth) := by rw [Nat.pow_add, Nat.pow_one]; omega
    have h6 := h.2.1
    rw [h5]
    omega
theorem LevL.len_tws2 : ∀ r : LevL, r.good → ∀ w, w ∈ r.tws → w.length + 70 ≤ 80 * 2 ^ r.depth
  | .nil, _, w, hw => by rw [LevL.tws] at hw; cases hw
  | .cons n l r, h, w, hw => by
    rw [LevL.good] at h
    rw [LevL.tws] at hw
    rw [LevL.depth]
    have up : ∀ a, a ≤ max l.depth r.depth → 80 * 2 ^ a ≤ 80 * 2 ^ max l.depth r.depth := fun a ha => Nat.mul_le_mul_left _ (Nat.pow_le_pow_right (by decide) ha)
    rcases List.mem_cons.mp hw with rfl | hw
    · have h1 := Lev.len_tx l h.2.1
      have h2 := name_len h.1
      have h3 := up l.depth (Nat.le_max_left _ _)
      rw [List.length_append, List.length_cons, List.length_append, List.length_singleton]
      omega
    · have h1 := LevL.len_tws2 r h.2.2 w hw
      have h3 := up r.depth (Nat.le_max_right _ _)
      omega
end
theorem Lev.tx_small {l : Lev} (h : l.good) (d : l.depth ≤ 9) : l.tx.length < 41000 := by
  have h1 := Lev.len_tx l h
  have h2 : 80 * 2 ^ l.depth ≤ 80 * 2 ^ 9 := Nat.mul_le_mul_left _ (Nat.pow_le_pow_right (by decide) d)
  have h3 : 80 * 2 ^ 9 = 40960 := by decide
  omega
section
variable {K : PySem.W.Frag} [SK : SchK K] {σ : L2.St} {G H : Hp} {L : List (Addr × HO)} {Q : VK} {D : Ends} {x dx tf tl : Addr} {te : TE}
def sp_Schema_text (K : PySem.W.Frag) (n : Nat) : Sp := fun vs H Q _ => ∃ (v : V) (l : Lev) (G : Hp) (L : List (Addr × HO)), vs = [v] ∧ Stt G H L ∧ SchAt K G v l ∧ l.depth ≤ n ∧ l.depth ≤ 9 ∧ l.good ∧ ∀ H', Stt G H' L → Q (.str (SX.S l.tx)) H'
theorem never_Schema_text (K : PySem.W.Frag) : ∀ vs H Q E, sp_Schema_text K 0 vs H Q E → False := fun vs H Q E ⟨v, l, G, L, _, _, _, h, _⟩ => by
  have := l.depth_pos
  omega
def t_Schema_text (K : PySem.W.Frag) (n : Nat) : TS :=
  (tRet (tJoinS K " " (tOp (gAdd K) (tCB (gList K) (tCons (tFld K (tVar 0) "fields") tNil)) (tLc (iTup K (tFld K (tVar 0) "_lists")) (gTup K 2 (gCons (gName 1) (gCons (gName 2) gNil))) tYes (tFs [(tFmt (tVar 1)), (tC (.str "(")), (tFmt (tMeth (cls_at K "Schema") "text" (sp_Schema_text K n) [] E0 (tVar 2) tNil)), (tC (.str ")"))]) [1, 2]))))
theorem LevL.tws_get : ∀ (r : LevL) (i : Nat) (n : Str) (l : Lev), r.names[i]? = some n → r.levs[i]? = some l → r.tws[i]? = some (cps n ++ (40 :: (l.tx ++ [41])))
  | .nil, i, n, l, h, _ => by simp [LevL.names] at h
  | .cons m k r, 0, n, l, h1, h2 => by
    rw [LevL.names] at h1
    rw [LevL.levs] at h2
    cases (Option.some.inj h1)
    cases (Option.some.inj h2)
    rw [LevL.tws]
    rfl
  | .cons m k r, i + 1, n, l, h1, h2 => by
    rw [LevL.names] at h1
    rw [LevL.levs] at h2
    rw [LevL.tws]
    exact LevL.tws_get r i n l h1 h2
theorem LevL.name_get : ∀ (r : LevL) (i : Nat) (n : Str), r.good → r.names[i]? = some n → NameOk n
  | .nil, i, n, _, h => by simp [LevL.names] at h
  | .cons m k r, 0, n, g, h => by
    rw [LevL.names] at h
    cases (Option.some.inj h)
    rw [LevL.good] at g
    exact g.1
  | .cons m k r, i + 1, n, g, h => by
    rw [LevL.names] at h
    rw [LevL.good] at g
    exact LevL.name_get r i n g.2.2 h
/-- a list's text -/
theorem item_textS (a t : List Nat) : (((("" : Str) ++ SX.S a) ++ ("(" : Str)) ++ SX.S t) ++ (")" : Str) = SX.S (a ++ (40 :: (t ++ [41]))) := by
  have e0 : ("" : Str) = SX.S [] := rfl
  have e1 : ("(" : Str) = SX.S [40] := rfl
  have e2 : (")" : Str) = SX.S [41] := rfl
  rw [e0, e1, e2, SX.S_cat, SX.S_cat, SX.S_cat, SX.S_cat]
  exact congrArg SX.S (by simp)
theorem item_text (n : Str) (t : List Nat) : (((("" : Str) ++ n) ++ ("(" : Str)) ++ SX.S t) ++ (")" : Str) = SX.S (cps n ++ (40 :: (t ++ [41]))) := by
  have := item_textS (cps n) t
  rwa [S_cps] at this
theorem strs_texts (l : List Str) : l.map V.str = (l.map cps).map fun w => V.str (SX.S w) := by
  rw [List.map_map]
  exact List.map_congr_left fun z _ => congrArg V.str (S_cps z).symm
theorem sat_Schema_text {n : Nat} {vs : List V} {E : XK} (h : sp_Schema_text K (n + 1) vs H Q E) : vs.length = 1 ∧ t_Schema_text K n { nx := fun _ H' => Q .non H', rt := Q } (vs.map some ++ List.replicate (3 - vs.length) none) H := by
  obtain ⟨v, l, G, L, rfl, S, hv, hd, h9, gd, q⟩ := h
  refine ⟨rfl, ?_⟩
  have small := Lev.tx_small gd h9
  have sz : ∀ n : Nat, n < 90000 → n ≤ sizeLine := fun n h => sz_of (by omega)
  cases hv with
  | @mk x dx tf tl fs ls ps ob hf hl hA =>
  rw [Lev.depth] at hd h9
  rw [Lev.good] at gd
  unfold t_Schema_text
  walk_at "gs"
  refine rd_Sfields (S.ex _ _ ob) ?_
  walk_at "gs"
  refine ⟨tf, _, rfl, .inr (ex_t S.ex hf), ?_⟩
  refine mk_im (o := .lst (fs.map V.str)) stt_world S fun p1 G1 e1 S1 h1 => ?_
  walk_at "gs"
  refine rd_Slists (S1.ex _ _ (e1 _ _ ob)) ?_
  walk_at "gs"
  refine ⟨tl, rfl, ⟨_, ex_t (e1.trans S1.ex) hl⟩, ?_⟩
  have hlen := SchAll.len hA
  have hlv := LevL.len_levs ls
  have hlt := LevL.len_tws ls
  refine lc_go stt_world (walk_tup (xs := ps.map V.ref)) S1 (by rw [List.length_map]; omega) (fun i v _ => (ps.map V.ref)[i]? = some v) (fun i acc _ => acc = (ls.tws.take i).map fun w => V.str (SX.S w)) (fun H' e' => ex_t (e1.trans e') hl)
    (fun i x G1 H1 H2 L1 _ e1 S1 y => item_at S1 y) rfl (fun _ _ _ _ _ h => h) ?_ ?_
  · intro D1 i x acc G2 H2 hi _ e2 S2 I2 it Kp Sk kp sk
    obtain ⟨p, nm, v, l, rfl, hp, hn, hl2, hv⟩ := SchAll.at hA it
    have e12 := e1.trans e2
    refine rd_gtup2 (ex_t (e12.trans S2.ex) hp) ⟨rfl, ?_⟩
    refine rd_yes (rd_iT ?_)
    have dl := LevL.depth_get ls i l hl2
    have gl := LevL.good_get ls i l gd.2.2.2.2.2 hl2
    have sl := Lev.tx_small gl (by omega)
    have nl := nameOk_len (LevL.name_get ls i nm gd.2.2.2.2.2 hn)
    have hw := LevL.tws_get ls i nm l hn hl2
    have e0 : ("" : Str).length = 0 := rfl
    have e1l : ("(" : Str).length = 1 := rfl
    have e2l : (")" : Str).length = 1 := rfl
    refine rd_fs (rd_js (rd_fmt ?_))
    walk_at "gs"
    refine .inl ⟨nm, rfl, sz _ (by omega), nm, rfl, ?_, ?_⟩
    · refine sz _ ?_
      show (("" : Str) ++ nm).length < _
      rw [len_add]
      omega
    refine rd_js ?_
    walk_at "gs"
    refine ⟨"(", rfl, ?_, ?_⟩
    · refine sz _ ?_
      show ((("" : Str) ++ nm) ++ ("(" : Str)).length < _
      rw [len_add, len_add]
      omega
    refine rd_js (rd_fmt ?_)
    walk_at "gs"
    cases hv with
    | @mk x2 dx2 tf2 tl2 fs2 ls2 ps2 ob2 hf2 hl3 hA2 =>
    refine ⟨x2, _, _, rfl, S2.ex _ _ (e12 _ _ ob2), schF_no _ _ (by decide +kernel) (by decide +kernel), ?_⟩
    walk_at "gs"
    refine ⟨_, _, G2, _, rfl, S2, (SchAt.mk ob2 hf2 hl3 hA2).ex e12, by omega, by omega, gl, fun H3 S3 => ?_⟩
    refine .inl ⟨_, rfl, by rw [len_S]; exact sz _ (by omega), _, rfl, ?_, ?_⟩
    · refine sz _ ?_
      show (((("" : Str) ++ nm) ++ ("(" : Str)) ++ SX.S (Lev.mk fs2 ls2).tx).length < _
      rw [len_add, len_add, len_add, len_S (Lev.mk fs2 ls2).tx]
      omega
    refine rd_js ?_
    walk_at "gs"
    refine ⟨")", rfl, ?_, ?_⟩
    · refine sz _ ?_
      show ((((("" : Str) ++ nm) ++ ("(" : Str)) ++ SX.S (Lev.mk fs2 ls2).tx) ++ (")" : Str)).length < _
      rw [len_add, len_add, len_add, len_add, len_S (Lev.mk fs2 ls2).tx]
      omega
    refine rd_js0 ?_
    show Kp (.str ((((("" : Str) ++ nm) ++ ("(" : Str)) ++ SX.S (Lev.mk fs2 ls2).tx) ++ (")" : Str))) H3
    rw [item_text]
    refine kp _ G2 H3 (Ex.refl _) S3 ?_
    rw [I2, List.take_add_one, hw, List.map_append]
    rfl
  · intro D1 acc G2 H2 e2 S2 I2 _
    have hacc : acc = ls.tws.map fun w => V.str (SX.S w) := by
      rw [I2, List.take_of_length_le (by rw [List.length_map]; omega)]
    subst hacc
    walk_at "gs"
    refine rd_addL (S2.ex _ _ (e2 _ _ h1)) (S2.at 0 rfl) (sz _ (by rw [List.length_map, List.length_map]; have := gd.2.1; have := gd.2.2.2.2.1; omega)) ?_
    refine mk_im (o := .lst (fs.map V.str ++ ls.tws.map fun w => V.str (SX.S w))) stt_world S2.drop fun p2 G3 e3 S3 h3 => ?_
    have hsum := sum_le_join (fs.map cps ++ ls.tws)
    rw [Lev.tx] at small
    refine ⟨p2, (fs.map cps ++ ls.tws).map SX.S, rfl, sq_of ?_, ?_, ?_⟩
    · rw [S3.ex _ _ h3, strs_texts, ← List.map_append, List.map_map]
      rfl
    · have e : ((fs.map cps ++ ls.tws).map SX.S).map (·.length) = (fs.map cps ++ ls.tws).map List.length := by
        rw [List.map_map]
        exact List.map_congr_left fun w _ => len_S w
      rw [e, List.length_map, List.length_append, List.length_map]
      have h1 : (" " : Str).length = 1 := rfl
      have := gd.2.1
      have := gd.2.2.2.2.1
      rw [h1]
      omega
    · have hj : Txt.join " " ((fs.map cps ++ ls.tws).map SX.S) = SX.S (Lev.mk fs ls).tx := by
        rw [Lev.tx]
        exact SX.join_S [32] _
      rw [hj]
      exact q _ (S3.less (e1.trans (e2.trans e3)))
end




def v_MOST_FIELDS : V := .int 3
def v_MOST_LISTS : V := .int 2
def v_MOST_LEVELS : V := .int 3
section
variable {K : PySem.W.Frag} [SK : SchK K] [CK : Consts K] {σ : L2.St} {G H : Hp} {L : List (Addr × HO)} {Q : VK} {D : Ends} {x dx tf tl : Addr} {te : TE}
def SqE (K : PySem.W.Frag) (H : Hp) (a : Addr) (xs : List V) : Prop := SqL K H a xs ∨ SqT K H a xs
theorem SqE.ex {H H' : Hp} {a : Addr} {xs : List V} (e : Ex H H') (h : SqE K H a xs) : SqE K H' a xs := h.imp (ex_l e) (ex_t e)
theorem rd_lenE {a : Addr} {xs : List V} (h : SqE K H a xs) (q : Q (.int xs.length) H) : gLen K [.ref a] H Q := h.elim (fun z => rd_lenL z q) (fun z => rd_lenT z q)
theorem SqE.tyx {a : Addr} {xs : List V} (h : SqE K H a xs) : TyX K H (.ref a) (.type "list") ∨ TyX K H (.ref a) (.type "tuple") := h.imp SqL.ty SqT.ty
/-- isinstance(x, (list, tuple)) of such -/
theorem rd_isE {a tp : Addr} {xs : List V} (ht : H tp = some (.tup [.ty "list", .ty "tuple"])) (h : SqE K H a xs) (q : Q (.bl true) H) : gIsi K [.ref a, .ref tp] H Q := by
  rcases h.tyx with ty | ty
  · exact .inr ⟨_, tp, [.ty "list", .ty "tuple"], .type "list", [.type "list", .type "tuple"], true, rfl, ht, .cons (.ty _) (.cons (.ty _) .nil), ty, kitAny_cons (kit_ty kt_list_list) (fun z => nomatch z) (fun _ => rfl), q⟩
  · exact .inr ⟨_, tp, [.ty "list", .ty "tuple"], .type "tuple", [.type "list", .type "tuple"], true, rfl, ht, .cons (.ty _) (.cons (.ty _) .nil), ty,
      kitAny_cons (b := false) (kit_ty kt_tuple_list) (fun _ => kitAny_cons (b := true) (kit_ty kt_tuple_tuple) (fun z => nomatch z) (fun _ => rfl)) (fun z => nomatch z), q⟩
def sp_is_fields (K : PySem.W.Frag) : Sp := fun vs H Q _ => ∃ (a : Addr) (fs : List Str) (G : Hp) (L : List (Addr × HO)), vs = [.ref a] ∧ Stt G H L ∧ SqE K G a (fs.map V.str) ∧ 0 < fs.length ∧ fs.length ≤ 3 ∧ (∀ n, n ∈ fs → NameOk n) ∧ fs.Nodup ∧ ∀ H', Stt G H' L → Q (.bl true) H'
def t_is_fields_1 (K : PySem.W.Frag) : TS :=
  (tRet (tAndV (tCB (rAll K) (tCons (tLc (iSeq K (tVar 0)) (gName 1) tYes (tCall (sp_is_name K) [] E0 (tCons (tVar 1) tNil)) [1]) tNil)) (tOp (gEq K) (tLenSetS K (tVar 0)) (tCB (gLen K) (tCons (tVar 0) tNil)))))
def t_is_fields (K : PySem.W.Frag) : TS :=
  (tSeq (tIfS (tOr (tNot (tB (tCB (gIsi K) (tCons (tVar 0) (tCons (tTup (tCons (tC (.ty "list")) (tCons (tC (.ty "tuple")) tNil))) tNil))))) (tNot (tTest (tChain (rI0 fun i j => .bl (decide (i ≤ j))) (rI0 fun i j => .bl (decide (i ≤ j))) (tC (.int 1)) (tCB (gLen K) (tCons (tVar 0) tNil)) (tC v_MOST_FIELDS))))) (tRet (tC (.bl false))) tNext)
  (t_is_fields_1 K))
theorem lc_names {J : It} {Gw : Hp → Prop} {a : Addr} {fs : List Str} {a1 : Option V} (w : Walk J (fs.map V.str).length Gw (YAt (fs.map V.str))) (hg : ∀ H', Ex G H' → Gw H') (S : Stt G H L) (h3 : fs.length ≤ 3) (hn : ∀ n, n ∈ fs → NameOk n)
    (q : ∀ D1 G2 H2, Ex G G2 → Stt G2 H2 ((D1, .lst ((fs.map fun _ => true).map V.bl)) :: L) → Q (.ref D1) H2) : LcG J (gName 1) tYes (tCall (sp_is_name K) [] E0 (tCons (tVar 1) tNil)) [1] [some (.ref a), a1] H Q := by
  refine lc_mapJ stt_world w S hg (by rw [List.length_map]; omega) (fun _ => rfl) (fun _ => .bl true) (fun x acc D1 G2 H2 hx e2 S2 Kp kp => ?_) (fun D1 G2 H2 e2 S2 => ?_)
  · obtain ⟨z, hz, rfl⟩ := List.mem_map.mp hx
    walk_at "gs"
    refine ⟨.str z, .str z, G2, _, rfl, S2, .str z, ?_, fun H3 S3 => ?_⟩
    · show z.length < 100000
      have := (nameOk_len (hn z hz)).2
      omega
    · rw [show isName (.str z) = true from (hn z hz).1]
      exact kp _ S3
  · have hb : ((fs.map V.str).map fun _ => V.bl true) = (fs.map fun _ => true).map V.bl := by rw [List.map_map, List.map_map]; rfl
    rw [hb] at S2
    exact q D1 G2 H2 e2 S2
theorem read_is_fields_1 {a : Addr} {fs : List Str} {a1 : Option V} (S : Stt G H L) (ha : SqE K G a (fs.map V.str)) (h3 : fs.length ≤ 3) (hn : ∀ n, n ∈ fs → NameOk n) (nd : fs.Nodup) (q : ∀ H', Stt G H' L → D.rt (.bl true) H') :
    t_is_fields_1 K D [some (.ref a), a1] H := by
  have tail : ∀ {D1 : Addr} {G2 H2 : Hp}, Ex G G2 → Stt G2 H2 ((D1, .lst ((fs.map fun _ => true).map V.bl)) :: L) → tOp (gEq K) (tLenSetS K (tVar 0)) (tCB (gLen K) (tCons (tVar 0) tNil)) [some (.ref a), a1] H2 D.rt := fun {D1 G2 H2} e2 S2 => by
    walk_at "gs"
    refine ⟨a, fs, rfl, (ha.ex (e2.trans S2.ex)), by omega, ?_⟩
    walk_at "gs"
    refine rd_lenE (ha.ex (e2.trans S2.ex)) ?_
    rw [dcount_nodup nd, List.length_map]
    walk_at "gs"
    rw [decide_eq_true rfl]
    exact q H2 (S2.drop.less e2)
  have all1 : ((fs.map fun _ => true).all id) = true := by rw [List.all_map]; exact List.all_eq_true.mpr fun _ _ => rfl
  unfold t_is_fields_1
  walk_at "gs"
  refine ⟨a, rfl, ?_⟩
  rcases ha with ha' | ha'
  · refine .inl ⟨⟨_, ex_l S.ex ha'⟩, lc_names walk_list (fun H' e' => ex_l e' ha') S h3 hn fun D1 G2 H2 e2 S2 => ?_⟩
    walk_at "gs"
    refine rd_all (sq_of (S2.at 0 rfl)) ?_
    rw [all1]
    exact rd_bl (rd_iT (tail e2 S2))
  · refine .inr ⟨⟨_, ex_t S.ex ha'⟩, lc_names walk_tup (fun H' e' => ex_t e' ha') S h3 hn fun D1 G2 H2 e2 S2 => ?_⟩
    walk_at "gs"
    refine rd_all (sq_of (S2.at 0 rfl)) ?_
    rw [all1]
    exact rd_bl (rd_iT (tail e2 S2))
theorem sat_is_fields {vs : List V} {E : XK} (h : sp_is_fields K vs H Q E) : vs.length = 1 ∧ t_is_fields K { nx := fun _ H' => Q .non H', rt := Q } (vs.map some ++ List.replicate (2 - vs.length) none) H := by
  obtain ⟨a, fs, G, L, rfl, S, ha, h0, h3, hn, nd, q⟩ := h
  refine ⟨rfl, ?_⟩
  unfold t_is_fields
  walk_at "gs"
  refine mk_tup stt_world S (by show 2 ≤ _; decide) fun tp G1 e1 S1 h1 => ?_
  walk_at "gs"
  refine rd_isE (S1.ex _ _ h1) (ha.ex (e1.trans S1.ex)) ?_
  walk_at "gs"
  refine rd_chain ?_
  walk_at "gs"
  refine rd_lenE (ha.ex (e1.trans S1.ex)) ?_
  rw [List.length_map]
  walk_at "gs"
  refine rd_dec (fun e => ?_) (fun e => absurd (show (1 : Int) ≤ (fs.length : Int) by omega) e)
  unfold v_MOST_FIELDS
  walk_at "gs"
  refine rd_decN (fun e => ?_) (fun e => absurd (show (fs.length : Int) ≤ 3 by omega) e)
  walk_at "gs"
  exact read_is_fields_1 S1 (ha.ex e1) h3 hn nd fun H' S' => q H' (S'.less e1)
end




theorem eqV_str (a b : Str) : eqV (.str a) (.str b) = decide (a = b) := by
  show (a == b) = _
  by_cases h : a = b
  · subst h
    rw [decide_eq_true rfl]
    exact beq_self_eq_true a
  · rw [decide_eq_false h]
    exact beq_eq_false_iff_ne.mpr h
theorem inV_str (z : Str) : ∀ us : List Str, inV (.str z) (us.map V.str) = decide (z ∈ us)
  | [] => rfl
  | u :: us => by
    have ih := inV_str z us
    unfold inV at ih ⊢
    rw [List.map_cons, List.any_cons, ih, eqV_str, ← Bool.decide_or]
    exact decide_eq_decide.mpr (by rw [List.mem_cons]; exact or_congr eq_comm Iff.rfl)
theorem flat_strs (us : List Str) : (us.map V.str).all flatV = true := by
  rw [List.all_map]; exact List.all_eq_true.mpr fun _ _ => rfl
theorem not_mem_take {α : Type} : ∀ (l : List α) (i : Nat) (a : α), l.Nodup → l[i]? = some a → a ∉ l.take i
  | [], i, a, _, h => by simp at h
  | x :: l, 0, a, _, _ => by simp
  | x :: l, i + 1, a, nd, h => by
    rw [List.take_succ_cons]
    have n1 := List.nodup_cons.mp nd
    have h2 : l[i]? = some a := h
    intro z
    rcases List.mem_cons.mp z with rfl | z
    · exact n1.1 (List.mem_of_getElem? h2)
    · exact not_mem_take l i a n1.2 h2 z
section
variable {K : PySem.W.Frag} [SK : SchK K] [CK : Consts K] {σ : L2.St} {G H : Hp} {L : List (Addr × HO)} {Q : VK} {D : Ends} {x dx tf tl : Addr} {te : TE}
theorem rd_inLs {u : Addr} {us : List Str} {z : Str} (h : SqL K H u (us.map V.str)) (q : Q (.bl (decide (z ∈ us))) H) : gIn K (.str z) (.ref u) H Q := .inr ⟨u, _, rfl, .inl h, rfl, flat_strs us, by rw [if_neg Bool.false_ne_true, inV_str]; exact q⟩
/-- isinstance(x, C), x an instance of the class at C -/
theorem rd_isC {a C dx : Addr} {fs : List (Str × V)} (I : InsK K C) (ob : H a = some (.ins C dx fs)) (q : Q (.bl true) H) : gIsi K [.ref a, .ref C] H Q :=
  .inl ⟨_, _, .ref C, .ref C, true, rfl, .own C, .base (.ins ob I.cl I.ha I.hn I.ht I.hm), by unfold PySem.W.kitOne; rw [if_pos (beq_self_eq_true _)], q⟩
def sp_is_list (K : PySem.W.Frag) : Sp := fun vs H Q _ => ∃ (p u : Addr) (n : Str) (v : V) (l : Lev) (us : List Str) (G : Hp) (L : List (Addr × HO)), vs = [.ref p, .ref u] ∧ Stt G H L ∧ SqT K G p [.str n, v] ∧ SchAt K G v l ∧ l.depth ≤ 2 ∧ l.good ∧ NameOk n ∧ n ∉ us ∧
  (∀ H', Stt G H' L → H' u = some (.lst (us.map V.str))) ∧ ∀ H', Stt G H' L → Q (.bl true) H'
def t_is_list_2 (K : PySem.W.Frag) : TS :=
  (tRet (tCB gBool (tCons (tOp (gLt K) (tProp (cls_at K "Schema") (sp_Schema_depth K 9) [] E0 (tOp (rIx K) (tVar 0) (tC (.int 1)))) (tC v_MOST_LEVELS)) tNil)))
def t_is_list_1 (K : PySem.W.Frag) : TS :=
  (tSeq (tIfS (tOr (tNot (tB (tCall (sp_is_name K) [] E0 (tCons (tOp (rIx K) (tVar 0) (tC (.int 0))) tNil)))) (tOr (tTest (tOp (gIn K) (tOp (rIx K) (tVar 0) (tC (.int 0))) (tVar 1))) (tNot (tB (tCB (gIsi K) (tCons (tOp (rIx K) (tVar 0) (tC (.int 1))) (tCons (tC (.ref (cls_at K "Schema"))) tNil))))))) (tRet (tC (.bl false))) tNext)
  (t_is_list_2 K))
def t_is_list (K : PySem.W.Frag) : TS :=
  (tSeq (tIfS (tOr (tNot (tB (tCB (gIsi K) (tCons (tVar 0) (tCons (tC (.ty "tuple")) tNil))))) (tTest (tOp (gNe K) (tCB (gLen K) (tCons (tVar 0) tNil)) (tC (.int 2))))) (tRet (tC (.bl false))) tNext)
  (t_is_list_1 K))
theorem sat_is_list {vs : List V} {E : XK} (h : sp_is_list K vs H Q E) : vs.length = 2 ∧ t_is_list K { nx := fun _ H' => Q .non H', rt := Q } (vs.map some ++ List.replicate (2 - vs.length) none) H := by
  obtain ⟨p, u, n, v, l, us, G, L, rfl, S, hp, hv, hd, gd, hn, hu, us_, q⟩ := h
  refine ⟨rfl, ?_⟩
  have np := nameOk_len hn
  unfold t_is_list
  walk_at "gs"
  refine .inl ⟨.ref p, .ty "tuple", .type "tuple", .type "tuple", true, rfl, .ty _, SqT.ty (ex_t S.ex hp), kit_ty kt_tuple_tuple, ?_⟩
  walk_at "gs"
  refine rd_lenT (ex_t S.ex hp) ?_
  walk_at "gs"
  unfold t_is_list_1
  walk_at "gs"
  refine ⟨.str n, .str n, G, _, rfl, S, .str n, by show n.length < 100000; omega, fun H1 S1 => ?_⟩
  rw [show isName (.str n) = true from hn.1]
  walk_at "gs"
  refine rd_inLs (sq_of (us_ H1 S1)) ?_
  walk_at "gs"
  refine rd_dec (fun e => absurd e hu) (fun _ => ?_)
  walk_at "gs"
  cases hv with
  | @mk x dx tf tl fs ls ps ob hf hl hA =>
  refine rd_isC SK.ins (S1.ex _ _ ob) ?_
  walk_at "gs"
  unfold t_is_list_2 v_MOST_LEVELS
  walk_at "gs"
  refine ⟨x, _, _, rfl, S1.ex _ _ ob, ?_⟩
  refine ⟨_, _, G, _, rfl, S1, .mk ob hf hl hA, by omega, gd, fun H2 S2 => ?_⟩
  walk_at "gs"
  have e : decide (((Lev.mk fs ls).depth : Int) < 3) = true := decide_eq_true (by omega)
  rw [e]
  exact q H2 S2
end




section
variable {K : PySem.W.Frag} [SK : SchK K] [CK : Consts K] {σ : L2.St} {G H : Hp} {L : List (Addr × HO)} {Q : VK} {D : Ends} {x dx tf tl : Addr} {te : TE}
def sp_init_a (K : PySem.W.Frag) : Sp := fun vs H Q _ => ∃ (x dx a : Addr) (ps : List Addr) (fs : List Str) (ls : LevL) (G : Hp) (L : List (Addr × HO)), vs = .ref x :: .ref a :: ps.map V.ref ∧ Stt G H ((x, .ins (cls_at K "Schema") dx []) :: L) ∧ SqE K G a (fs.map V.str) ∧ SchAll K G ps ls ∧
  (Lev.mk fs ls).good ∧ (Lev.mk fs ls).depth ≤ 3 ∧ ∀ G' H', Ex G G' → Stt G' H' L → SchAt K G' (.ref x) (.mk fs ls) → Q .non H'
/-- .. of a list that will change, without lists -/
def sp_init_b (K : PySem.W.Frag) : Sp := fun vs H Q _ => ∃ (x dx a : Addr) (fs : List Str) (G : Hp) (L : List (Addr × HO)), vs = [.ref x, .ref a] ∧ Stt G H ((x, .ins (cls_at K "Schema") dx []) :: L) ∧ (a, HO.lst (fs.map V.str)) ∈ L ∧
  (Lev.mk fs .nil).good ∧ ∀ G' H', Ex G G' → Stt G' H' L → SchAt K G' (.ref x) (.mk fs .nil) → Q .non H'
def sp_Schema_init (K : PySem.W.Frag) : Sp := fun vs H Q E => sp_init_a K vs H Q E ∨ sp_init_b K vs H Q E
def t_Schema_init_2b_1 (K : PySem.W.Frag) : TS :=
  (tDrop (tBM K "list" rAppend (tVar 3) (tCons (tOp (rIx K) (tVar 5) (tC (.int 0))) tNil)))
def t_Schema_init_2b (K : PySem.W.Frag) : TS :=
  (tSeq (tIfS (tOr (tTest (tOp (rI0 fun i j => .bl (decide (j ≤ i))) (tVar 4) (tC v_MOST_LISTS))) (tNot (tB (tCall (sp_is_list K) [] E0 (tCons (tVar 5) (tCons (tVar 3) tNil)))))) tNo tNext)
  (t_Schema_init_2b_1 K))
def t_Schema_init_4 (K : PySem.W.Frag) : TS :=
  (sFld K (tVar 0) (tCB (gTuple K) (tCons (tVar 2) tNil)) "_lists")
def t_Schema_init_3 (K : PySem.W.Frag) : TS :=
  (tSeq (sFld K (tVar 0) (tCB (gTuple K) (tCons (tVar 1) tNil)) "fields")
  (t_Schema_init_4 K))
def t_Schema_init_2 (K : PySem.W.Frag) : TS :=
  (tSeq (tFor (iEnumT K (tCons (tVar 2) tNil)) (gTup K 2 (gCons (gName 4) (gCons (gName 5) gNil))) (t_Schema_init_2b K))
  (t_Schema_init_3 K))
def t_Schema_init_1 (K : PySem.W.Frag) : TS :=
  (tSeq (tAsg (tCB (gList K) (tCons (tVar 1) tNil)) (gName 3))
  (t_Schema_init_2 K))
def t_Schema_init (K : PySem.W.Frag) : TS :=
  (tSeq (tIfS (tNot (tB (tCall (sp_is_fields K) [] E0 (tCons (tVar 1) tNil)))) tNo tNext)
  (t_Schema_init_1 K))
/-- the end: the fields are stored -/
theorem read_init_f {x dx a rt u tf : Addr} {ps : List Addr} {fs : List Str} {ls : LevL} {us : List V} {a4 a5 : Option V} (S1 : Stt G H ((u, .lst us) :: (x, .ins (cls_at K "Schema") dx []) :: L)) (hf : SqT K G tf (fs.map V.str)) (hr : SqT K G rt (ps.map V.ref)) (hA : SchAll K G ps ls)
    (q : ∀ G' H', Ex G G' → Stt G' H' L → SchAt K G' (.ref x) (.mk fs ls) → D.nx [some (.ref x), some (.ref a), some (.ref rt), some (.ref u), a4, a5] H') :
    ∃ a_1 C dx fs, V.ref x = V.ref a_1 ∧ H a_1 = some (.ins C dx fs) ∧ Cls K C ∧ NoAttr K C "fields" ∧ fs.length < 1000 ∧ t_Schema_init_4 K D [some (.ref x), some (.ref a), some (.ref rt), some (.ref u), a4, a5] (upd H a_1 (.ins C dx (putF "fields" (.ref tf) fs))) := by
  refine ⟨x, _, dx, [], rfl, S1.at 1 rfl, SK.ins.cl, SK.nF, by decide, ?_⟩
  have S2 : Stt G (upd H x _) ((u, .lst us) :: (x, .ins (cls_at K "Schema") dx (putF "fields" (.ref tf) [])) :: L) := S1.wr 1 rfl
  unfold t_Schema_init_4
  walk_at "gs"
  refine rd_gtupleT (ex_t S2.ex hr) ?_
  walk_at "gs"
  refine ⟨x, _, dx, _, rfl, S2.at 1 rfl, SK.ins.cl, SK.nL, by show 1 < 1000; decide, ?_⟩
  have S3 : Stt G (upd (upd H x _) x _) ((u, .lst us) :: (x, .ins (cls_at K "Schema") dx (schF tf rt)) :: L) := S2.wr 1 rfl
  have S4 := S3.drop
  have e4 := S4.frzE
  exact q _ _ e4 S4.frz (.mk upd_same (ex_t e4 hf) (ex_t e4 hr) (hA.ex e4))
theorem read_init_3 {x dx a rt u : Addr} {ps : List Addr} {fs : List Str} {ls : LevL} {us : List V} {a4 a5 : Option V} (S : Stt G H ((u, .lst us) :: (x, .ins (cls_at K "Schema") dx []) :: L)) (ha : SqL K H a (fs.map V.str) ∨ SqT K G a (fs.map V.str)) (hr : SqT K G rt (ps.map V.ref)) (hA : SchAll K G ps ls)
    (q : ∀ G' H', Ex G G' → Stt G' H' L → SchAt K G' (.ref x) (.mk fs ls) → D.nx [some (.ref x), some (.ref a), some (.ref rt), some (.ref u), a4, a5] H') : t_Schema_init_3 K D [some (.ref x), some (.ref a), some (.ref rt), some (.ref u), a4, a5] H := by
  unfold t_Schema_init_3
  walk_at "gs"
  rcases ha with ha | ha
  · refine rd_gtupleL ha ?_
    refine mk_im (o := .tup (fs.map V.str)) stt_world S fun tf G1 e1 S1 h1 => ?_
    walk_at "gs"
    exact read_init_f S1 (st_of h1) (ex_t e1 hr) (hA.ex e1) fun G' H' e' => q G' H' (e1.trans e')
  · refine rd_gtupleT (ex_t S.ex ha) ?_
    walk_at "gs"
    exact read_init_f S ha hr hA q
/-- for a while, what may change is held as what stays -/
theorem Stt.lend {a : Addr} {o : HO} (S : Stt G H L) (hm : (a, o) ∈ L) : Stt (upd G a o) H (L.filter fun q => decide (q.1 ≠ a)) ∧ ∀ H', Stt (upd G a o) H' (L.filter fun q => decide (q.1 ≠ a)) → Stt G H' L := by
  have ga : G a = none := S.out _ hm
  have one : ∀ q, q ∈ L → q.1 = a → q = (a, o) := fun q hq e => by
    have h1 := S.has q hq
    have h2 := S.has _ hm
    rw [e, h2] at h1
    exact Prod.ext e (Option.some.inj h1).symm
  refine ⟨⟨fun b u e => ?_, fun q hq => S.has q (List.mem_filter.mp hq).1, fun q hq => ?_, ?_⟩, fun H' S' => ⟨fun b u e => S'.ex b u ?_, fun q hq => ?_, S.out, S.nd⟩⟩
  · unfold upd at e
    by_cases c : b = a
    · rw [if_pos c] at e
      rw [c, ← e]
      exact S.has _ hm
    · rw [if_neg c] at e; exact S.ex b u e
  · have h := List.mem_filter.mp hq
    rw [upd_ne (of_decide_eq_true h.2)]
    exact S.out q h.1
  · exact List.Nodup.sublist (List.Sublist.map _ List.filter_sublist) S.nd
  · by_cases c : b = a
    · rw [c, ga] at e; cases e
    · rw [upd_ne c]; exact e
  · by_cases c : q.1 = a
    · rw [one q hq c]
      exact S'.ex a o upd_same
    · exact S'.has q (List.mem_filter.mpr ⟨hq, decide_eq_true c⟩)
theorem read_init {x dx a rt : Addr} {ps : List Addr} {fs : List Str} {ls : LevL} {a3 a4 a5 : Option V} (S : Stt G H ((x, .ins (cls_at K "Schema") dx []) :: L)) (ha : SqE K G a (fs.map V.str)) (hr : SqT K G rt (ps.map V.ref)) (hA : SchAll K G ps ls)
    (gd : (Lev.mk fs ls).good) (hd : (Lev.mk fs ls).depth ≤ 3) (q : ∀ σ' G' H', Ex G G' → Stt G' H' L → SchAt K G' (.ref x) (.mk fs ls) → D.nx σ' H') : t_Schema_init K D [some (.ref x), some (.ref a), some (.ref rt), a3, a4, a5] H := by
  have gd' := gd
  rw [Lev.good] at gd
  rw [Lev.depth] at hd
  obtain ⟨g0, g3, gn, nd, g2, gl⟩ := gd
  have hlen := SchAll.len hA
  unfold t_Schema_init
  walk_at "gs"
  refine ⟨a, fs, G, _, rfl, S, ha, g0, g3, gn, (List.nodup_append.mp nd).1, fun H1 S1 => ?_⟩
  walk_at "gs"
  unfold t_Schema_init_1
  walk_at "gs"
  refine ⟨a, _, rfl, ha.ex S1.ex, ?_⟩
  refine mk_mu (o := .lst (fs.map V.str)) stt_world S1 fun u S2 => ?_
  walk_at "gs"
  unfold t_Schema_init_2
  walk_at "gs"
  refine ⟨rt, _, rfl, ex_t S2.ex hr, ?_⟩
  refine for_go (walk_enumT (a := rt) (xs := ps.map V.ref)) (G := G)
    (fun i σ1 G2 H2 => ∃ x4 x5, σ1 = [some (.ref x), some (.ref a), some (.ref rt), some (.ref u), x4, x5] ∧ Ex G G2 ∧ Stt G2 H2 ((u, .lst ((fs ++ ls.names.take i).map V.str)) :: (x, .ins (cls_at K "Schema") dx []) :: L))
    ⟨_, _, rfl, Ex.refl G, by rw [List.take_zero, List.append_nil]; exact S2⟩ (fun i σ1 G2 H2 _ ⟨_, _, _, e2, S2⟩ => ex_t (e2.trans S2.ex) hr) ?_ ?_
  · rintro i v σ1 G2 H2 H3 hi ⟨x4, x5, rfl, e2, S2⟩ y N hN
    obtain ⟨T, c, z, rfl, hT, rfl, hc, hz⟩ := y
    cases hc
    have S3 := S2.new (o := .tup [.int (i : Nat), z]) hT
    have e3 := S2.newE (o := .tup [.int (i : Nat), z]) hT
    obtain ⟨p, nm, w, l, rfl, hp, hn, hl, hv⟩ := SchAll.at hA hz
    have e23 := e2.trans e3
    have ht : SqT K (upd H2 T (.tup [.int (i : Nat), .ref p])) T [.int (i : Nat), .ref p] := st_of upd_same
    rw [List.length_map] at hi
    have hi2 : i < 2 := by omega
    refine rd_gtup2 ht ?_
    unfold t_Schema_init_2b
    walk_at "gs"
    unfold v_MOST_LISTS
    walk_at "gs"
    refine rd_dec (fun e => absurd e (by omega)) (fun _ => ?_)
    walk_at "gs"
    have notin : nm ∉ fs ++ ls.names.take i := by
      have h := not_mem_take (fs ++ ls.names) (fs.length + i) nm nd (by rw [List.getElem?_append_right (Nat.le_add_right _ _), Nat.add_sub_cancel_left]; exact hn)
      rw [List.take_append, List.take_of_length_le (Nat.le_add_right _ _), Nat.add_sub_cancel_left] at h
      exact h
    have dl := LevL.depth_get ls i l hl
    refine ⟨p, u, nm, w, l, fs ++ ls.names.take i, _, _, rfl, S3, ex_t e23 hp, hv.ex e23, by omega, LevL.good_get ls i l gl hl, LevL.name_get ls i nm gl hn, notin, fun H' S' => S'.at 0 rfl, fun H4 S4 => ?_⟩
    walk_at "gs"
    unfold t_Schema_init_2b_1
    walk_at "gs"
    refine ⟨ty_list (sq_of (S4.at 0 rfl)), ?_⟩
    walk_at "gs"
    refine rd_ixT (i := 0) (v := .str nm) (ex_t (e23.trans S4.ex) hp) rfl ?_
    walk_at "gs"
    refine rd_app (S4.at 0 rfl) (by rw [List.length_map, List.length_append, List.length_take]; omega) ?_
    refine hN _ (upd G2 T (.tup [.int (i : Nat), .ref p])) _ ⟨_, _, rfl, e23, ?_⟩
    have e : (fs ++ ls.names.take (i + 1)).map V.str = (fs ++ ls.names.take i).map V.str ++ [V.str nm] := by
      rw [List.take_add_one, hn, ← List.append_assoc, List.map_append]
      rfl
    rw [e]
    exact S4.wr 0 rfl
  · rintro σ1 G2 H2 ⟨x4, x5, rfl, e2, S2⟩
    exact read_init_3 S2 (ha.imp (fun h => ex_l (e2.trans S2.ex) h) (ex_t e2)) (ex_t e2 hr) (hA.ex e2) fun G' H' e' S' h' => q _ G' H' (e2.trans e') S' h'
theorem read_init_b {x dx a rt : Addr} {fs : List Str} {a3 a4 a5 : Option V} (S : Stt G H ((x, .ins (cls_at K "Schema") dx []) :: L)) (hm : (a, HO.lst (fs.map V.str)) ∈ L) (hr : SqT K G rt [])
    (gd : (Lev.mk fs .nil).good) (q : ∀ σ' G' H', Ex G G' → Stt G' H' L → SchAt K G' (.ref x) (.mk fs .nil) → D.nx σ' H') : t_Schema_init K D [some (.ref x), some (.ref a), some (.ref rt), a3, a4, a5] H := by
  rw [Lev.good] at gd
  obtain ⟨g0, g3, gn, nd, g2, gl⟩ := gd
  have Z := Stt.lend S (List.mem_cons_of_mem _ hm)
  unfold t_Schema_init
  walk_at "gs"
  refine ⟨a, fs, _, _, rfl, Z.1, .inl (sq_of upd_same), g0, g3, gn, (List.nodup_append.mp nd).1, fun H1 Z1 => ?_⟩
  have S1 := Z.2 H1 Z1
  walk_at "gs"
  unfold t_Schema_init_1
  walk_at "gs"
  refine ⟨a, _, rfl, .inl (sq_of (S1.has _ (List.mem_cons_of_mem _ hm))), ?_⟩
  refine mk_mu (o := .lst (fs.map V.str)) stt_world S1 fun u S2 => ?_
  walk_at "gs"
  unfold t_Schema_init_2
  walk_at "gs"
  refine ⟨rt, _, rfl, ex_t S2.ex hr, ?_⟩
  refine for_go (walk_enumT (a := rt) (xs := [])) (G := G)
    (fun i σ1 G2 H2 => ∃ x4 x5, σ1 = [some (.ref x), some (.ref a), some (.ref rt), some (.ref u), x4, x5] ∧ Ex G G2 ∧ Stt G2 H2 ((u, .lst (fs.map V.str)) :: (x, .ins (cls_at K "Schema") dx []) :: L))
    ⟨_, _, rfl, Ex.refl G, S2⟩ (fun i σ1 G2 H2 _ ⟨_, _, _, e2, S2⟩ => ex_t (e2.trans S2.ex) hr) ?_ ?_
  · rintro i v σ1 G2 H2 H3 hi
    exact absurd hi (Nat.not_lt_zero i)
  · rintro σ1 G2 H2 ⟨x4, x5, rfl, e2, S2⟩
    exact read_init_3 (ps := []) (ls := .nil) S2 (.inl (sq_of (S2.has _ (List.mem_cons_of_mem _ (List.mem_cons_of_mem _ hm))))) (ex_t e2 hr) .nil fun G' H' e' S' h' => q _ G' H' (e2.trans e') S' h'
theorem sat_Schema_init {vs : List V} {E : XK} (h : sp_Schema_init K vs H Q E) : ∃ ws rest, vs = ws ++ rest ∧ ws.length = 2 ∧ rest.length ≤ sizeLine ∧ ∀ p, H p = none → (ws ++ [V.ref p]).length = 3 ∧ t_Schema_init K { nx := fun _ H' => Q .non H', rt := Q } ((ws ++ [V.ref p]).map some ++ List.replicate (6 - (ws ++ [V.ref p]).length) none) (upd H p (.tup rest)) := by
  rcases h with h | ⟨x, dx, a, fs, G, L, rfl, S, hm, gd, q⟩
  rotate_left
  · refine ⟨[.ref x, .ref a], [], rfl, rfl, Nat.zero_le _, fun p hp => ⟨rfl, ?_⟩⟩
    have S1 := S.new (o := .tup []) hp
    have e1 := S.newE (o := .tup []) hp
    exact read_init_b S1 hm (st_of upd_same) gd fun σ' G' H' e' S' h' => q G' H' (e1.trans e') S' h'
  obtain ⟨x, dx, a, ps, fs, ls, G, L, rfl, S, ha, hA, gd, hd, q⟩ := h
  have hlen := SchAll.len hA
  have g2 : ls.names.length ≤ 2 := by rw [Lev.good] at gd; exact gd.2.2.2.2.1
  refine ⟨[.ref x, .ref a], ps.map V.ref, rfl, rfl, sz_of (by rw [List.length_map]; omega), fun p hp => ⟨rfl, ?_⟩⟩
  have S1 := S.new (o := .tup (ps.map V.ref)) hp
  have e1 := S.newE (o := .tup (ps.map V.ref)) hp
  exact read_init S1 (ha.ex e1) (st_of upd_same) (hA.ex e1) gd hd fun σ' G' H' e' S' h' => q G' H' (e1.trans e') S' h'
end




theorem SchAll.of {K : PySem.W.Frag} {H : Hp} : ∀ {ps : List Addr} {ls : LevL}, ps.length = ls.names.length → (∀ (j : Nat) (p : Addr), ps[j]? = some p → ∃ n v l, ls.names[j]? = some n ∧ ls.levs[j]? = some l ∧ SqT K H p [.str n, v] ∧ SchAt K H v l) → SchAll K H ps ls
  | [], .nil, _, _ => .nil
  | p :: ps, .cons n l r, h, f => by
    obtain ⟨n2, v, l2, h1, h2, h3, h4⟩ := f 0 p rfl
    rw [LevL.names] at h1
    rw [LevL.levs] at h2
    cases (Option.some.inj h1)
    cases (Option.some.inj h2)
    rw [LevL.names, List.length_cons, List.length_cons] at h
    refine .cons h3 h4 (SchAll.of (Nat.succ.inj h) fun j p hj => ?_)
    obtain ⟨n3, v3, l3, g1, g2, g3⟩ := f (j + 1) p hj
    rw [LevL.names] at g1
    rw [LevL.levs] at g2
    exact ⟨n3, v3, l3, g1, g2, g3⟩
  | [], .cons _ _ _, h, _ => by rw [LevL.names] at h; cases h
  | _ :: _, .nil, h, _ => by rw [LevL.names] at h; cases h
section
variable {K : PySem.W.Frag} [SK : SchK K] [CK : Consts K] {σ : L2.St} {G H : Hp} {L : List (Addr × HO)} {Q : VK} {D : Ends} {x y z : V} {te : TE}
def sp_read_level (K : PySem.W.Frag) (n : Nat) : Sp := fun vs H Q _ => ∃ (l : Lev) (d : Int) (G : Hp) (L : List (Addr × HO)), vs = [.str (SX.S l.tx), .int d] ∧ Stt G H L ∧ l.good ∧ l.depth ≤ n ∧ 1 ≤ d ∧ d + l.depth ≤ 4 ∧
  ∀ v G' H', Ex G G' → Stt G' H' L → SchAt K G' v l → Q v H'
def sp_read_part (K : PySem.W.Frag) (n : Nat) : Sp := fun vs H Q _ => ∃ (nm : Str) (l : Lev) (d : Int) (G : Hp) (L : List (Addr × HO)), vs = [.str (SX.S (cps nm ++ (40 :: (l.tx ++ [41])))), .int d] ∧ Stt G H L ∧ NameOk nm ∧ l.good ∧ l.depth ≤ n ∧ 0 ≤ d ∧ d + 1 + l.depth ≤ 4 ∧
  ∀ p v G' H', Ex G G' → Stt G' H' L → SqT K G' p [.str nm, v] → SchAt K G' v l → Q (.ref p) H'
theorem never_read_level (K : PySem.W.Frag) : ∀ vs H Q E, sp_read_level K 0 vs H Q E → False := fun vs H Q E ⟨l, d, G, L, _, _, _, h, _⟩ => by
  have := l.depth_pos
  omega
def t_read_part_1 (K : PySem.W.Frag) (n : Nat) : TS :=
  (tRet (tTup (tCons (tVar 2) (tCons (tCall (sp_read_level K n) [] E0 (tCons (tSl (gSl K) (tVar 4) tNoPart (tPart (tUn (rU fun i => .int (-i)) (tC (.int 1))))) (tCons (tOp (gAdd K) (tVar 1) (tC (.int 1))) tNil))) tNil))))
def t_read_part (K : PySem.W.Frag) (n : Nat) : TS :=
  (tSeq (tAsg (tBM K "str" rPart (tVar 0) (tCons (tC (.str "(")) tNil)) (gTup K 3 (gCons (gName 2) (gCons (gName 3) (gCons (gName 4) gNil)))))
  (t_read_part_1 K n))
def t_read_level_4 (K : PySem.W.Frag) (n : Nat) : TS :=
  (tRet (StX.tMakeR (cls_at K "Schema") (sp_Schema_init K) E0 (tCons (tVar 3) (StX.tStar K (tVar 4) tNil))))
def t_read_level_3 (K : PySem.W.Frag) (n : Nat) : TS :=
  (tSeq (tAsg (tLc (iList K (tVar 2)) (gName 5) (tTest (tOp (gIn K) (tC (.str "(")) (tVar 5))) (tCall (sp_read_part K n) [] E0 (tCons (tVar 5) (tCons (tVar 1) tNil))) [5]) (gName 4))
  (t_read_level_4 K n))
def t_read_level_2 (K : PySem.W.Frag) (n : Nat) : TS :=
  (tSeq (tAsg (tLc (iList K (tVar 2)) (gName 5) (tTest (tOp (gNotIn K) (tC (.str "(")) (tVar 5))) (tVar 5) [5]) (gName 3))
  (t_read_level_3 K n))
def t_read_level_1 (K : PySem.W.Frag) (n : Nat) : TS :=
  (tSeq (tAsg (tCall (sp_top_words K) [] E0 (tCons (tVar 0) tNil)) (gName 2))
  (t_read_level_2 K n))
def t_read_level (K : PySem.W.Frag) (n : Nat) : TS :=
  (tSeq (tIfS (tTest (tOp (rI0 fun i j => .bl (decide (j < i))) (tVar 1) (tC v_MOST_LEVELS))) tNo tNext)
  (t_read_level_1 K n))
theorem sat_read_part {n : Nat} {vs : List V} {E : XK} (h : sp_read_part K n vs H Q E) : vs.length = 2 ∧ t_read_part K n { nx := fun _ H' => Q .non H', rt := Q } (vs.map some ++ List.replicate (5 - vs.length) none) H := by
  obtain ⟨nm, l, d, G, L, rfl, S, hn, gd, hd, d0, d4, q⟩ := h
  refine ⟨rfl, ?_⟩
  have small := Lev.tx_small gd (by omega)
  have nl := name_len hn
  have hp : Txt.partition (SX.S (cps nm ++ (40 :: (l.tx ++ [41])))) (SX.S [40]) = (SX.S (cps nm), SX.S [40], SX.S (l.tx ++ [41])) :=
    SX.partition_some (by simp) (SX.par_head (c := 40) (sep := []) (l.tx ++ [41]) fun z => (name_plain hn 40 z).2.1 rfl)
  unfold t_read_part
  walk_at "gs"
  refine ⟨rfl, ?_⟩
  walk_at "gs"
  refine ⟨_, SX.S [40], rfl, rfl, rfl, sz_of (by rw [len_S, List.length_append, List.length_cons, List.length_append, List.length_singleton]; omega), ?_⟩
  rw [hp]
  refine mk_im (o := .tup [.str (SX.S (cps nm)), .str (SX.S [40]), .str (SX.S (l.tx ++ [41]))]) stt_world S fun T G1 e1 S1 h1 => ?_
  refine rd_gtup3 (st_of (S1.ex _ _ h1)) ?_
  unfold t_read_part_1
  walk_at "gs"
  refine rd_slS (sz_of (by rw [len_S, List.length_append, List.length_singleton]; omega)) ?_
  rw [C8.cutS_slice, show (-(1 : Int)) = -1 from rfl, SX.butlast_snoc]
  walk_at "gs"
  refine ⟨l, d + 1, G1, _, rfl, S1, gd, hd, by omega, by omega, fun v G2 H2 e2 S2 hv => ?_⟩
  walk_at "gs"
  rw [S_cps]
  refine mk_tup stt_world S2 (by show 2 ≤ _; decide) fun p G3 e3 S3 h3 => ?_
  exact q p v G3 _ (e1.trans (e2.trans e3)) S3 (st_of h3) (hv.ex e3)
theorem words_get (fs : List Str) (ls : LevL) (i : Nat) (x : V) (h : ((fs.map cps ++ ls.tws).map fun w => V.str (SX.S w))[i]? = some x) :
    (∃ f, fs[i]? = some f ∧ x = .str f) ∨ (fs.length ≤ i ∧ ∃ n l, ls.names[i - fs.length]? = some n ∧ ls.levs[i - fs.length]? = some l ∧ x = .str (SX.S (cps n ++ (40 :: (l.tx ++ [41]))))) := by
  rw [List.getElem?_map] at h
  by_cases c : i < fs.length
  · rw [List.getElem?_append_left (by rw [List.length_map]; exact c), List.getElem?_map, List.getElem?_eq_getElem c] at h
    refine .inl ⟨fs[i], List.getElem?_eq_getElem c, ?_⟩
    have h : V.str (SX.S (cps fs[i])) = x := Option.some.inj h
    rw [← h, S_cps]
  · have c2 : fs.length ≤ i := by omega
    rw [List.getElem?_append_right (by rw [List.length_map]; exact c2), List.length_map] at h
    have hl : i - fs.length < ls.names.length := by
      rw [← LevL.len_tws]
      cases e : ls.tws[i - fs.length]? with
      | none => rw [e] at h; exact nomatch h
      | some w => exact (List.getElem?_eq_some_iff.mp e).1
    have h1 : ls.names[i - fs.length]? = some ls.names[i - fs.length] := List.getElem?_eq_getElem hl
    have h2 : ls.levs[i - fs.length]? = some (ls.levs[i - fs.length]'(by rw [LevL.len_levs]; exact hl)) := List.getElem?_eq_getElem _
    have h3 := LevL.tws_get ls _ _ _ h1 h2
    rw [h3] at h
    exact .inr ⟨c2, _, _, h1, h2, (Option.some.inj h).symm⟩
theorem filter_fields (fs : List Str) (ls : LevL) (hf : ∀ n, n ∈ fs → NameOk n) :
    (((fs.map cps ++ ls.tws).map fun w => V.str (SX.S w)).filter fun x => match x with | .str z => !decide (40 ∈ cps z) | _ => false) = fs.map V.str := by
  rw [List.map_append, List.filter_append, ← strs_texts]
  have h1 : (fs.map V.str).filter (fun x => match x with | .str z => !decide (40 ∈ cps z) | _ => false) = fs.map V.str := List.filter_eq_self.mpr fun x hx => by
    obtain ⟨n, hn, rfl⟩ := List.mem_map.mp hx
    show (!decide (40 ∈ cps n)) = true
    rw [decide_eq_false fun z => (name_plain (hf n hn) 40 z).2.1 rfl]
    rfl
  have h2 : (ls.tws.map fun w => V.str (SX.S w)).filter (fun x => match x with | .str z => !decide (40 ∈ cps z) | _ => false) = [] := List.filter_eq_nil_iff.mpr fun x hx => by
    obtain ⟨w, hw, rfl⟩ := List.mem_map.mp hx
    show ¬ (!decide (40 ∈ cps (SX.S w))) = true
    rw [decide_eq_true (show 40 ∈ cps (SX.S w) from tws_open ls w hw)]
    decide
  rw [h1, h2, List.append_nil]
theorem sat_read_level {n : Nat} {vs : List V} {E : XK} (h : sp_read_level K (n + 1) vs H Q E) : vs.length = 2 ∧ t_read_level K n { nx := fun _ H' => Q .non H', rt := Q } (vs.map some ++ List.replicate (6 - vs.length) none) H := by
  obtain ⟨l, d, G, L, rfl, S, gd, hd, d1, d4, q⟩ := h
  refine ⟨rfl, ?_⟩
  have dp := l.depth_pos
  have small := Lev.tx_small gd (by omega)
  have tw := Lev.topW l gd
  unfold t_read_level v_MOST_LEVELS
  walk_at "gs"
  refine rd_dec (fun e => absurd e (by omega)) (fun _ => ?_)
  walk_at "gs"
  unfold t_read_level_1
  walk_at "gs"
  refine ⟨l.tx, G, _, rfl, by omega, S, fun wa G1 H1 e1 S1 hw => ?_⟩
  rw [tw] at hw
  obtain ⟨fs, ls⟩ := l
  have gd2 := gd
  rw [Lev.good] at gd2
  obtain ⟨g0, g3, gn, nd, g2, gl⟩ := gd2
  rw [Lev.depth] at hd d4
  have hlt := LevL.len_tws ls
  have hlv := LevL.len_levs ls
  have hwl : ((fs.map cps ++ ls.tws).map fun w => V.str (SX.S w)).length = fs.length + ls.names.length := by rw [List.length_map, List.length_append, List.length_map, hlt]
  walk_at "gs"
  unfold t_read_level_2
  walk_at "gs"
  refine ⟨wa, rfl, ⟨_, ex_l S1.ex hw⟩, ?_⟩
  refine lc_filterJ stt_world (walk_list (K := K) (a := wa) (xs := (fs.map cps ++ ls.tws).map fun w => V.str (SX.S w))) S1 (fun H' e' => ex_l e' hw) (by rw [hwl]; omega) (fun _ => rfl) (fun x => x) (fun x => match x with | .str z => !decide (40 ∈ cps z) | _ => false)
    (fun x acc D1 G2 H2 hx e2 S2 Kt kt => ?_) (fun x acc D1 G2 H2 hx hp e2 S2 Kp kp => ?_) (fun fa G2 H2 e2 S2 => ?_)
  · obtain ⟨w, hw2, rfl⟩ := List.mem_map.mp hx
    walk_at "gs"
    exact rd_notInS (rd_bl (kt H2 S2))
  · walk_at "gs"
    exact kp H2 S2
  rw [List.map_id', filter_fields fs ls gn] at S2
  have S3 := S2.frz
  have e3 := S2.frzE
  have hfa : SqL K (upd G2 fa (.lst (fs.map V.str))) fa (fs.map V.str) := sq_of upd_same
  generalize upd G2 fa (.lst (fs.map V.str)) = G3 at *
  have e13 := e2.trans e3
  walk_at "gs"
  unfold t_read_level_3
  walk_at "gs"
  refine ⟨wa, rfl, ⟨_, ex_l (e13.trans S3.ex) hw⟩, ?_⟩
  refine lc_go stt_world (walk_list (K := K) (a := wa) (xs := (fs.map cps ++ ls.tws).map fun w => V.str (SX.S w))) S3 (by rw [hwl]; omega) (fun i v _ => ((fs.map cps ++ ls.tws).map fun w => V.str (SX.S w))[i]? = some v)
    (fun i acc G4 => ∃ ps : List Addr, acc = ps.map V.ref ∧ ps.length = i - fs.length ∧ ∀ (j : Nat) (p : Addr), ps[j]? = some p → ∃ n v l, ls.names[j]? = some n ∧ ls.levs[j]? = some l ∧ SqT K G4 p [.str n, v] ∧ SchAt K G4 v l)
    (fun H' e' => ex_l (e13.trans e') hw) (fun i x G1 H1 H2 L1 _ e1 S1 y => item_at S1 y) ⟨[], rfl, by simp, fun j p h => by simp at h⟩ (fun i acc Ga Gb e ⟨ps, h1, h2, h3⟩ => ⟨ps, h1, h2, fun j p h => have ⟨n, v, l, a, b, c, d⟩ := h3 j p h; ⟨n, v, l, a, b, ex_t e c, d.ex e⟩⟩) ?_ ?_
  · intro D1 i x acc G4 H4 hi _ e4 S4 ⟨ps, hacc, hpl, hps⟩ it Kp Sk kp sk
    refine rd_name ⟨rfl, ?_⟩
    rcases words_get fs ls i x it with ⟨f, hf, rfl⟩ | ⟨hi2, nm, l2, hn, hl, rfl⟩
    · have hlt2 : i < fs.length := (List.getElem?_eq_some_iff.mp hf).1
      walk_at "gs"
      refine .inl ⟨40, f, rfl, rfl, ?_⟩
      walk_at "gs"
      refine rd_dec (fun e => absurd rfl (name_plain (gn f (List.mem_of_getElem? hf)) 40 e).2.1) (fun _ => ?_)
      exact sk G4 H4 (Ex.refl _) S4 ⟨ps, hacc, by omega, hps⟩
    · walk_at "gs"
      refine .inl ⟨40, _, rfl, rfl, ?_⟩
      walk_at "gs"
      refine rd_dec (fun _ => ?_) (fun e => absurd (show 40 ∈ cps nm ++ (40 :: (l2.tx ++ [41])) from List.mem_append_right _ (List.mem_cons_self ..)) e)
      walk_at "gs"
      have dl := LevL.depth_get ls _ l2 hl
      refine ⟨nm, l2, d, G4, _, rfl, S4, LevL.name_get ls _ nm gl hn, LevL.good_get ls _ l2 gl hl, by omega, by omega, by omega, fun p v G5 H5 e5 S5 hp hv => ?_⟩
      refine kp _ G5 H5 e5 S5 ⟨ps ++ [p], by rw [hacc, List.map_append]; rfl, by rw [List.length_append, List.length_singleton]; omega, fun j p2 hj => ?_⟩
      rcases Nat.lt_trichotomy j ps.length with hj2 | hj2 | hj2
      · rw [List.getElem?_append_left hj2] at hj
        obtain ⟨n3, v3, l3, a, b, c, d⟩ := hps j p2 hj
        exact ⟨n3, v3, l3, a, b, ex_t e5 c, d.ex e5⟩
      · subst hj2
        rw [List.getElem?_append_right (Nat.le_refl _), Nat.sub_self] at hj
        cases (Option.some.inj hj)
        rw [hpl]
        exact ⟨nm, v, l2, hn, hl, hp, hv⟩
      · rw [List.getElem?_eq_none (by rw [List.length_append, List.length_singleton]; omega)] at hj
        cases hj
  · intro la acc G4 H4 e4 S4 ⟨ps, hacc, hpl, hps⟩ _
    subst hacc
    rw [hwl] at hpl
    have hA : SchAll K G4 ps ls := SchAll.of (by omega) hps
    have S5 := S4.frz
    have e5 := S4.frzE
    have hla : SqL K (upd G4 la (.lst (ps.map V.ref))) la (ps.map V.ref) := sq_of upd_same
    generalize upd G4 la (.lst (ps.map V.ref)) = G5 at *
    walk_at "gs"
    unfold t_read_level_4
    walk_at "gs"
    refine ⟨la, _, rfl, .inr (ex_l S5.ex hla), ?_⟩
    walk_at "gs"
    intro x dx hx hdx ne
    have S6 := S5.new (o := .own x) hdx
    have e6 := S5.newE (o := .own x) hdx
    have S7 := S6.mkL (p := x) (o := .ins (cls_at K "Schema") dx []) (by rw [upd_ne (Ne.symm ne)]; exact hx)
    have e46 := e5.trans e6
    refine .inl ⟨x, dx, fa, ps, fs, ls, _, _, by rw [List.append_nil], S7, .inl (ex_l (e4.trans e46) hfa), hA.ex e46, gd, by rw [Lev.depth]; omega, fun G8 H8 e8 S8 h8 => ⟨rfl, ?_⟩⟩
    exact q _ G8 H8 (e1.trans (e13.trans (e4.trans (e46.trans e8)))) S8 h8
end




/-! ### the law's own levels -/
theorem dp_strs {K : PySem.W.Frag} {H : Hp} : ∀ {us : List V} {fs : List Str}, DpAll K H us (fs.map PyData.str) → us = fs.map V.str
  | _, [], .nil => rfl
  | _, f :: fs, .cons h r => by
    cases h
    rw [dp_strs r]
    rfl
def LvAll (K : PySem.W.Frag) (H : Hp) (qs : List Addr) (ls : LevL) : Prop := qs.length = ls.names.length ∧ ∀ (j : Nat) (p : Addr), qs[j]? = some p → ∃ n v l, ls.names[j]? = some n ∧ ls.levs[j]? = some l ∧ SqT K H p [.str n, v] ∧ Dp K H v l.dat
theorem LvAll.ex {K : PySem.W.Frag} {H H' : Hp} {qs : List Addr} {ls : LevL} (e : Ex H H') (h : LvAll K H qs ls) : LvAll K H' qs ls := ⟨h.1, fun j p hj => have ⟨n, v, l, a, b, c, d⟩ := h.2 j p hj; ⟨n, v, l, a, b, ex_t e c, Dp.ex e _ _ d⟩⟩
theorem lvAll_inv {K : PySem.W.Frag} {H : Hp} : ∀ {us : List V} {ls : LevL}, DpAll K H us ls.dats → ∃ qs : List Addr, us = qs.map V.ref ∧ LvAll K H qs ls
  | us, .nil, h => by
    rw [LevL.dats] at h
    cases h
    exact ⟨[], rfl, rfl, fun j p hj => by simp at hj⟩
  | us, .cons n l r, h => by
    rw [LevL.dats] at h
    cases h with
    | cons h1 h2 =>
      cases h1 with
      | @tup p xs _ hs ha =>
        cases ha with
        | cons a1 a2 =>
          cases a1
          cases a2 with
          | @cons v d vs ds b1 b2 =>
            cases b2
            obtain ⟨qs, rfl, hl, hq⟩ := lvAll_inv h2
            refine ⟨p :: qs, rfl, by rw [List.length_cons, hl, LevL.names, List.length_cons], fun j p2 hj => ?_⟩
            cases j with
            | zero =>
              cases (Option.some.inj hj)
              exact ⟨n, v, l, by rw [LevL.names]; rfl, by rw [LevL.levs]; rfl, hs, b1⟩
            | succ j =>
              obtain ⟨n3, v3, l3, g1, g2, g3⟩ := hq j p2 hj
              exact ⟨n3, v3, l3, by rw [LevL.names]; exact g1, by rw [LevL.levs]; exact g2, g3⟩
theorem lvAll_mk {K : PySem.W.Frag} {H : Hp} : ∀ {qs : List Addr} {ls : LevL}, LvAll K H qs ls → DpAll K H (qs.map V.ref) ls.dats
  | [], .nil, _ => by rw [LevL.dats]; exact .nil
  | p :: qs, .cons n l r, ⟨h, f⟩ => by
    rw [LevL.dats]
    obtain ⟨n2, v, l2, h1, h2, h3, h4⟩ := f 0 p rfl
    rw [LevL.names] at h1
    rw [LevL.levs] at h2
    cases (Option.some.inj h1)
    cases (Option.some.inj h2)
    rw [LevL.names, List.length_cons, List.length_cons] at h
    refine .cons (.tup h3 (.cons (.str n) (.cons h4 .nil))) (lvAll_mk ⟨Nat.succ.inj h, fun j p hj => ?_⟩)
    obtain ⟨n3, v3, l3, g1, g2, g3⟩ := f (j + 1) p hj
    rw [LevL.names] at g1
    rw [LevL.levs] at g2
    exact ⟨n3, v3, l3, g1, g2, g3⟩
  | [], .cons _ _ _, ⟨h, _⟩ => by rw [LevL.names] at h; cases h
  | _ :: _, .nil, ⟨h, _⟩ => by rw [LevL.names] at h; cases h
theorem lv_inv {K : PySem.W.Frag} {H : Hp} {v : V} {fs : List Str} {ls : LevL} (h : Dp K H v (Lev.mk fs ls).dat) : ∃ a b c qs, v = .ref a ∧ SqL K H a [.ref b, .ref c] ∧ SqL K H b (fs.map V.str) ∧ SqL K H c (qs.map V.ref) ∧ LvAll K H qs ls := by
  rw [Lev.dat] at h
  cases h with
  | @lst a xs _ ha hA =>
    cases hA with
    | cons h1 h2 =>
      cases h2 with
      | cons h2 h3 =>
        cases h3
        cases h1 with
        | @lst b us _ hb hB =>
          cases h2 with
          | @lst c ws _ hc hC =>
            have e := dp_strs hB
            subst e
            obtain ⟨qs, e, hq⟩ := lvAll_inv hC
            subst e
            exact ⟨a, b, c, qs, rfl, ha, hb, hc, hq⟩
theorem lv_mk {K : PySem.W.Frag} {H : Hp} {a b c : Addr} {fs : List Str} {ls : LevL} {qs : List Addr} (ha : SqL K H a [.ref b, .ref c]) (hb : SqL K H b (fs.map V.str)) (hc : SqL K H c (qs.map V.ref)) (hq : LvAll K H qs ls) : Dp K H (.ref a) (Lev.mk fs ls).dat := by
  rw [Lev.dat]
  have hs : ∀ l : List Str, DpAll K H (l.map V.str) (l.map PyData.str) := fun l => by
    induction l with
    | nil => exact .nil
    | cons z l ih => exact .cons (.str z) ih
  exact .lst ha (.cons (.lst hb (hs fs)) (.cons (.lst hc (lvAll_mk hq)) .nil))
theorem LvAll.at {K : PySem.W.Frag} {H : Hp} {qs : List Addr} {ls : LevL} {i : Nat} {x : V} (h : LvAll K H qs ls) (hx : (qs.map V.ref)[i]? = some x) : ∃ p n v l, x = .ref p ∧ SqT K H p [.str n, v] ∧ ls.names[i]? = some n ∧ ls.levs[i]? = some l ∧ Dp K H v l.dat := by
  rw [List.getElem?_map] at hx
  cases e : qs[i]? with
  | none => rw [e] at hx; cases hx
  | some p =>
    rw [e] at hx
    cases hx
    obtain ⟨n, v, l, a, b, c, d⟩ := h.2 i p e
    exact ⟨p, n, v, l, rfl, c, a, b, d⟩
section
variable {K : PySem.W.Frag} [SK : SchK K] [CK : Consts K] {σ : L2.St} {G H : Hp} {L : List (Addr × HO)} {Q : VK} {D : Ends} {x y z : V} {te : TE}
def sp_read_schema (K : PySem.W.Frag) : Sp := fun vs H Q _ => ∃ (l : Lev) (G : Hp) (L : List (Addr × HO)), vs = [.str (SX.S l.tx)] ∧ Stt G H L ∧ l.good ∧ l.depth ≤ 3 ∧ ∀ v G' H', Ex G G' → Stt G' H' L → SchAt K G' v l → Q v H'
def sp_Schema_read (K : PySem.W.Frag) : Sp := sp_read_schema K
def t_read_schema_3 (K : PySem.W.Frag) : TS :=
  (tRet (tVar 1))
def t_read_schema_2 (K : PySem.W.Frag) : TS :=
  (tSeq (tIfS (tTest (tOp (gNe K) (tMeth (cls_at K "Schema") "text" (sp_Schema_text K 9) [] E0 (tVar 1) tNil) (tVar 0))) tNo tNext)
  (t_read_schema_3 K))
def t_read_schema_1 (K : PySem.W.Frag) : TS :=
  (tSeq (tAsg (tCall (sp_read_level K 9) [] E0 (tCons (tVar 0) (tCons (tC (.int 1)) tNil))) (gName 1))
  (t_read_schema_2 K))
def t_read_schema (K : PySem.W.Frag) : TS :=
  (tSeq (tIfS (tNot (tB (tCB (gIsi K) (tCons (tVar 0) (tCons (tC (.ty "str")) tNil))))) tNo tNext)
  (t_read_schema_1 K))
def t_Schema_read (K : PySem.W.Frag) : TS :=
  (tRet (tCall (sp_read_schema K) [] E0 (tCons (tVar 0) tNil)))
theorem sat_read_schema {vs : List V} {E : XK} (h : sp_read_schema K vs H Q E) : vs.length = 1 ∧ t_read_schema K { nx := fun _ H' => Q .non H', rt := Q } (vs.map some ++ List.replicate (2 - vs.length) none) H := by
  obtain ⟨l, G, L, rfl, S, gd, hd, q⟩ := h
  refine ⟨rfl, ?_⟩
  unfold t_read_schema
  walk_at "gs"
  unfold t_read_schema_1
  walk_at "gs"
  refine ⟨l, 1, G, _, rfl, S, gd, by omega, by decide, by omega, fun v G1 H1 e1 S1 hv => ?_⟩
  walk_at "gs"
  unfold t_read_schema_2
  walk_at "gs"
  have hv2 := hv
  cases hv with
  | @mk x dx tf tl fs ls ps ob hf hl hA =>
  refine ⟨x, _, _, rfl, S1.ex _ _ ob, schF_no _ _ (by decide +kernel) (by decide +kernel), ?_⟩
  walk_at "gs"
  refine ⟨_, _, G1, _, rfl, S1, hv2, by omega, by omega, gd, fun H2 S2 => ?_⟩
  walk_at "gs"
  unfold t_read_schema_3
  walk_at "gs"
  exact q _ G1 H2 e1 S2 hv2
theorem sat_Schema_read {vs : List V} {E : XK} (h : sp_Schema_read K vs H Q E) : vs.length = 1 ∧ t_Schema_read K { nx := fun _ H' => Q .non H', rt := Q } (vs.map some ++ List.replicate (1 - vs.length) none) H := by
  have ⟨l, G, L, e, S, gd, hd, q⟩ := h
  subst e
  refine ⟨rfl, ?_⟩
  unfold t_Schema_read
  walk_at "gs"
  exact ⟨l, G, L, rfl, S, gd, hd, q⟩
/-! ### the law's text of a level -/
def sp_level_text (K : PySem.W.Frag) (n : Nat) : Sp := fun vs H Q _ => ∃ (v : V) (l : Lev) (G : Hp) (L : List (Addr × HO)), vs = [v] ∧ Stt G H L ∧ Dp K G v l.dat ∧ l.depth ≤ n ∧ l.depth ≤ 9 ∧ l.good ∧ ∀ H', Stt G H' L → Q (.str (SX.S l.tx)) H'
theorem never_level_text (K : PySem.W.Frag) : ∀ vs H Q E, sp_level_text K 0 vs H Q E → False := fun vs H Q E ⟨v, l, G, L, _, _, _, h, _⟩ => by
  have := l.depth_pos
  omega
def t_level_text_1 (K : PySem.W.Frag) (n : Nat) : TS :=
  (tRet (tJoinS K " " (tVar 1)))
def t_level_text (K : PySem.W.Frag) (n : Nat) : TS :=
  (tSeq (tAsg (tOp (gAdd K) (tCB (gList K) (tCons (tOp (rIx K) (tVar 0) (tC (.int 0))) tNil)) (tLc (iList K (tOp (rIx K) (tVar 0) (tC (.int 1)))) (gTup K 2 (gCons (gName 2) (gCons (gName 3) gNil))) tYes (tOp (gAdd K) (tOp (gAdd K) (tOp (gAdd K) (tVar 2) (tC (.str "("))) (tCall (sp_level_text K n) [] E0 (tCons (tVar 3) tNil))) (tC (.str ")"))) [2, 3])) (gName 1))
  (t_level_text_1 K n))
theorem item_textL (n : Str) (t : List Nat) : ((n ++ ("(" : Str)) ++ SX.S t) ++ (")" : Str) = SX.S (cps n ++ (40 :: (t ++ [41]))) := by
  have h : ∀ a : List Nat, ((SX.S a ++ SX.S [40]) ++ SX.S t) ++ SX.S [41] = SX.S (a ++ (40 :: (t ++ [41]))) := fun a => by
    rw [SX.S_cat, SX.S_cat, SX.S_cat]
    exact congrArg SX.S (by simp)
  have := h (cps n)
  rw [S_cps] at this
  exact this
theorem sat_level_text {n : Nat} {vs : List V} {E : XK} (h : sp_level_text K (n + 1) vs H Q E) : vs.length = 1 ∧ t_level_text K n { nx := fun _ H' => Q .non H', rt := Q } (vs.map some ++ List.replicate (4 - vs.length) none) H := by
  obtain ⟨v, l, G, L, rfl, S, hv, hd, h9, gd, q⟩ := h
  refine ⟨rfl, ?_⟩
  have small := Lev.tx_small gd h9
  have sz : ∀ n : Nat, n < 90000 → n ≤ sizeLine := fun n h => sz_of (by omega)
  obtain ⟨fs, ls⟩ := l
  obtain ⟨a, b, c, qs, rfl, ha, hb, hc, hq⟩ := lv_inv hv
  rw [Lev.depth] at hd h9
  rw [Lev.good] at gd
  have hlen := hq.1
  have hlv := LevL.len_levs ls
  have hlt := LevL.len_tws ls
  unfold t_level_text
  walk_at "gs"
  refine ⟨b, _, rfl, .inl (ex_l S.ex hb), ?_⟩
  refine mk_im (o := .lst (fs.map V.str)) stt_world S fun p1 G1 e1 S1 h1 => ?_
  walk_at "gs"
  refine rd_ixL (i := 1) (v := .ref c) (ex_l (e1.trans S1.ex) ha) rfl ?_
  refine ⟨c, rfl, ⟨_, ex_l (e1.trans S1.ex) hc⟩, ?_⟩
  refine lc_go stt_world (walk_list (K := K) (a := c) (xs := qs.map V.ref)) S1 (by rw [List.length_map]; omega) (fun i v _ => (qs.map V.ref)[i]? = some v) (fun i acc _ => acc = (ls.tws.take i).map fun w => V.str (SX.S w)) (fun H' e' => ex_l (e1.trans e') hc)
    (fun i x G1 H1 H2 L1 _ e1 S1 y => item_at S1 y) rfl (fun _ _ _ _ _ h => h) ?_ ?_
  · intro D1 i x acc G2 H2 hi _ e2 S2 I2 it Kp Sk kp sk
    obtain ⟨p, nm, v, l, rfl, hp, hn, hl2, hv⟩ := LvAll.at hq it
    have e12 := e1.trans e2
    refine rd_gtup2 (ex_t (e12.trans S2.ex) hp) ⟨rfl, ?_⟩
    refine rd_yes (rd_iT ?_)
    have dl := LevL.depth_get ls i l hl2
    have gl := LevL.good_get ls i l gd.2.2.2.2.2 hl2
    have sl := Lev.tx_small gl (by omega)
    have nl := nameOk_len (LevL.name_get ls i nm gd.2.2.2.2.2 hn)
    have hw := LevL.tws_get ls i nm l hn hl2
    have e1l : ("(" : Str).length = 1 := rfl
    have e2l : (")" : Str).length = 1 := rfl
    walk_at "gs"
    refine rd_addS (sz _ (by omega)) ?_
    walk_at "gs"
    refine ⟨_, l, G2, _, rfl, S2, Dp.ex e12 _ _ hv, by omega, by omega, gl, fun H3 S3 => ?_⟩
    refine rd_addS (sz _ (by rw [len_add, len_S l.tx]; omega)) ?_
    walk_at "gs"
    refine rd_addS (sz _ (by rw [len_add, len_add, len_S l.tx]; omega)) ?_
    rw [item_textL]
    refine kp _ G2 H3 (Ex.refl _) S3 ?_
    rw [I2, List.take_add_one, hw, List.map_append]
    rfl
  · intro D1 acc G2 H2 e2 S2 I2 _
    have hacc : acc = ls.tws.map fun w => V.str (SX.S w) := by
      rw [I2, List.take_of_length_le (by rw [List.length_map]; omega)]
    subst hacc
    walk_at "gs"
    refine rd_addL (S2.ex _ _ (e2 _ _ h1)) (S2.at 0 rfl) (sz _ (by rw [List.length_map, List.length_map]; have := gd.2.1; have := gd.2.2.2.2.1; omega)) ?_
    refine mk_im (o := .lst (fs.map V.str ++ ls.tws.map fun w => V.str (SX.S w))) stt_world S2.drop fun p2 G3 e3 S3 h3 => ?_
    have hsum := sum_le_join (fs.map cps ++ ls.tws)
    rw [Lev.tx] at small
    walk_at "gs"
    unfold t_level_text_1
    walk_at "gs"
    refine ⟨p2, (fs.map cps ++ ls.tws).map SX.S, rfl, sq_of ?_, ?_, ?_⟩
    · rw [S3.ex _ _ h3, strs_texts, ← List.map_append, List.map_map]
      rfl
    · have e : ((fs.map cps ++ ls.tws).map SX.S).map (·.length) = (fs.map cps ++ ls.tws).map List.length := by
        rw [List.map_map]
        exact List.map_congr_left fun w _ => len_S w
      rw [e, List.length_map, List.length_append, List.length_map]
      have h1 : (" " : Str).length = 1 := rfl
      have := gd.2.1
      have := gd.2.2.2.2.1
      rw [h1]
      omega
    · have hj : Txt.join " " ((fs.map cps ++ ls.tws).map SX.S) = SX.S (Lev.mk fs ls).tx := by
        rw [Lev.tx]
        exact SX.join_S [32] _
      rw [hj]
      exact q _ (S3.less (e1.trans (e2.trans e3)))
def sp_schema (K : PySem.W.Frag) : Sp := fun vs H Q _ => ∃ (v : V) (l : Lev) (G : Hp) (L : List (Addr × HO)), vs = [v] ∧ Stt G H L ∧ Dp K G v l.dat ∧ l.good ∧ l.depth ≤ 3 ∧ ∀ w G' H', Ex G G' → Stt G' H' L → SchAt K G' w l → Q w H'
def t_schema (K : PySem.W.Frag) : TS :=
  (tRet (tStc (cls_at K "Schema") (sp_Schema_read K) (tC (.ref (cls_at K "Schema"))) (tCons (tCall (sp_level_text K 9) [] E0 (tCons (tVar 0) tNil)) tNil)))
theorem sat_schema {vs : List V} {E : XK} (h : sp_schema K vs H Q E) : vs.length = 1 ∧ t_schema K { nx := fun _ H' => Q .non H', rt := Q } (vs.map some ++ List.replicate (1 - vs.length) none) H := by
  obtain ⟨v, l, G, L, rfl, S, hv, gd, hd, q⟩ := h
  refine ⟨rfl, ?_⟩
  unfold t_schema
  walk_at "gs"
  refine ⟨rfl, ?_⟩
  walk_at "gs"
  refine ⟨v, l, G, _, rfl, S, hv, by omega, by omega, gd, fun H1 S1 => ?_⟩
  walk_at "gs"
  exact ⟨l, G, _, rfl, S1, gd, hd, q⟩
end

/-! Schema's == and repr. -/



mutual
def Lev.eqb : Lev → Lev → Bool
  | .mk fs ls, .mk gs ms => decide (fs = gs) && ls.eqb ms
def LevL.eqb : LevL → LevL → Bool
  | .nil, .nil => true
  | .nil, .cons _ _ _ => false
  | .cons _ _ _, .nil => false
  | .cons n l r, .cons m k s => decide (n = m) && (l.eqb k && r.eqb s)
end
mutual
theorem Lev.eqb_same : ∀ l : Lev, l.eqb l = true
  | .mk fs ls => by rw [Lev.eqb, LevL.eqb_same ls, decide_eq_true rfl]; rfl
theorem LevL.eqb_same : ∀ l : LevL, l.eqb l = true
  | .nil => by rw [LevL.eqb]
  | .cons n l r => by rw [LevL.eqb, Lev.eqb_same l, LevL.eqb_same r, decide_eq_true rfl]; rfl
end
mutual
theorem Lev.eqb_eq : ∀ l m : Lev, l.eqb m = true → l = m
  | .mk fs ls, .mk gs ms, h => by
    rw [Lev.eqb] at h
    have h := Bool.and_eq_true_iff.mp h
    rw [of_decide_eq_true h.1, LevL.eqb_eq ls ms h.2]
theorem LevL.eqb_eq : ∀ l m : LevL, l.eqb m = true → l = m
  | .nil, .nil, _ => rfl
  | .nil, .cons _ _ _, h => by rw [LevL.eqb] at h; cases h
  | .cons _ _ _, .nil, h => by rw [LevL.eqb] at h; cases h
  | .cons n l r, .cons m k s, h => by
    rw [LevL.eqb] at h
    have h := Bool.and_eq_true_iff.mp h
    have h2 := Bool.and_eq_true_iff.mp h.2
    rw [of_decide_eq_true h.1, Lev.eqb_eq l k h2.1, LevL.eqb_eq r s h2.2]
end
theorem Lev.eqb_ne {l m : Lev} (h : l ≠ m) : l.eqb m = false := by
  cases e : l.eqb m with
  | false => rfl
  | true => exact absurd (Lev.eqb_eq l m e) h
theorem strs_in {fs gs : List Str} (h : fs.map V.str = gs.map V.str) : fs = gs := by
  induction fs generalizing gs with
  | nil => cases gs with
    | nil => rfl
    | cons _ _ => cases h
  | cons f fs ih => cases gs with
    | nil => cases h
    | cons g gs =>
      have h := List.cons.inj h
      rw [V.str.inj h.1, ih h.2]
theorem refs_in {fs gs : List Addr} (h : fs.map V.ref = gs.map V.ref) : fs = gs := by
  induction fs generalizing gs with
  | nil => cases gs with
    | nil => rfl
    | cons _ _ => cases h
  | cons f fs ih => cases gs with
    | nil => cases h
    | cons g gs =>
      have h := List.cons.inj h
      rw [V.ref.inj h.1, ih h.2]
theorem str_eqv (a b : Str) : PyData.eqv (.str a) (.str b) = decide (a = b) := by
  rw [PyData.eqv]
  exact Bool.eq_iff_iff.mpr (by rw [beq_iff_eq, decide_eq_true_iff])
theorem strs_eqvA : ∀ fs gs : List Str, PyData.eqvAll (fs.map PyData.str) (gs.map PyData.str) = decide (fs = gs)
  | [], [] => by rw [List.map_nil, PyData.eqvAll, decide_eq_true rfl]
  | [], _ :: _ => by rw [List.map_nil, List.map_cons, PyData.eqvAll, decide_eq_false (by intro h; cases h)]
  | _ :: _, [] => by rw [List.map_nil, List.map_cons, PyData.eqvAll, decide_eq_false (by intro h; cases h)]
  | f :: fs, g :: gs => by
    rw [List.map_cons, List.map_cons, PyData.eqvAll, str_eqv, strs_eqvA fs gs, ← Bool.decide_and]; exact decide_eq_decide.mpr (by rw [List.cons.injEq])
theorem okStr {z : Str} (h : NameOk z) : PyData.strOk z = true := by
  have h1 := h.1
  unfold nameS at h1
  simp only [Bool.and_eq_true, decide_eq_true_eq] at h1; unfold PyData.strOk
  rw [← Array.all_toList]
  refine List.all_eq_true.mpr fun c hc => ?_
  have h2 := of_decide_eq_true (List.all_eq_true.mp h1.2.2.2 c hc)
  have h3 : ∀ c, c ∈ letters.cps.toList → decide (c < 1114112) = true := by decide +kernel
  exact h3 c h2
theorem strs_lay : ∀ fs : List Str, (∀ n, n ∈ fs → NameOk n) → PyData.canLayAll0 (fs.map PyData.str) = true
  | [], _ => rfl
  | f :: fs, h => by
    show (PyData.strOk f && PyData.canLayAll0 (fs.map PyData.str)) = true
    rw [strs_lay fs fun n hn => h n (List.mem_cons_of_mem _ hn), okStr (h f (List.mem_cons_self ..))]; rfl
theorem strs_dep : ∀ fs : List Str, PyData.depthAll (fs.map PyData.str) = 0
  | [] => rfl
  | f :: fs => by
    show max (PyData.depth (.str f)) (PyData.depthAll (fs.map PyData.str)) = 0
    rw [strs_dep fs]; rfl
theorem strs_shaped (fs : List Str) (h : ∀ n, n ∈ fs → NameOk n) : SeqAt.shaped (.tuple (fs.map PyData.str)) = true := by
  unfold SeqAt.shaped
  rw [show PyData.canLay0 (.tuple (fs.map PyData.str)) = PyData.canLayAll0 (fs.map PyData.str) from rfl, strs_lay fs h, show PyData.depth (.tuple (fs.map PyData.str)) = PyData.depthAll (fs.map PyData.str) + 1 from rfl, strs_dep]
  rfl
mutual
theorem Lev.canL : ∀ l : Lev, l.good → PyData.canLay0 l.dat = true
  | .mk fs ls, h => by
    rw [Lev.good] at h
    rw [Lev.dat]
    show (PyData.canLayAll0 (fs.map PyData.str) && (PyData.canLayAll0 ls.dats && true)) = true
    rw [strs_lay fs h.2.2.1, LevL.canL ls h.2.2.2.2.2]; rfl
theorem LevL.canL : ∀ r : LevL, r.good → PyData.canLayAll0 r.dats = true
  | .nil, _ => by rw [LevL.dats]; rfl
  | .cons n l r, h => by
    rw [LevL.good] at h
    rw [LevL.dats]
    show ((PyData.strOk n && (PyData.canLay0 l.dat && true)) && PyData.canLayAll0 r.dats) = true
    rw [Lev.canL l h.2.1, LevL.canL r h.2.2, okStr h.1]; rfl
end
mutual
theorem Lev.ddep : ∀ l : Lev, PyData.depth l.dat ≤ 3 * l.depth
  | .mk fs ls => by
    rw [Lev.dat, Lev.depth]
    show max (PyData.depthAll (fs.map PyData.str) + 1) (max (PyData.depthAll ls.dats + 1) 0) + 1 ≤ _
    have := LevL.ddep ls
    rw [strs_dep]
    omega
theorem LevL.ddep : ∀ r : LevL, PyData.depthAll r.dats ≤ 3 * r.depth + 1
  | .nil => by rw [LevL.dats]; exact Nat.zero_le _
  | .cons n l r => by
    rw [LevL.dats, LevL.depth]
    show max (max 0 (max (PyData.depth l.dat) 0) + 1) (PyData.depthAll r.dats) ≤ _
    have := Lev.ddep l
    have := LevL.ddep r
    omega
end
theorem lists_shaped (r : LevL) (g : r.good) (h : r.depth ≤ 9) : SeqAt.shaped (.list r.dats) = true := by
  have := LevL.ddep r
  unfold SeqAt.shaped
  rw [show PyData.canLay0 (.list r.dats) = PyData.canLayAll0 r.dats from rfl, LevL.canL r g, show PyData.depth (.list r.dats) = PyData.depthAll r.dats + 1 from rfl, decide_eq_true (by omega)]
  rfl
theorem lists_ne (r : LevL) : PyData.eqv (.list r.dats) (.list []) = r.names.isEmpty := by
  cases r with
  | nil => rw [LevL.dats, PyData.eqv, PyData.eqvAll, LevL.names]; rfl
  | cons n l r => rw [LevL.dats, PyData.eqv, PyData.eqvAll, LevL.names]; rfl
section
variable {K : PySem.W.Frag} {H : Hp}
theorem dpStrs : ∀ fs : List Str, DpAll K H (fs.map V.str) (fs.map PyData.str)
  | [] => .nil
  | f :: fs => .cons (.str f) (dpStrs fs)
mutual
/-- a place tells its level -/
theorem SchAt.uniq (U : Uniq K H) : ∀ {v : V} {l m : Lev}, SchAt K H v l → SchAt K H v m → l = m
  | _, _, _, .mk (x := x) (dx := dx) (tf := tf) (tl := tl) (fs := fs) (ls := ls) (ps := ps) ob hf hl h, .mk (dx := dx') (tf := tf') (tl := tl') (fs := gs) (ls := ms) (ps := qs) ob' hf' hl' h' => by
    have e := Option.some.inj (ob.symm.trans ob')
    have e3 : schF tf tl = schF tf' tl' := by injection e
    have ef : V.ref tf = V.ref tf' := Option.some.inj ((schF_f tf tl).symm.trans (by rw [e3]; exact schF_f tf' tl'))
    have el : V.ref tl = V.ref tl' := Option.some.inj ((schF_l tf tl).symm.trans (by rw [e3]; exact schF_l tf' tl'))
    obtain rfl := V.ref.inj ef
    obtain rfl := V.ref.inj el
    obtain rfl := strs_in (U _ _ _ hf hf')
    obtain rfl := refs_in (U _ _ _ hl hl')
    rw [SchAll.uniq U h h']
theorem SchAll.uniq (U : Uniq K H) : ∀ {ps : List Addr} {ls ms : LevL}, SchAll K H ps ls → SchAll K H ps ms → ls = ms
  | _, _, _, .nil, .nil => rfl
  | _, _, _, .cons hp hv r, .cons hp' hv' r' => by
    have e := List.cons.inj (U _ _ _ hp hp')
    have e2 := (List.cons.inj e.2).1
    subst e2
    rw [V.str.inj e.1, SchAt.uniq U hv hv', SchAll.uniq U r r']
end
end
/-- such types are no Schema; what Schema has not of its own -/
class KitN (K : PySem.W.Frag) : Prop where
  non : PySem.W.kitOne K (.type "NoneType") (.ref (cls_at K "Schema")) = some false
  str : PySem.W.kitOne K (.type "str") (.ref (cls_at K "Schema")) = some false
  ne : PySem.W.findIn K (.ref (cls_at K "Schema")) "__ne__" = some (some (.builtin "object.__ne__"))
  bo : PySem.W.findIn K (.ref (cls_at K "Schema")) "__bool__" = some none
  le : PySem.W.findIn K (.ref (cls_at K "Schema")) "__len__" = some none
section
variable {K : PySem.W.Frag} [SK : SchK K] [CK : Consts K] [KK : KitN K] {σ : L2.St} {G H : Hp} {L : List (Addr × HO)} {Q : VK} {D : Ends} {x dx tf tl : Addr} {te : TE}
/-- o == y: of a schema, a text, None -/
def sp_Schema_eq (K : PySem.W.Frag) (n : Nat) : Sp := fun vs H Q _ => ∃ (v x : V) (l : Lev), vs = [v, x] ∧ SchAt K H v l ∧ l.depth ≤ n ∧ l.good ∧ ((∃ m : Lev, SchAt K H x m ∧ m.good ∧ Q (.bl (l.eqb m)) H) ∨ (x = .non ∨ ∃ z, x = .str z) ∧ Q (.bl false) H)
theorem never_Schema_eq (K : PySem.W.Frag) : ∀ vs H Q E, sp_Schema_eq K 0 vs H Q E → False := fun vs H Q E ⟨v, x, l, _, _, h, _⟩ => by
  have := l.depth_pos
  omega
def t_Schema_eq (K : PySem.W.Frag) (n : Nat) : TS :=
  (tRet (tAndV (tCB (gIsi K) (tCons (tVar 1) (tCons (tC (.ref (cls_at K "Schema"))) tNil))) (tAndV (tOp (gEq K) (tFld K (tVar 0) "fields") (tFld K (tVar 1) "fields")) (tOp (rEqP K (cls_at K "Schema") (sp_Schema_eq K n)) (tFld K (tVar 0) "_lists") (tFld K (tVar 1) "_lists")))))
theorem rd_isCN {z : V} (h : z = .non ∨ ∃ t, z = .str t) (q : Q (.bl false) H) : gIsi K [z, .ref (cls_at K "Schema")] H Q := by
  rcases h with rfl | ⟨t, rfl⟩
  · exact .inl ⟨_, _, .type "NoneType", .ref _, false, rfl, .own _, Dp.ty (H := H) .non, KK.non, q⟩
  · exact .inl ⟨_, _, .type "str", .ref _, false, rfl, .own _, Dp.ty (H := H) (.str t), KK.str, q⟩
theorem dfl_str (a b : Str) : DFl (.str a) (.str b) H (decide (a = b)) := ⟨rfl, rfl, eqV_str a b⟩
theorem sch_refs {v : V} {l : Lev} (h : SchAt K H v l) : ∃ p dx fs, v = .ref p ∧ H p = some (.ins (cls_at K "Schema") dx fs) := by
  cases h with
  | mk ob _ _ _ => exact ⟨_, _, _, rfl, ob⟩
/-- the lists, pair by pair -/
theorem lists_eq {n : Nat} : ∀ {ps qs : List Addr} {ls ms : LevL}, SchAll K H ps ls → SchAll K H qs ms → ls.depth ≤ n → ls.good → ms.good → PrsB (DTp K (DIt K (cls_at K "Schema") (sp_Schema_eq K n))) (ps.map V.ref) (qs.map V.ref) H (ls.eqb ms)
  | _, _, _, _, .nil, .nil, _, _, _ => by rw [LevL.eqb]; rfl
  | _, _, _, _, .nil, .cons _ _ _, _, _, _ => by rw [LevL.eqb]; rfl
  | _, _, _, _, .cons _ _ _, .nil, _, _, _ => by rw [LevL.eqb]; rfl
  | _, _, _, _, .cons (p := p) (n := z) (v := v) (l := l) (ls := r) hp hv hr, .cons (p := q) (n := y) (v := w) (l := k) (ls := s) hp' hv' hr', hd, g1, g2 => by
    rw [LevL.depth] at hd
    rw [LevL.good] at g1 g2
    have ih := lists_eq hr hr' (Nat.le_trans (Nat.le_max_right _ _) hd) g1.2.2 g2.2.2
    have one : DTp K (DIt K (cls_at K "Schema") (sp_Schema_eq K n)) (.ref p) (.ref q) H (decide (z = y) && l.eqb k) := by
      obtain ⟨a, da, fa, rfl, oa⟩ := sch_refs hv
      obtain ⟨b, db, fb, rfl, ob⟩ := sch_refs hv'
      refine ⟨p, q, _, _, rfl, rfl, hp, hp', ?_, fun e U => ?_⟩
      · by_cases c : z = y
        · refine .inl ⟨.inl (by have := dfl_str (H := H) z y; rwa [decide_eq_true c] at this), ?_⟩
          have it : DOw K (cls_at K "Schema") (sp_Schema_eq K n) (.ref a) (.ref b) H (l.eqb k) := ⟨a, b, _, _, _, _, rfl, rfl, oa, ob, ⟨_, _, l, rfl, hv, Nat.le_trans (Nat.le_max_left _ _) hd, g1.2.1, .inl ⟨k, hv', g2.2.1, rfl, rfl⟩⟩, fun e U => by
            subst e
            rw [SchAt.uniq U hv hv']
            exact Lev.eqb_same k⟩
          rw [decide_eq_true c, Bool.true_and]
          cases e : l.eqb k with
          | true => rw [e] at it; exact .inl ⟨.inr it, rfl⟩
          | false => rw [e] at it; exact .inr ⟨.inr it, rfl⟩
        · refine .inr ⟨.inl (by have := dfl_str (H := H) z y; rwa [decide_eq_false c] at this), ?_⟩
          rw [decide_eq_false c, Bool.false_and]
      · subst e
        have e := List.cons.inj (U _ _ _ hp hp')
        have e2 := (List.cons.inj e.2).1
        have e3 := V.ref.inj e2
        subst e3
        rw [V.str.inj e.1, SchAt.uniq U hv hv', Lev.eqb_same k, decide_eq_true rfl]
        rfl
    rw [LevL.eqb, ← Bool.and_assoc]
    cases e : (decide (z = y) && l.eqb k) with
    | true =>
      rw [e] at one
      rw [Bool.true_and]
      exact .inl ⟨one, ih⟩
    | false =>
      rw [e] at one
      exact .inr ⟨one, rfl⟩
theorem sat_Schema_eq {n : Nat} {vs : List V} {E : XK} (h : sp_Schema_eq K (n + 1) vs H Q E) : vs.length = 2 ∧ t_Schema_eq K n { nx := fun _ H' => Q .non H', rt := Q } (vs.map some ++ List.replicate (2 - vs.length) none) H := by
  obtain ⟨v, x, l, rfl, hv, hd, gd, h⟩ := h
  refine ⟨rfl, ?_⟩
  unfold t_Schema_eq
  walk_at "gs"
  rcases h with ⟨m, hm, gm, q⟩ | ⟨no, q⟩
  · cases hv with
    | @mk a da tf tl fs ls ps ob hf hl hA =>
    cases hm with
    | @mk b db tg tm gs ms qs ob' hg hm hB =>
    rw [Lev.depth] at hd
    rw [Lev.good] at gd gm
    refine rd_isC SK.ins ob' ?_
    walk_at "gs"
    refine rd_Sfields ob ?_
    walk_at "gs"
    refine rd_Sfields ob' ?_
    refine rd_eqD (d := .tuple (fs.map PyData.str)) (e := .tuple (gs.map PyData.str)) (.tup hf (dpStrs fs)) (.tup hg (dpStrs gs)) (strs_shaped fs gd.2.2.1) (strs_shaped gs gm.2.2.1) ?_
    rw [PyData.eqv, strs_eqvA]
    rw [Lev.eqb] at q
    by_cases c : fs = gs
    · rw [decide_eq_true c] at q ⊢
      walk_at "gs"
      refine rd_Slists ob ?_
      walk_at "gs"
      refine rd_Slists ob' ?_
      refine ⟨ls.eqb ms, ⟨tl, tm, _, _, rfl, rfl, hl, hm, lists_eq hA hB (by omega) gd.2.2.2.2.2 gm.2.2.2.2.2, fun e U => ?_⟩, q⟩
      subst e
      obtain rfl := refs_in (U _ _ _ hl hm)
      rw [SchAll.uniq U hA hB]
      exact LevL.eqb_same _
    · rw [decide_eq_false c] at q ⊢
      walk_at "gs"
      exact q
  · refine rd_isCN no ?_
    walk_at "gs"
    exact q
/-! ### repr -/
def sp_Schema_repr (K : PySem.W.Frag) : Sp := fun vs H Q _ => ∃ (v : V) (l : Lev) (G : Hp) (L : List (Addr × HO)), vs = [v] ∧ Stt G H L ∧ SchAt K G v l ∧ l.depth ≤ 9 ∧ l.good ∧ ∀ H', Stt G H' L → Q (.str (("Schema(" : Str) ++ SX.S l.tx ++ (")" : Str))) H'
def t_Schema_repr (K : PySem.W.Frag) : TS :=
  (tRet (tFs [(tC (.str "Schema(")), (tFmt (tMeth (cls_at K "Schema") "text" (sp_Schema_text K 9) [] E0 (tVar 0) tNil)), (tC (.str ")"))]))
theorem sat_Schema_repr {vs : List V} {E : XK} (h : sp_Schema_repr K vs H Q E) : vs.length = 1 ∧ t_Schema_repr K { nx := fun _ H' => Q .non H', rt := Q } (vs.map some ++ List.replicate (1 - vs.length) none) H := by
  obtain ⟨v, l, G, L, rfl, S, hv, h9, gd, q⟩ := h
  refine ⟨rfl, ?_⟩
  unfold t_Schema_repr
  have small := Lev.tx_small gd h9
  have sz : ∀ n : Nat, n < 90000 → n ≤ sizeLine := fun n h => sz_of (by omega)
  have k1 : ("Schema(" : Str).length = 7 := rfl
  have k2 : (")" : Str).length = 1 := rfl
  have k0 : ("" : Str) ++ ("Schema(" : Str) = ("Schema(" : Str) := by decide +kernel
  refine rd_js ?_
  walk_at "gs"
  refine ⟨"Schema(", rfl, by show (("" : Str) ++ ("Schema(" : Str)).length ≤ _; rw [k0, k1]; exact sz _ (by omega), ?_⟩
  show tJs _ (("" : Str) ++ ("Schema(" : Str)) _ _ _
  rw [k0]
  refine rd_js (rd_fmt ?_)
  walk_at "gs"
  cases hv with
  | @mk x2 dx2 tf2 tl2 fs2 ls2 ps2 ob2 hf2 hl3 hA2 =>
  refine ⟨x2, _, _, rfl, S.ex _ _ ob2, schF_no _ _ (by decide +kernel) (by decide +kernel), ?_⟩
  walk_at "gs"
  refine ⟨_, _, G, _, rfl, S, SchAt.mk ob2 hf2 hl3 hA2, by omega, by omega, gd, fun H3 S3 => ?_⟩
  refine .inl ⟨_, rfl, by rw [len_S]; exact sz _ (by omega), _, rfl, ?_, ?_⟩
  · rw [len_add, len_S (Lev.mk fs2 ls2).tx, k1]
    exact sz _ (by omega)
  refine rd_js ?_
  walk_at "gs"
  refine ⟨")", rfl, ?_, rd_js0 (q H3 S3)⟩
  rw [len_add, len_add, len_S (Lev.mk fs2 ls2).tx, k1, k2]
  exact sz _ (by omega)
end

/-! One of some things, or of a text's signs. -/

def sp_ofS (K : PySem.W.Frag) : Sp := fun vs H Q _ => ∃ (b : Addr) (y : V) (G : Hp) (L : List (Addr × HO)), vs = [.ref b, y] ∧ Bag K G H b L ∧
  ((∃ (a : Addr) (xs : List V), y = .ref a ∧ (∀ H', Bag K G H' b L → SqL K H' a xs ∨ SqT K H' a xs) ∧ 0 < xs.length ∧ xs.length < 1000000 ∧ (∀ x H', x ∈ xs → Bag K G H' b L → Q x H')) ∨
   (∃ z : Str, y = .str z ∧ 0 < z.length ∧ z.length < 1000000 ∧ (∀ c H', c ∈ z.cps.toList → Bag K G H' b L → Q (.str ⟨#[c]⟩) H')))
def t_ofS (K : PySem.W.Frag) : TS :=
  (tRet (tOp (rIx K) (tVar 1) (tCall (sp_draw K) [] E0 (tCons (tVar 0) (tCons (tCB (gLen K) (tCons (tVar 1) tNil)) tNil)))))
theorem read_ofS {K : PySem.W.Frag} {b : Addr} {z : Str} {G H : Hp} {L : List (Addr × HO)} {D : Ends} (B : Bag K G H b L) (h0 : 0 < z.length) (h1 : z.length < 1000000)
    (q : ∀ c H', c ∈ z.cps.toList → Bag K G H' b L → D.rt (.str ⟨#[c]⟩) H') : t_ofS K D [some (.ref b), some (.str z)] H := by
  have hz : z.length ≤ sizeLine := by have : sizeLine = 16777216 := sizeLine_eq; omega
  unfold t_ofS
  walk_at "go"
  refine rd_lenS hz ?_
  walk_at "go"
  refine ⟨b, _, G, L, rfl, by omega, by omega, B, fun d H' d0 d1 B' => ?_⟩
  obtain ⟨j, rfl⟩ : ∃ j : Nat, d = (j : Int) := ⟨d.toNat, by omega⟩
  have hj : j < z.cps.toList.length := by
    have : z.cps.toList.length = z.length := Array.length_toList ..
    omega
  exact rd_ixS hz (atI_nat (List.getElem?_eq_getElem hj)) (q _ _ (List.getElem_mem hj) B')
theorem sat_ofS {K : PySem.W.Frag} {vs : List V} {H : Hp} {Q : VK} {E : XK} (h : sp_ofS K vs H Q E) : vs.length = 2 ∧ t_ofS K { nx := fun _ H' => Q .non H', rt := Q } (vs.map some ++ List.replicate (2 - vs.length) none) H := by
  obtain ⟨b, y, G, L, rfl, B, h⟩ := h
  rcases h with ⟨a, xs, rfl, hs, h0, h1, q⟩ | ⟨z, rfl, h0, h1, q⟩
  · exact ⟨rfl, read_of B hs h0 h1 q⟩
  · exact ⟨rfl, read_ofS B h0 h1 q⟩

/-! Names that are drawn. -/



def marksS : Str := "bcdghjkmpqrstvxz"
def mks : List Nat := cps marksS
theorem mks_ok : mks.Nodup ∧ mks.length = 16 := by decide +kernel
theorem mks_plain : ∀ c, c ∈ mks → plainC c ∧ c ∈ cps letters := by
  have h : ∀ c ∈ mks, (c ≠ 32 ∧ c ≠ 40 ∧ c ≠ 41 ∧ c ≠ 91 ∧ c ≠ 93) ∧ c ∈ cps letters := by decide +kernel
  exact h
theorem words_vowel : ∀ w, w ∈ c_WORDS → ∃ c, c ∈ cps w ∧ c ∉ mks := by
  have h : ∀ w ∈ c_WORDS, ∃ c ∈ cps w, c ∉ mks := by decide +kernel
  exact fun w hw => have ⟨c, a, b⟩ := h w hw; ⟨c, a, b⟩
def Drawn (z : Str) : Prop := 0 < z.length ∧ z.length ≤ 4 ∧ ∀ c, c ∈ cps z → c ∈ mks
theorem Drawn.ok {z : Str} (h : Drawn z) : NameOk z := by
  obtain ⟨h0, h4, hm⟩ := h
  refine ⟨?_, fun c hc => (mks_plain c (hm c hc)).1⟩
  rw [name_due fun c hc => (mks_plain c (hm c hc)).2]
  unfold dueS
  rw [inV_str, decide_eq_true (by omega : (1 : Int) ≤ z.length), decide_eq_true (by omega : (z.length : Int) ≤ 8), decide_eq_false fun hw => by
    obtain ⟨c, a, b⟩ := words_vowel z hw
    exact b (hm c a)]
  rfl
/-- texts of single signs, joined -/
theorem signs_of {M : List Nat} : ∀ vs : List V, (∀ v, v ∈ vs → ∃ c, v = .str ⟨#[c]⟩ ∧ c ∈ M) → ∃ cs : List Nat, vs = (cs.map fun c => SX.S [c]).map V.str ∧ ∀ c, c ∈ cs → c ∈ M
  | [], _ => ⟨[], rfl, fun _ h => nomatch h⟩
  | v :: vs, h => by
    obtain ⟨c, rfl, hc⟩ := h v (List.mem_cons_self ..)
    obtain ⟨cs, rfl, hcs⟩ := signs_of vs fun u hu => h u (List.mem_cons_of_mem _ hu)
    exact ⟨c :: cs, rfl, fun d hd => (in_two hd).elim (fun e => e ▸ hc) (hcs d)⟩
theorem joinL_signs : ∀ cs : List Nat, TL.joinL [] (cs.map fun c => [c]) = cs
  | [] => rfl
  | [c] => rfl
  | c :: d :: cs => by
    show [c] ++ ([] ++ TL.joinL [] ((d :: cs).map fun c => [c])) = c :: d :: cs
    rw [joinL_signs (d :: cs)]
    rfl
theorem join_signs (cs : List Nat) : Txt.join "" (cs.map fun c => SX.S [c]) = SX.S cs := by
  have h := SX.join_S [] (cs.map fun c => [c])
  rw [joinL_signs, List.map_map] at h
  exact h
theorem sum_signs : ∀ cs : List Nat, ((cs.map fun c => SX.S [c]).map (·.length)).sum = cs.length
  | [] => rfl
  | c :: cs => by
    rw [List.map_cons, List.map_cons, List.sum_cons, sum_signs cs, List.length_cons]
    show 1 + cs.length = _
    omega
section
variable {K : PySem.W.Frag} {σ : L2.St} {G H : Hp} {L : List (Addr × HO)} {Q : VK} {D : Ends} {b f m : Addr} {F M : HO}
theorem Bag.get1 (B : Bag K G H b ((f, F) :: L)) : H f = some F := (bag_world K b).get B
theorem Bag.get2 (B : Bag K G H b ((f, F) :: (m, M) :: L)) : H m = some M := have ⟨_, _, _, _, _, _, S, _⟩ := B; S.at 2 rfl
theorem Bag.set1 {F' : HO} (B : Bag K G H b ((f, F) :: L)) : Bag K G (upd H f F') b ((f, F') :: L) := (bag_world K b).set B
theorem Bag.set2 {M' : HO} (B : Bag K G H b ((f, F) :: (m, M) :: L)) : Bag K G (upd H m M') b ((f, F) :: (m, M') :: L) := have ⟨c, i, r, x, n, ns, S, h⟩ := B; ⟨c, i, r, x, n, ns, S.wr 2 rfl, h⟩
theorem Bag.swap (B : Bag K G H b ((f, F) :: (m, M) :: L)) : Bag K G H b ((m, M) :: (f, F) :: L) := by
  obtain ⟨c, i, r, x, n, ns, S, h⟩ := B
  refine ⟨c, i, r, x, n, ns, ?_, h⟩
  have mm : ∀ p, p ∈ (b, bagO c i r x n) :: (m, M) :: (f, F) :: L → p ∈ (b, bagO c i r x n) :: (f, F) :: (m, M) :: L := fun p hp => (List.Perm.cons _ (List.Perm.swap (f, F) (m, M) L)).mem_iff.mp hp
  refine ⟨S.ex, fun p hp => S.has p (mm p hp), fun p hp => S.out p (mm p hp), ?_⟩
  exact (((List.Perm.swap (m, M) (f, F) L).cons (b, bagO c i r x n)).map Prod.fst).nodup S.nd
theorem rd_tru {te : TE} {QT : Bool → Hp → Prop} (q : te σ H fun x H1 => ∃ k, TruV K x H1 k ∧ QT k H1) : tTru K te σ H QT := q
theorem rd_trB {c : Bool} {P : Bool → Prop} (q : P c) : ∃ k, TruV K (.bl c) H k ∧ P k := ⟨c, rfl, q⟩
/-- ''.join([_law_of(bag, marks) for k in range(draw(bag, n))]) -/
theorem lc_signs {n : Int} {j : Nat} {σ : L2.St} {te : TE} (B : Bag K G H b L) (h0 : 0 ≤ n) (hz : n < 1000) (hw : ∀ x, wipe ((wipe σ [j]).set j (some x)) [j] = wipe σ [j])
    (hS : ∀ x H1 G1 L1, Bag K G1 H1 b L1 → ∀ Kp : VK, (∀ c H2, c ∈ mks → Bag K G1 H2 b L1 → Kp (.str ⟨#[c]⟩) H2) → te ((wipe σ [j]).set j (some x)) H1 Kp)
    (q : ∀ (t : List Nat) G2 H2, Ex G G2 → Bag K G2 H2 b L → (t.length : Int) = n → (∀ c, c ∈ t → c ∈ mks) → Q (.str (SX.S t)) H2) : LcG (Itr 0 n.toNat) (gName j) tYes te [j] σ H fun x H1 => JoinG K x H1 Q := by
  refine lc_draws (bag_world K b) (n := n.toNat) (lo := 0) B (by omega) hw (fun v => ∃ c, v = .str ⟨#[c]⟩ ∧ c ∈ mks) (fun i acc D1 G3 H3 hi e3 B3 Kp kp => ?_) (fun D1 vs G3 H3 e3 B3 hl hvs => ?_)
  · exact hS _ H3 G3 _ B3 _ fun c H4 hc B4 => kp _ G3 H4 (Ex.refl _) B4 ⟨c, rfl, hc⟩
  · obtain ⟨cs, rfl, hcs⟩ := signs_of vs hvs
    rw [List.length_map, List.length_map] at hl
    refine ⟨D1, _, rfl, sq_of B3.get1, by rw [sum_signs]; omega, ?_⟩
    rw [join_signs]
    exact q cs G3 H3 e3 ((bag_world K b).drop B3) (by omega) hcs
def sp_names (K : PySem.W.Frag) : Sp := fun vs H Q _ => ∃ (b : Addr) (m : Int) (G : Hp) (L : List (Addr × HO)), vs = [.ref b, .int m] ∧ 0 ≤ m ∧ m ≤ 10 ∧ Bag K G H b L ∧
  ∀ (p : Addr) (ns : List Str) (G' H' : Hp), Ex G G' → Bag K G' H' b L → SqL K G' p (ns.map V.str) → (ns.length : Int) = m → ns.Nodup → (∀ n, n ∈ ns → Drawn n) → Q (.ref p) H'
def t_names_3b_2 (K : PySem.W.Frag) : TS :=
  (tDrop (tBM K "list" rAppend (tVar 3) (tCons (tIf (tTru K (tVar 6)) (tOp (gAdd K) (tOp (gAdd K) (tSl (gSl K) (tVar 4) tNoPart (tPart (tVar 5))) (tVar 8)) (tSl (gSl K) (tVar 4) (tPart (tVar 5)) tNoPart)) (tOp (gAdd K) (tVar 8) (tVar 9))) tNil)))
def t_names_3b_1 (K : PySem.W.Frag) : TS :=
  (tSeq (tAsg (tJoin0 K (tLc (iRng1 (tCons (tCall (sp_draw K) [] E0 (tCons (tVar 0) (tCons (tC (.int 3)) tNil))) tNil)) (gName 10) tYes (tCall (sp_ofS K) [] E0 (tCons (tVar 0) (tCons (tC (.str "bcdghjkmpqrstvxz")) tNil))) [10])) (gName 9))
  (t_names_3b_2 K))
def t_names_3b (K : PySem.W.Frag) : TS :=
  (tSeq (tAsg (tBM K "list" rPopAt (tVar 2) (tCons (tCall (sp_draw K) [] E0 (tCons (tVar 0) (tCons (tCB (gLen K) (tCons (tVar 2) tNil)) tNil))) tNil)) (gName 8))
  (t_names_3b_1 K))
def t_names_4 (K : PySem.W.Frag) : TS :=
  (tRet (tVar 3))
def t_names_3 (K : PySem.W.Frag) : TS :=
  (tSeq (tFor (iRng1 (tCons (tVar 1) tNil)) (gName 7) (t_names_3b K))
  (t_names_4 K))
def t_names_2 (K : PySem.W.Frag) : TS :=
  (tSeq (tPar 5 6 (tCons (tCall (sp_draw K) [] E0 (tCons (tVar 0) (tCons (tOp (gAdd K) (tCB (gLen K) (tCons (tVar 4) tNil)) (tC (.int 1))) tNil))) (tCons (tOp (gEq K) (tCall (sp_draw K) [] E0 (tCons (tVar 0) (tCons (tC (.int 2)) tNil))) (tC (.int 0))) tNil)))
  (t_names_3 K))
def t_names_1 (K : PySem.W.Frag) : TS :=
  (tSeq (tAsg (tJoin0 K (tLc (iRng1 (tCons (tCall (sp_draw K) [] E0 (tCons (tVar 0) (tCons (tC (.int 4)) tNil))) tNil)) (gName 7) tYes (tCall (sp_ofS K) [] E0 (tCons (tVar 0) (tCons (tC (.str "bcdghjkmpqrstvxz")) tNil))) [7])) (gName 4))
  (t_names_2 K))
def t_names (K : PySem.W.Frag) : TS :=
  (tSeq (tPar 2 3 (tCons (tCB gListS (tCons (tC (.str "bcdghjkmpqrstvxz")) tNil)) (tCons (tLst tNil) tNil)))
  (t_names_1 K))
/-- what is known of the names found so far -/
structure Found (pos : Nat) (ms : List Nat) (ns : List Str) : Prop where
  nd : ns.Nodup
  dr : ∀ n, n ∈ ns → Drawn n
  mr : ∀ n, n ∈ ns → ∃ c, (cps n)[pos]? = some c ∧ c ∉ ms
  md : ms.Nodup
  mm : ∀ c, c ∈ ms → c ∈ mks
  len : ms.length + ns.length = 16
theorem Found.step {pos : Nat} {ms : List Nat} {ns : List Str} (F : Found pos ms ns) {k c : Nat} {z : Str} (hk : ms[k]? = some c) (hz : Drawn z) (hp : (cps z)[pos]? = some c) : Found pos (ms.eraseIdx k) (ns ++ [z]) := by
  have sub : ∀ d, d ∈ ms.eraseIdx k → d ∈ ms := fun d hd => (List.eraseIdx_sublist ms k).subset hd
  have hlt : k < ms.length := (List.getElem?_eq_some_iff.mp hk).1
  have out : c ∉ ms.eraseIdx k := fun z => by
    have e : ms = ms.take k ++ c :: ms.drop (k + 1) := by
      conv => lhs; rw [← List.take_append_drop k ms]
      rw [List.drop_eq_getElem_cons hlt, (List.getElem?_eq_some_iff.mp hk).2]
    rw [List.eraseIdx_eq_take_drop_succ] at z
    have nd := F.md
    rw [e] at nd
    have n1 := List.nodup_append.mp nd
    rcases List.mem_append.mp z with z | z
    · exact n1.2.2 c z c (List.mem_cons_self ..) rfl
    · exact (List.nodup_cons.mp n1.2.1).1 z
  refine ⟨?_, fun n hn => ?_, fun n hn => ?_, F.md.sublist (List.eraseIdx_sublist ms k), fun d hd => F.mm d (sub d hd), ?_⟩
  · refine List.nodup_append.mpr ⟨F.nd, by simp, fun a ha b hb e => ?_⟩
    rw [List.mem_singleton.mp hb] at e
    subst e
    obtain ⟨d, h1, h2⟩ := F.mr a ha
    rw [hp] at h1
    cases h1
    exact h2 (List.mem_of_getElem? hk)
  · rcases List.mem_append.mp hn with hn | hn
    · exact F.dr n hn
    · rw [List.mem_singleton.mp hn]; exact hz
  · rcases List.mem_append.mp hn with hn | hn
    · obtain ⟨d, h1, h2⟩ := F.mr n hn
      exact ⟨d, h1, fun z => h2 (sub d z)⟩
    · rw [List.mem_singleton.mp hn]
      exact ⟨c, hp, out⟩
  · rw [List.length_eraseIdx, if_pos hlt, List.length_append, List.length_singleton]
    have := F.len
    omega
abbrev sgs (ms : List Nat) : List V := ms.map fun c => .str ⟨#[c]⟩
theorem sgs_len (ms : List Nat) : (sgs ms).length = ms.length := List.length_map _
theorem sgs_get {ms : List Nat} {k c : Nat} (h : ms[k]? = some c) : (sgs ms)[k]? = some (.str ⟨#[c]⟩) := by
  show (ms.map _)[k]? = _
  rw [List.getElem?_map, h]
  rfl
theorem sgs_erase (ms : List Nat) (k : Nat) : (sgs ms).eraseIdx k = sgs (ms.eraseIdx k) := by
  show (ms.map _).eraseIdx k = (ms.eraseIdx k).map _
  rw [List.eraseIdx_eq_take_drop_succ, List.eraseIdx_eq_take_drop_succ, List.map_append, List.map_take, List.map_drop]
theorem read_of_mark {b : Addr} {G H : Hp} {L : List (Addr × HO)} {Q : VK} (B : Bag K G H b L) (q : ∀ c H2, c ∈ mks → Bag K G H2 b L → Q (.str ⟨#[c]⟩) H2) : sp_ofS K [.ref b, .str "bcdghjkmpqrstvxz"] H Q E0 := by
  have hl : marksS.length = 16 := by decide +kernel
  exact ⟨b, _, G, L, rfl, B, .inr ⟨marksS, rfl, by omega, by omega, fun c H2 hc B2 => q c H2 hc B2⟩⟩
section
variable {fa ma : Addr} {st : List Nat} {at_ : Nat} {nr : Bool} {ms : List Nat} {ns : List Str} {a1 a7 a8 a9 a10 : Option V}
theorem read_names_turn (B : Bag K G H b ((fa, .lst (ns.map V.str)) :: (ma, .lst (sgs ms)) :: L)) (hst : st.length ≤ 3) (sm : ∀ c, c ∈ st → c ∈ mks) (ha : at_ ≤ st.length) (F : Found (if nr then at_ else 0) ms ns) (hns : ns.length < 16)
    (q : ∀ x8 x9 ms' z G' H', Ex G G' → Bag K G' H' b ((fa, .lst ((ns ++ [z]).map V.str)) :: (ma, .lst (sgs ms')) :: L) → Found (if nr then at_ else 0) ms' (ns ++ [z]) → D.nx [some (.ref b), a1, some (.ref ma), some (.ref fa), some (.str (SX.S st)), some (.int (at_ : Nat)), some (.bl nr), a7, x8, x9, a10] H') :
    t_names_3b K D [some (.ref b), a1, some (.ref ma), some (.ref fa), some (.str (SX.S st)), some (.int (at_ : Nat)), some (.bl nr), a7, a8, a9, a10] H := by
  have sz : ∀ n : Nat, n < 90000 → n ≤ sizeLine := fun n h => sz_of (by omega)
  have hms : 0 < ms.length := by have := F.len; omega
  have hm16 : ms.length ≤ 16 := by have := F.len; omega
  unfold t_names_3b
  walk_at "gs"
  refine ⟨ty_list (sq_of B.get2), ?_⟩
  walk_at "gs"
  refine rd_lenL (sq_of B.get2) ?_
  rw [sgs_len]
  walk_at "gs"
  refine ⟨b, _, G, _, rfl, by omega, by omega, B, fun d H1 d0 d1 B1 => ?_⟩
  obtain ⟨k, rfl⟩ : ∃ k : Nat, d = (k : Int) := ⟨d.toNat, by omega⟩
  have hk : k < ms.length := by omega
  have hkc : ms[k]? = some ms[k] := List.getElem?_eq_getElem hk
  have hcm : ms[k] ∈ mks := F.mm _ (List.getElem_mem hk)
  walk_at "gs"
  refine ⟨ma, _, _, k, _, rfl, rfl, B1.get2, by omega, by omega, ?_, sgs_get hkc, ?_⟩
  · rw [sgs_len, seqIndex_of d0 d1]
    rfl
  rw [sgs_erase]
  have B2 := B1.set2 (M' := .lst (sgs (ms.eraseIdx k)))
  walk_at "gs"
  unfold t_names_3b_1
  walk_at "gs"
  refine ⟨b, 3, G, _, rfl, by decide, by decide, B2, fun m H2 m0 m1 B3 => ?_⟩
  walk_at "gs"
  refine ⟨m, rfl, by omega, by omega, ?_⟩
  refine lc_signs B3 m0 (by omega) (fun _ => rfl) (fun x H3 G3 L3 B4 Kp kp => ?_) fun t G4 H4 e4 B4 tl tm => ?_
  · walk_at "gs"
    exact read_of_mark B4 kp
  walk_at "gs"
  unfold t_names_3b_2
  walk_at "gs"
  refine ⟨ty_list (sq_of B4.get1), ?_⟩
  have fin : ∀ z : Str, Drawn z → (cps z)[if nr then at_ else 0]? = some ms[k] → rAppend (.ref fa) [.str z] H4 fun x H1 => D.nx [some (.ref b), a1, some (.ref ma), some (.ref fa), some (.str (SX.S st)), some (.int (at_ : Nat)), some (.bl nr), a7, some (.str ⟨#[ms[k]]⟩), some (.str (SX.S t)), a10] H1 := fun z hz hp => by
    refine rd_app B4.get1 (by rw [List.length_map]; omega) ?_
    refine q _ _ (ms.eraseIdx k) z G4 _ e4 ?_ (F.step hkc hz hp)
    rw [List.map_append]
    exact B4.set1
  walk_at "gs"
  refine rd_tru ?_
  walk_at "gs"
  refine rd_trB ?_
  cases nr with
  | true =>
    walk_at "gs"
    refine rd_slS (sz _ (by rw [len_S]; omega)) ?_
    rw [C8.cutS_slice, SX.slice_to (Int.natCast_nonneg _), Int.toNat_natCast]
    walk_at "gs"
    refine rd_addS (sz _ (by rw [len_S, List.length_take]; show _ + 1 < _; omega)) ?_
    rw [SX.S_cat]
    walk_at "gs"
    refine rd_slS (sz _ (by rw [len_S]; omega)) ?_
    rw [C8.cutS_slice, SX.slice_from (Int.natCast_nonneg _), Int.toNat_natCast]
    refine rd_addS (sz _ (by rw [len_S, len_S, List.length_append, List.length_take, List.length_drop]; show _ + 1 + _ < _; omega)) ?_
    rw [SX.S_cat]
    walk_at "gs"
    refine fin _ ⟨?_, ?_, fun c hc => ?_⟩ ?_
    · rw [len_S, List.length_append, List.length_append]; show 0 < _ + 1 + _; omega
    · rw [len_S, List.length_append, List.length_append, List.length_take, List.length_drop]; show _ + 1 + _ ≤ 4; omega
    · rw [cps_S] at hc
      rcases (List.mem_append.mp hc : _ ∨ _) with hc | hc
      · rcases (List.mem_append.mp hc : _ ∨ _) with hc | hc
        · exact sm c (List.mem_of_mem_take hc)
        · rw [List.mem_singleton.mp (show c ∈ [ms[k]] from hc)]; exact hcm
      · exact sm c (List.mem_of_mem_drop hc)
    · rw [cps_S, if_pos rfl, List.append_assoc, List.getElem?_append_right (by rw [List.length_take]; omega), List.length_take, show at_ - min at_ st.length = 0 by omega]
      rfl
  | false =>
    walk_at "gs"
    refine rd_addS (sz _ (by rw [len_S t]; show 1 + _ < _; omega)) ?_
    rw [SX.S_cat]
    walk_at "gs"
    refine fin _ ⟨?_, ?_, fun c hc => ?_⟩ ?_
    · rw [len_S, List.length_append]; show 0 < 1 + _; omega
    · rw [len_S, List.length_append]; show 1 + _ ≤ 4; omega
    · rw [cps_S] at hc
      rcases (List.mem_append.mp hc : _ ∨ _) with hc | hc
      · rw [List.mem_singleton.mp (show c ∈ [ms[k]] from hc)]; exact hcm
      · exact tm c hc
    · rw [cps_S, if_neg Bool.false_ne_true]
      rfl
theorem sat_names {vs : List V} {E : XK} (h : sp_names K vs H Q E) : vs.length = 2 ∧ t_names K { nx := fun _ H' => Q .non H', rt := Q } (vs.map some ++ List.replicate (11 - vs.length) none) H := by
  obtain ⟨b, m, G, L, rfl, m0, m10, B, q⟩ := h
  refine ⟨rfl, ?_⟩
  have hl : marksS.length = 16 := by decide +kernel
  have sz : ∀ n : Nat, n < 90000 → n ≤ sizeLine := fun n h => sz_of (by omega)
  unfold t_names
  walk_at "gs"
  refine ⟨marksS, rfl, sz _ (by omega), ?_⟩
  refine mk_mu (o := .lst (sgs mks)) (bag_world K b) B fun ma B1 => ?_
  walk_at "gs"
  refine mk_lstM (bag_world K b) B1 (Nat.zero_le _) fun fa B2 => ?_
  walk_at "gs"
  unfold t_names_1
  walk_at "gs"
  refine ⟨b, 4, G, _, rfl, by decide, by decide, B2, fun n H3 n0 n1 B3 => ?_⟩
  walk_at "gs"
  refine ⟨n, rfl, by omega, by omega, ?_⟩
  refine lc_signs B3 n0 (by omega) (fun _ => rfl) (fun x H3 G3 L3 B4 Kp kp => ?_) fun st G4 H4 e4 B4 tl tm => ?_
  · walk_at "gs"
    exact read_of_mark B4 kp
  walk_at "gs"
  unfold t_names_2
  walk_at "gs"
  refine rd_lenS (sz _ (by rw [len_S]; omega)) ?_
  rw [len_S]
  walk_at "gs"
  refine ⟨b, _, G4, _, rfl, by omega, by omega, B4, fun d H5 d0 d1 B5 => ?_⟩
  obtain ⟨a, rfl⟩ : ∃ a : Nat, d = (a : Int) := ⟨d.toNat, by omega⟩
  walk_at "gs"
  refine ⟨b, 2, G4, _, rfl, by decide, by decide, B5, fun e H6 e0 e1 B6 => ?_⟩
  walk_at "gs"
  generalize decide (e = 0) = nr
  unfold t_names_3
  walk_at "gs"
  refine ⟨m, rfl, by omega, by omega, ?_⟩
  refine for_go (walk_range (lo := 0) (n := m.toNat)) (G := G4)
    (fun i σ1 G2 H2 => ∃ x7 x8 x9 x10 ms ns, σ1 = [some (.ref b), some (.int m), some (.ref ma), some (.ref fa), some (.str (SX.S st)), some (.int (a : Nat)), some (.bl nr), x7, x8, x9, x10] ∧ Ex G4 G2 ∧
      Bag K G2 H2 b ((fa, .lst ((ns : List Str).map V.str)) :: (ma, .lst (sgs ms)) :: L) ∧ Found (if nr then a else 0) ms ns ∧ ns.length = i)
    ⟨_, _, _, _, mks, [], rfl, Ex.refl _, B6, ⟨List.nodup_nil, (fun _ h => by cases h), (fun _ h => by cases h), mks_ok.1, fun c h => h, by rw [mks_ok.2]; rfl⟩, rfl⟩ (fun _ _ _ _ _ _ => True.intro) ?_ ?_
  · rintro i x σ1 G2 H2 H3 hi ⟨x7, x8, x9, x10, ms, ns, rfl, e2, B7, F, hn⟩ y N hN
    obtain ⟨rfl, rfl⟩ := y
    walk_at "gs"
    exact read_names_turn B7 (by omega) tm (by omega) F (by omega) fun x8 x9 ms' z G' H' e' B' F' => hN _ G' H' ⟨_, _, _, _, ms', ns ++ [z], rfl, e2.trans e', B', F', by rw [List.length_append, hn]; rfl⟩
  · rintro σ1 G2 H2 ⟨x7, x8, x9, x10, ms, ns, rfl, e2, B7, F, hn⟩
    unfold t_names_4
    walk_at "gs"
    have z := (bag_world K b).frz B7
    refine q fa ns _ H2 (e4.trans (e2.trans z.2)) ((bag_world K b).drop z.1) (sq_of upd_same) (by omega) F.nd F.dr
end
end

/-! Levels that are drawn. -/



def mkL : List Str → List Lev → LevL
  | n :: ns, l :: ls => .cons n l (mkL ns ls)
  | _, _ => .nil
theorem mkL_names : ∀ (ns : List Str) (ls : List Lev), ns.length = ls.length → (mkL ns ls).names = ns
  | [], [], _ => rfl
  | n :: ns, l :: ls, h => by rw [mkL, LevL.names, mkL_names ns ls (Nat.succ.inj h)]
theorem mkL_levs : ∀ (ns : List Str) (ls : List Lev), ns.length = ls.length → (mkL ns ls).levs = ls
  | [], [], _ => rfl
  | n :: ns, l :: ls, h => by rw [mkL, LevL.levs, mkL_levs ns ls (Nat.succ.inj h)]
theorem mkL_good : ∀ (ns : List Str) (ls : List Lev), (∀ n, n ∈ ns → NameOk n) → (∀ l, l ∈ ls → l.good) → (mkL ns ls).good
  | [], _, _, _ => by rw [mkL]; rw [LevL.good]; exact True.intro; intros; contradiction
  | _ :: _, [], _, _ => by rw [mkL]; rw [LevL.good]; exact True.intro; intros; contradiction
  | n :: ns, l :: ls, h, g => by
    rw [mkL, LevL.good]
    exact ⟨h n (List.mem_cons_self ..), g l (List.mem_cons_self ..), mkL_good ns ls (fun x hx => h x (List.mem_cons_of_mem _ hx)) fun x hx => g x (List.mem_cons_of_mem _ hx)⟩
theorem depth_levs (m : Nat) : ∀ r : LevL, (∀ l, l ∈ r.levs → l.depth ≤ m) → r.depth ≤ m
  | .nil, _ => by rw [LevL.depth]; exact Nat.zero_le _
  | .cons n l r, h => by
    rw [LevL.levs] at h
    rw [LevL.depth]
    exact Nat.max_le.mpr ⟨h l (List.mem_cons_self ..), depth_levs m r fun x hx => h x (List.mem_cons_of_mem _ hx)⟩
mutual
/-- all names are drawn ones -/
def Lev.drawn : Lev → Prop
  | .mk fs ls => (∀ n, n ∈ fs → Drawn n) ∧ ls.drawn
def LevL.drawn : LevL → Prop
  | .nil => True
  | .cons n l r => Drawn n ∧ l.drawn ∧ r.drawn
end
theorem mkL_drawn : ∀ (ns : List Str) (ls : List Lev), (∀ n, n ∈ ns → Drawn n) → (∀ l, l ∈ ls → l.drawn) → (mkL ns ls).drawn
  | [], _, _, _ => by rw [mkL]; rw [LevL.drawn]; exact True.intro; intros; contradiction
  | _ :: _, [], _, _ => by rw [mkL]; rw [LevL.drawn]; exact True.intro; intros; contradiction
  | n :: ns, l :: ls, h, g => by
    rw [mkL, LevL.drawn]
    exact ⟨h n (List.mem_cons_self ..), g l (List.mem_cons_self ..), mkL_drawn ns ls (fun x hx => h x (List.mem_cons_of_mem _ hx)) fun x hx => g x (List.mem_cons_of_mem _ hx)⟩
theorem cutV_to {xs : List V} (k : Nat) : cutV xs none (some (k : Int)) = xs.take k := by
  unfold cutV
  rw [HT.sIx_none, show HT.sIx xs.length xs.length (some (k : Int)) = min k xs.length from HT.sIx_nat _ _ k, List.drop_zero, Nat.sub_zero, ← List.take_take, List.take_length]
theorem cutV_from {xs : List V} (k : Nat) : cutV xs (some (k : Int)) none = xs.drop k := by
  unfold cutV
  rw [HT.sIx_none, show HT.sIx xs.length 0 (some (k : Int)) = min k xs.length from HT.sIx_nat _ _ k]
  by_cases c : k ≤ xs.length
  · rw [Nat.min_eq_left c, List.take_of_length_le (by rw [List.length_drop]; exact Nat.le_refl _)]
  · rw [Nat.min_eq_right (by omega), List.drop_eq_nil_of_le (Nat.le_refl _), List.drop_eq_nil_of_le (by omega), List.take_nil]
section
variable {K : PySem.W.Frag} {σ : L2.St} {G H : Hp} {L : List (Addr × HO)} {Q : VK} {D : Ends} {b : Addr}
/-- levels at values -/
def LvsAt (K : PySem.W.Frag) (H : Hp) (us : List V) (ls : List Lev) : Prop := DpAll K H us (ls.map Lev.dat)
theorem LvsAt.ex {H H' : Hp} {us : List V} {ls : List Lev} (e : Ex H H') (h : LvsAt K H us ls) : LvsAt K H' us ls := DpAll.ex e _ _ h
theorem LvsAt.len {us : List V} {ls : List Lev} (h : LvsAt K H us ls) : us.length = ls.length := by
  have := DpAll.length h
  rwa [List.length_map] at this
theorem LvsAt.get {us : List V} {ls : List Lev} {i : Nat} {v : V} (h : LvsAt K H us ls) (hv : us[i]? = some v) : ∃ l, ls[i]? = some l ∧ Dp K H v l.dat := by
  obtain ⟨d, hd, dp⟩ := DpAll.get h hv
  rw [List.getElem?_map] at hd
  cases e : ls[i]? with
  | none => rw [e] at hd; cases hd
  | some l => rw [e] at hd; cases hd; exact ⟨l, rfl, dp⟩
/-- drawn, with few fields -/
def Lev.dr (nf : Int) (l : Lev) : Prop := l.drawn ∧ (l.fs.length : Int) ≤ nf
def sp_level (K : PySem.W.Frag) : Sp := fun vs H Q _ => ∃ (b ia : Addr) (nf : Int) (us : List V) (levs : List Lev) (G : Hp) (L : List (Addr × HO)), vs = [.ref b, .int nf, .ref ia] ∧ 1 ≤ nf ∧ nf ≤ 3 ∧ Bag K G H b L ∧ SqL K G ia us ∧ LvsAt K G us levs ∧ levs.length ≤ 2 ∧ (∀ l, l ∈ levs → l.good ∧ l.dr nf) ∧
  ∀ (v : V) (l : Lev) (G' H' : Hp), Ex G G' → Bag K G' H' b L → Dp K G' v l.dat → l.good → l.dr nf → l.ls.levs = levs → Q v H'
def t_level_2 (K : PySem.W.Frag) : TS :=
  (tRet (tLst (tCons (tSl (gSl K) (tVar 3) tNoPart (tPart (tVar 4))) (tCons (tLc (iZipA K (tCons (tSl (gSl K) (tVar 3) (tPart (tVar 4)) tNoPart) (tCons (tVar 2) tNil))) (gTup K 2 (gCons (gName 5) (gCons (gName 6) gNil))) tYes (tTup (tCons (tVar 5) (tCons (tVar 6) tNil))) [5, 6]) tNil))))
def t_level_1 (K : PySem.W.Frag) : TS :=
  (tSeq (tAsg (tOp (rI0 fun i j => .int (i - j)) (tCB (gLen K) (tCons (tVar 3) tNil)) (tCB (gLen K) (tCons (tVar 2) tNil))) (gName 4))
  (t_level_2 K))
def t_level (K : PySem.W.Frag) : TS :=
  (tSeq (tAsg (tCall (sp_names K) [] E0 (tCons (tVar 0) (tCons (tOp (gAdd K) (tOp (gAdd K) (tC (.int 1)) (tCall (sp_draw K) [] E0 (tCons (tVar 0) (tCons (tVar 1) tNil)))) (tCB (gLen K) (tCons (tVar 2) tNil))) tNil))) (gName 3))
  (t_level_1 K))
theorem sat_level {vs : List V} {E : XK} (h : sp_level K vs H Q E) : vs.length = 3 ∧ t_level K { nx := fun _ H' => Q .non H', rt := Q } (vs.map some ++ List.replicate (7 - vs.length) none) H := by
  obtain ⟨b, ia, nf, us, levs, G, L, rfl, n1, n3, B, hi, hu, h2, hg, q⟩ := h
  refine ⟨rfl, ?_⟩
  have hul := hu.len
  unfold t_level
  walk_at "gs"
  refine ⟨b, nf, G, _, rfl, by omega, by omega, B, fun d H1 d0 d1 B1 => ?_⟩
  walk_at "gs"
  refine rd_lenL (ex_l B1.ex hi) ?_
  walk_at "gs"
  refine ⟨b, _, G, _, rfl, by omega, by omega, B1, fun p ns G2 H2 e2 B2 hp hn nd dr => ?_⟩
  walk_at "gs"
  unfold t_level_1
  walk_at "gs"
  refine rd_lenL (ex_l B2.ex hp) ?_
  walk_at "gs"
  refine rd_lenL (ex_l (e2.trans B2.ex) hi) ?_
  rw [List.length_map]
  obtain ⟨many, hm⟩ : ∃ many : Nat, (ns.length : Int) - (us.length : Int) = many := ⟨((ns.length : Int) - (us.length : Int)).toNat, by omega⟩
  walk_at "gs"
  rw [hm]
  have hml : many + levs.length = ns.length := by omega
  have hm3 : 1 ≤ many ∧ many ≤ 3 := by omega
  unfold t_level_2
  walk_at "gs"
  refine rd_slL (ex_l B2.ex hp) ?_
  refine mk_im (o := .lst (cutV (ns.map V.str) none (some (many : Int)))) (bag_world K b) B2 fun fa G3 e3 B3 h3 => ?_
  rw [cutV_to, ← List.map_take] at h3
  walk_at "gs"
  refine rd_slL (ex_l (e3.trans B3.ex) hp) ?_
  refine mk_im (o := .lst (cutV (ns.map V.str) (some (many : Int)) none)) (bag_world K b) B3 fun na G4 e4 B4 h4 => ?_
  rw [cutV_from, ← List.map_drop] at h4
  walk_at "gs"
  have e24 := e2.trans (e3.trans e4)
  have hdl : (ns.drop many).length = levs.length := by rw [List.length_drop]; omega
  refine ⟨na, ia, (ns.drop many).map V.str, us, rfl, .inl ⟨ex_l B4.ex (sq_of h4), ex_l (e24.trans B4.ex) hi, ?_⟩⟩
  refine lc_go (bag_world K b) (walk_zip (n := levs.length) (by rw [List.length_map]; omega)) B4 (by omega) (ItPair K (fun i => ((ns.drop many).map V.str)[i]?) (fun i => us[i]?))
    (fun i acc G5 => ∃ qs : List Addr, acc = qs.map V.ref ∧ qs.length = i ∧ ∀ (j : Nat) (p : Addr), qs[j]? = some p → ∃ n v l, (ns.drop many)[j]? = some n ∧ levs[j]? = some l ∧ SqT K G5 p [.str n, v] ∧ Dp K G5 v l.dat)
    (fun H' e' => ⟨ex_l e' (sq_of h4), ex_l (e24.trans e') hi⟩) (fun i x G1 H1 H2 L1 _ e1 S1 y => item_pair (bag_world K b) S1 y) ⟨[], rfl, rfl, fun j p h => by simp at h⟩
    (fun i acc Ga Gb e ⟨qs, h1, h2, h3⟩ => ⟨qs, h1, h2, fun j p h => have ⟨n, v, l, a, b, c, d⟩ := h3 j p h; ⟨n, v, l, a, b, ex_t e c, Dp.ex e _ _ d⟩⟩) ?_ ?_
  · intro D1 i x acc G5 H5 hi2 _ e5 B5 ⟨qs, hacc, hql, hqs⟩ it Kp Sk kp sk
    obtain ⟨T, u, w, rfl, hT, hu1, hw⟩ := it
    have hu1 : ((ns.drop many).map V.str)[i]? = some u := hu1
    rw [List.getElem?_map] at hu1
    obtain ⟨n, hn1, rfl⟩ : ∃ n, (ns.drop many)[i]? = some n ∧ u = .str n := by
      cases e : (ns.drop many)[i]? with
      | none => rw [e] at hu1; cases hu1
      | some n => rw [e] at hu1; cases hu1; exact ⟨n, rfl, rfl⟩
    obtain ⟨l, hl1, dp⟩ := hu.get hw
    refine rd_gtup2 (ex_t B5.ex hT) ⟨rfl, ?_⟩
    refine rd_yes (rd_iT ?_)
    walk_at "gs"
    refine mk_tup (bag_world K b) B5 (by show 2 ≤ _; decide) fun p2 G6 e6 B6 h6 => ?_
    refine kp _ G6 _ e6 B6 ⟨qs ++ [p2], by rw [hacc, List.map_append]; rfl, by rw [List.length_append, hql]; rfl, fun j p3 hj => ?_⟩
    rcases Nat.lt_trichotomy j qs.length with hj2 | hj2 | hj2
    · rw [List.getElem?_append_left hj2] at hj
      obtain ⟨n3, v3, l3, a, b, c, d⟩ := hqs j p3 hj
      exact ⟨n3, v3, l3, a, b, ex_t e6 c, Dp.ex e6 _ _ d⟩
    · subst hj2
      rw [List.getElem?_append_right (Nat.le_refl _), Nat.sub_self] at hj
      cases (Option.some.inj hj)
      rw [hql]
      exact ⟨n, w, l, hn1, hl1, st_of h6, Dp.ex (e24.trans (e5.trans e6)) _ _ dp⟩
    · rw [List.getElem?_eq_none (by rw [List.length_append, List.length_singleton]; omega)] at hj
      cases hj
  · intro la acc G5 H5 e5 B5 ⟨qs, hacc, hql, hqs⟩ _
    subst hacc
    have zf := (bag_world K b).frz B5
    have hla : SqL K (upd G5 la (.lst (qs.map V.ref))) la (qs.map V.ref) := sq_of upd_same
    have B6 := zf.1
    have e6 := zf.2
    generalize upd G5 la (.lst (qs.map V.ref)) = G6 at *
    walk_at "gs"
    refine mk_lst (bag_world K b) B6 (by show 2 ≤ _; decide) fun ra G7 e7 B7 h7 => ?_
    have hnm := mkL_names (ns.drop many) levs hdl
    have hlv := mkL_levs (ns.drop many) levs hdl
    have e57 := e6.trans e7
    have drT : ∀ n, n ∈ ns.take many → Drawn n := fun n h => dr n (List.mem_of_mem_take h)
    have drD : ∀ n, n ∈ ns.drop many → Drawn n := fun n h => dr n (List.mem_of_mem_drop h)
    refine q (.ref ra) (.mk (ns.take many) (mkL (ns.drop many) levs)) G7 _ (e24.trans (e5.trans e57)) B7 ?_ ?_ ?_ hlv
    · refine lv_mk (sq_of h7) (ex_l (e4.trans (e5.trans e57)) (sq_of h3)) (ex_l e7 hla) ⟨by rw [hnm, hql, hdl], fun j p hj => ?_⟩
      rw [hnm, hlv]
      obtain ⟨n, v, l, a, b, c, d⟩ := hqs j p hj
      exact ⟨n, v, l, a, b, ex_t e57 c, Dp.ex e57 _ _ d⟩
    · rw [Lev.good]
      refine ⟨by rw [List.length_take]; omega, by rw [List.length_take]; omega, fun n h => (drT n h).ok, ?_, ?_, mkL_good _ _ (fun n h => (drD n h).ok) fun l hl => (hg l hl).1⟩
      · rw [hnm, List.take_append_drop]
        exact nd
      · rw [hnm, hdl]; exact h2
    · refine ⟨?_, ?_⟩
      · rw [Lev.drawn]
        exact ⟨drT, mkL_drawn _ _ drD fun l hl => (hg l hl).2.1⟩
      · show ((ns.take many).length : Int) ≤ nf
        rw [List.length_take]
        omega
def sp_some_level (K : PySem.W.Frag) : Sp := fun vs H Q _ => ∃ (b : Addr) (sh nf : Int) (G : Hp) (L : List (Addr × HO)), vs = [.ref b, .int sh, .int nf] ∧ 0 ≤ sh ∧ sh < 5 ∧ 1 ≤ nf ∧ nf ≤ 3 ∧ Bag K G H b L ∧
  ∀ (v : V) (l : Lev) (G' H' : Hp), Ex G G' → Bag K G' H' b L → Dp K G' v l.dat → l.good → l.dr nf → (∀ m, m ∈ l.ls.levs → m.dr nf) → l.depth ≤ 3 → Q v H'
def t_some_level_3 (K : PySem.W.Frag) : TS :=
  (tRet (tCall (sp_level K) [] E0 (tCons (tVar 0) (tCons (tVar 2) (tCons (tVar 5) tNil)))))
def t_some_level_2 (K : PySem.W.Frag) : TS :=
  (tSeq (tAsg (tOp (rIx K) (tLst (tCons (tLst tNil) (tCons (tLst (tCons (tVar 4) tNil)) (tCons (tLst (tCons (tVar 3) tNil)) (tCons (tLst (tCons (tVar 4) (tCons (tCall (sp_level K) [] E0 (tCons (tVar 0) (tCons (tVar 2) (tCons (tLst tNil) tNil)))) tNil))) (tCons (tLst (tCons (tVar 3) (tCons (tVar 4) tNil))) tNil)))))) (tVar 1)) (gName 5))
  (t_some_level_3 K))
def t_some_level_1 (K : PySem.W.Frag) : TS :=
  (tSeq (tAsg (tCall (sp_level K) [] E0 (tCons (tVar 0) (tCons (tVar 2) (tCons (tLst tNil) tNil)))) (gName 4))
  (t_some_level_2 K))
def t_some_level (K : PySem.W.Frag) : TS :=
  (tSeq (tAsg (tCall (sp_level K) [] E0 (tCons (tVar 0) (tCons (tVar 2) (tCons (tLst (tCons (tCall (sp_level K) [] E0 (tCons (tVar 0) (tCons (tVar 2) (tCons (tLst tNil) tNil)))) tNil)) tNil)))) (gName 3))
  (t_some_level_1 K))
theorem depth_of (l : Lev) (m : Nat) (h : ∀ k, k ∈ l.ls.levs → k.depth ≤ m) : l.depth ≤ m + 1 := by
  obtain ⟨fs, ls⟩ := l
  rw [Lev.depth]
  have := depth_levs m ls h
  omega
theorem nil_levs {H : Hp} : LvsAt K H [] [] := .nil
theorem one_lev {H : Hp} {v : V} {l : Lev} (h : Dp K H v l.dat) : LvsAt K H [v] [l] := .cons h .nil
theorem two_levs {H : Hp} {v w : V} {l k : Lev} (h : Dp K H v l.dat) (g : Dp K H w k.dat) : LvsAt K H [v, w] [l, k] := .cons h (.cons g .nil)
/-- what stands in the list of shapes -/
def ShapeAt (K : PySem.W.Frag) (nf : Int) (H : Hp) (x : V) : Prop := ∃ (a : Addr) (us : List V) (levs : List Lev), x = .ref a ∧ SqL K H a us ∧ LvsAt K H us levs ∧ levs.length ≤ 2 ∧ (∀ l, l ∈ levs → l.good ∧ l.dr nf) ∧ ∀ l, l ∈ levs → l.depth ≤ 2
theorem ShapeAt.ex {nf : Int} {H H' : Hp} {x : V} (e : Ex H H') (h : ShapeAt K nf H x) : ShapeAt K nf H' x := have ⟨a, us, ls, h1, h2, h3, h4⟩ := h; ⟨a, us, ls, h1, ex_l e h2, h3.ex e, h4⟩
theorem sat_some_level {vs : List V} {E : XK} (h : sp_some_level K vs H Q E) : vs.length = 3 ∧ t_some_level K { nx := fun _ H' => Q .non H', rt := Q } (vs.map some ++ List.replicate (6 - vs.length) none) H := by
  obtain ⟨b, sh, nf, G, L, rfl, s0, s5, n1, n3, B, q⟩ := h
  refine ⟨rfl, ?_⟩
  have W := bag_world K b
  unfold t_some_level
  walk_at "gs"
  refine mk_lst W B (Nat.zero_le _) fun a1 G1 e1 B1 h1 => ?_
  walk_at "gs"
  refine ⟨b, a1, nf, [], [], G1, _, rfl, n1, n3, B1, sq_of h1, nil_levs, Nat.zero_le _, (fun l h => by cases h), fun v1 l1 G2 H2 e2 B2 d1 g1 r1 k1 => ?_⟩
  have dep1 : l1.depth ≤ 1 := depth_of l1 0 (by rw [k1]; exact fun k h => by cases h)
  walk_at "gs"
  refine mk_lst W B2 (by show 1 ≤ _; decide) fun a2 G3 e3 B3 h3 => ?_
  walk_at "gs"
  refine ⟨b, a2, nf, [v1], [l1], G3, _, rfl, n1, n3, B3, sq_of h3, one_lev (Dp.ex e3 _ _ d1), by show 1 ≤ 2; decide, (fun l h => by rw [List.mem_singleton.mp h]; exact ⟨g1, r1⟩), fun v2 l2 G4 H4 e4 B4 d2 g2 r2 k2 => ?_⟩
  have dep2 : l2.depth ≤ 2 := depth_of l2 1 (by rw [k2]; exact fun k h => by rw [List.mem_singleton.mp h]; exact dep1)
  walk_at "gs"
  unfold t_some_level_1
  walk_at "gs"
  refine mk_lst W B4 (Nat.zero_le _) fun a5 G5 e5 B5 h5 => ?_
  walk_at "gs"
  refine ⟨b, a5, nf, [], [], G5, _, rfl, n1, n3, B5, sq_of h5, nil_levs, Nat.zero_le _, (fun l h => by cases h), fun v3 l3 G6 H6 e6 B6 d3 g3 r3 k3 => ?_⟩
  have dep3 : l3.depth ≤ 1 := depth_of l3 0 (by rw [k3]; exact fun k h => by cases h)
  walk_at "gs"
  unfold t_some_level_2
  walk_at "gs"
  have d2' := Dp.ex (e5.trans e6) _ _ d2
  refine mk_lst W B6 (Nat.zero_le _) fun c1 G7 e7 B7 h7 => ?_
  walk_at "gs"
  refine mk_lst W B7 (by show 1 ≤ _; decide) fun c2 G8 e8 B8 h8 => ?_
  walk_at "gs"
  refine mk_lst W B8 (by show 1 ≤ _; decide) fun c3 G9 e9 B9 h9 => ?_
  walk_at "gs"
  refine mk_lst W B9 (Nat.zero_le _) fun a10 G10 e10 B10 h10 => ?_
  walk_at "gs"
  refine ⟨b, a10, nf, [], [], G10, _, rfl, n1, n3, B10, sq_of h10, nil_levs, Nat.zero_le _, (fun l h => by cases h), fun v4 l4 G11 H11 e11 B11 d4 g4 r4 k4 => ?_⟩
  have dep4 : l4.depth ≤ 1 := depth_of l4 0 (by rw [k4]; exact fun k h => by cases h)
  walk_at "gs"
  refine mk_lst W B11 (by show 2 ≤ _; decide) fun c4 G12 e12 B12 h12 => ?_
  walk_at "gs"
  refine mk_lst W B12 (by show 2 ≤ _; decide) fun c5 G13 e13 B13 h13 => ?_
  walk_at "gs"
  refine mk_lst W B13 (by show 5 ≤ _; decide) fun c6 G14 e14 B14 h14 => ?_
  have x14 := e14
  have x13 := e13.trans x14
  have x12 := e12.trans x13
  have x11 := e11.trans x12
  have x10 := e10.trans x11
  have x9 := e9.trans x10
  have x8 := e8.trans x9
  have x7 := e7.trans x8
  have s1 : ShapeAt K nf G14 (.ref c1) := ⟨c1, [], [], rfl, ex_l x8 (sq_of h7), nil_levs, Nat.zero_le _, (fun l h => by cases h), fun l h => by cases h⟩
  have s2 : ShapeAt K nf G14 (.ref c2) := ⟨c2, [v3], [l3], rfl, ex_l x9 (sq_of h8), one_lev (Dp.ex x7 _ _ d3), by show 1 ≤ 2; decide, (fun l h => by rw [List.mem_singleton.mp h]; exact ⟨g3, r3⟩), fun l h => by rw [List.mem_singleton.mp h]; omega⟩
  have s3 : ShapeAt K nf G14 (.ref c3) := ⟨c3, [v2], [l2], rfl, ex_l x10 (sq_of h9), one_lev (Dp.ex x7 _ _ d2'), by show 1 ≤ 2; decide, (fun l h => by rw [List.mem_singleton.mp h]; exact ⟨g2, r2⟩), fun l h => by rw [List.mem_singleton.mp h]; omega⟩
  have s4 : ShapeAt K nf G14 (.ref c4) := ⟨c4, [v3, v4], [l3, l4], rfl, ex_l x13 (sq_of h12), two_levs (Dp.ex x7 _ _ d3) (Dp.ex x12 _ _ d4), by show 2 ≤ 2; decide, (fun l h => (in_two h).elim (fun e => e ▸ ⟨g3, r3⟩) fun h => by rw [List.mem_singleton.mp h]; exact ⟨g4, r4⟩), fun l h => (in_two h).elim (fun e => by rw [e]; omega) fun h => by rw [List.mem_singleton.mp h]; omega⟩
  have s5' : ShapeAt K nf G14 (.ref c5) := ⟨c5, [v2, v3], [l2, l3], rfl, ex_l x14 (sq_of h13), two_levs (Dp.ex x7 _ _ d2') (Dp.ex x7 _ _ d3), by show 2 ≤ 2; decide, (fun l h => (in_two h).elim (fun e => e ▸ ⟨g2, r2⟩) fun h => by rw [List.mem_singleton.mp h]; exact ⟨g3, r3⟩), fun l h => (in_two h).elim (fun e => by rw [e]; omega) fun h => by rw [List.mem_singleton.mp h]; omega⟩
  obtain ⟨j, rfl⟩ : ∃ j : Nat, sh = (j : Int) := ⟨sh.toNat, by omega⟩
  have hj : ∃ x, ([V.ref c1, .ref c2, .ref c3, .ref c4, .ref c5])[j]? = some x ∧ ShapeAt K nf G14 x := by
    have : j < 5 := by omega
    match j, this with
    | 0, _ => exact ⟨_, rfl, s1⟩
    | 1, _ => exact ⟨_, rfl, s2⟩
    | 2, _ => exact ⟨_, rfl, s3⟩
    | 3, _ => exact ⟨_, rfl, s4⟩
    | 4, _ => exact ⟨_, rfl, s5'⟩
  obtain ⟨x, hx, a, us, levs, rfl, hu, hv, l2', hg, hd⟩ := hj
  walk_at "gs"
  refine rd_ixL (i := (j : Nat)) (v := .ref a) (B14.ex _ _ h14 |> sq_of) (atI_nat hx) ?_
  walk_at "gs"
  unfold t_some_level_3
  walk_at "gs"
  refine ⟨b, a, nf, us, levs, G14, _, rfl, n1, n3, B14, hu, hv, l2', hg, fun v l G15 H15 e15 B15 dp gd dr hk => ?_⟩
  walk_at "gs"
  have dep : l.depth ≤ 3 := depth_of l 2 (by rw [hk]; exact hd)
  exact q v l G15 H15 (e1.trans (e2.trans (e3.trans (e4.trans (e5.trans (e6.trans (x7.trans e15))))))) B15 dp gd dr (fun m hm => (hg m (hk ▸ hm)).2) dep
end

/-! The law's own schema by arguments, its own depth. -/



section
variable {K : PySem.W.Frag} [SK : SchK K] [CK : Consts K] {σ : L2.St} {G H : Hp} {L : List (Addr × HO)} {Q : VK} {D : Ends} {x y z : V} {te : TE}
/-- Schema(fields, list, ..) -/
theorem mkQ {P : Addr → Hp → Prop} {E : XK} {a : Addr} {fs : List Str} {ps : List Addr} {ls : LevL} (S : Stt G H L) (ha : SqE K G a (fs.map V.str)) (hA : SchAll K G ps ls) (gd : (Lev.mk fs ls).good) (hd : (Lev.mk fs ls).depth ≤ 3) (q : ∀ x G' H', Ex G G' → Stt G' H' L → SchAt K G' (.ref x) (.mk fs ls) → P x H') :
    ∀ x dx, H x = none → H dx = none → dx ≠ x → sp_Schema_init K (.ref x :: .ref a :: ps.map V.ref) (upd (upd H dx (.own x)) x (.ins (cls_at K "Schema") dx [])) (fun v H2 => v = .non ∧ P x H2) E := by
  intro x dx hx hdx ne
  have S6 := S.new (o := .own x) hdx
  have e6 := S.newE (o := .own x) hdx
  have S7 := S6.mkL (p := x) (o := .ins (cls_at K "Schema") dx []) (by rw [upd_ne (Ne.symm ne)]; exact hx)
  exact .inl ⟨x, dx, a, ps, fs, ls, _, _, rfl, S7, ha.ex e6, hA.ex e6, gd, hd, fun G8 H8 e8 S8 h8 => ⟨rfl, q x G8 H8 (e6.trans e8) S8 h8⟩⟩
/-- .. of a list that will change -/
theorem mkQb {P : Addr → Hp → Prop} {E : XK} {a : Addr} {fs : List Str} (S : Stt G H L) (hm : (a, HO.lst (fs.map V.str)) ∈ L) (gd : (Lev.mk fs .nil).good) (q : ∀ x G' H', Ex G G' → Stt G' H' L → SchAt K G' (.ref x) (.mk fs .nil) → P x H') :
    ∀ x dx, H x = none → H dx = none → dx ≠ x → sp_Schema_init K [.ref x, .ref a] (upd (upd H dx (.own x)) x (.ins (cls_at K "Schema") dx [])) (fun v H2 => v = .non ∧ P x H2) E := by
  intro x dx hx hdx ne
  have S6 := S.new (o := .own x) hdx
  have e6 := S.newE (o := .own x) hdx
  have S7 := S6.mkL (p := x) (o := .ins (cls_at K "Schema") dx []) (by rw [upd_ne (Ne.symm ne)]; exact hx)
  exact .inr ⟨x, dx, a, fs, _, _, rfl, S7, hm, gd, fun G8 H8 e8 S8 h8 => ⟨rfl, q x G8 H8 (e6.trans e8) S8 h8⟩⟩
/-! ### a schema by arguments -/
def sp_made (K : PySem.W.Frag) (n : Nat) : Sp := fun vs H Q _ => ∃ (v : V) (l : Lev) (G : Hp) (L : List (Addr × HO)), vs = [v] ∧ Stt G H L ∧ Dp K G v l.dat ∧ l.depth ≤ n ∧ l.depth ≤ 3 ∧ l.good ∧ ∀ w G' H', Ex G G' → Stt G' H' L → SchAt K G' w l → Q w H'
theorem never_made (K : PySem.W.Frag) : ∀ vs H Q E, sp_made K 0 vs H Q E → False := fun vs H Q E ⟨v, l, G, L, _, _, _, h, _⟩ => by
  have := l.depth_pos
  omega
def t_made_2 (K : PySem.W.Frag) (n : Nat) : TS :=
  (tRet (tIf (tTest (tOp (gEq K) (tCB (gLen K) (tCons (tVar 1) tNil)) (tC (.int 1)))) (StX.tMakeR (cls_at K "Schema") (sp_Schema_init K) E0 (tCons (tCB (gList K) (tCons (tOp (rIx K) (tVar 0) (tC (.int 0))) tNil)) (tCons (tOp (rIx K) (tVar 1) (tC (.int 0))) tNil))) (StX.tMakeR (cls_at K "Schema") (sp_Schema_init K) E0 (tCons (tCB (gTuple K) (tCons (tOp (rIx K) (tVar 0) (tC (.int 0))) tNil)) (tCons (tOp (rIx K) (tVar 1) (tC (.int 0))) (tCons (tOp (rIx K) (tVar 1) (tC (.int 1))) tNil))))))
def t_made_1 (K : PySem.W.Frag) (n : Nat) : TS :=
  (tSeq (tIfS (tTest (tOp (gEq K) (tCB (gLen K) (tCons (tVar 1) tNil)) (tC (.int 0)))) (tRet (StX.tMakeR (cls_at K "Schema") (sp_Schema_init K) E0 (tCons (tCB (gList K) (tCons (tOp (rIx K) (tVar 0) (tC (.int 0))) tNil)) tNil))) tNext)
  (t_made_2 K n))
def t_made (K : PySem.W.Frag) (n : Nat) : TS :=
  (tSeq (tAsg (tLc (iList K (tOp (rIx K) (tVar 0) (tC (.int 1)))) (gTup K 2 (gCons (gName 2) (gCons (gName 3) gNil))) tYes (tTup (tCons (tVar 2) (tCons (tCall (sp_made K n) [] E0 (tCons (tVar 3) tNil)) tNil))) [2, 3]) (gName 1))
  (t_made_1 K n))
theorem read_made0 {n : Nat} {a b c D1 : Addr} {fs : List Str} {a2 a3 : Option V} (S : Stt G H L) (ha : SqL K G a [.ref b, .ref c]) (hb : SqL K G b (fs.map V.str)) (hD : SqL K G D1 []) (gd : (Lev.mk fs .nil).good) (hd : (Lev.mk fs .nil).depth ≤ 3)
    (q : ∀ w G' H', Ex G G' → Stt G' H' L → SchAt K G' w (.mk fs .nil) → D.rt w H') : t_made_1 K n D [some (.ref a), some (.ref D1), a2, a3] H := by
  unfold t_made_1
  walk_at "gs"
  refine rd_lenL (ex_l S.ex hD) ?_
  walk_at "gs"
  refine ⟨b, _, rfl, .inl (ex_l S.ex hb), ?_⟩
  refine mk_im (o := .lst (fs.map V.str)) stt_world S fun p1 G4 e4 S4 h4 => ?_
  walk_at "gs"
  exact mkQ (ps := []) S4 (.inl (sq_of h4)) .nil gd hd fun x G5 H5 e5 S5 hx => q _ G5 H5 (e4.trans e5) S5 hx
theorem read_made1 {n : Nat} {a b c D1 p : Addr} {fs : List Str} {ls : LevL} {a2 a3 : Option V} (S : Stt G H L) (ha : SqL K G a [.ref b, .ref c]) (hb : SqL K G b (fs.map V.str)) (hD : SqL K G D1 [.ref p]) (hA : SchAll K G [p] ls) (gd : (Lev.mk fs ls).good) (hd : (Lev.mk fs ls).depth ≤ 3)
    (q : ∀ w G' H', Ex G G' → Stt G' H' L → SchAt K G' w (.mk fs ls) → D.rt w H') : t_made_1 K n D [some (.ref a), some (.ref D1), a2, a3] H := by
  unfold t_made_1
  walk_at "gs"
  refine rd_lenL (ex_l S.ex hD) ?_
  walk_at "gs"
  unfold t_made_2
  walk_at "gs"
  refine rd_lenL (ex_l S.ex hD) ?_
  walk_at "gs"
  refine ⟨b, _, rfl, .inl (ex_l S.ex hb), ?_⟩
  refine mk_im (o := .lst (fs.map V.str)) stt_world S fun p1 G4 e4 S4 h4 => ?_
  walk_at "gs"
  refine rd_ixL (i := 0) (v := .ref p) (ex_l (e4.trans S4.ex) hD) rfl ?_
  walk_at "gs"
  exact mkQ (ps := [p]) S4 (.inl (sq_of h4)) (hA.ex e4) gd hd fun x G5 H5 e5 S5 hx => q _ G5 H5 (e4.trans e5) S5 hx
theorem read_made2 {n : Nat} {a b c D1 p p' : Addr} {fs : List Str} {ls : LevL} {a2 a3 : Option V} (S : Stt G H L) (ha : SqL K G a [.ref b, .ref c]) (hb : SqL K G b (fs.map V.str)) (hD : SqL K G D1 [.ref p, .ref p']) (hA : SchAll K G [p, p'] ls) (gd : (Lev.mk fs ls).good) (hd : (Lev.mk fs ls).depth ≤ 3)
    (q : ∀ w G' H', Ex G G' → Stt G' H' L → SchAt K G' w (.mk fs ls) → D.rt w H') : t_made_1 K n D [some (.ref a), some (.ref D1), a2, a3] H := by
  unfold t_made_1
  walk_at "gs"
  refine rd_lenL (ex_l S.ex hD) ?_
  walk_at "gs"
  unfold t_made_2
  walk_at "gs"
  refine rd_lenL (ex_l S.ex hD) ?_
  walk_at "gs"
  refine rd_gtupleL (ex_l S.ex hb) ?_
  refine mk_im (o := .tup (fs.map V.str)) stt_world S fun p1 G4 e4 S4 h4 => ?_
  walk_at "gs"
  refine rd_ixL (i := 0) (v := .ref p) (ex_l (e4.trans S4.ex) hD) rfl ?_
  walk_at "gs"
  refine rd_ixL (i := 1) (v := .ref p') (ex_l (e4.trans S4.ex) hD) rfl ?_
  walk_at "gs"
  exact mkQ (ps := [p, p']) S4 (.inr (st_of h4)) (hA.ex e4) gd hd fun x G5 H5 e5 S5 hx => q _ G5 H5 (e4.trans e5) S5 hx
theorem read_made {n : Nat} {a b c D1 : Addr} {ps : List Addr} {fs : List Str} {ls : LevL} {a2 a3 : Option V} (S : Stt G H L) (ha : SqL K G a [.ref b, .ref c]) (hb : SqL K G b (fs.map V.str)) (hD : SqL K G D1 (ps.map V.ref)) (hA : SchAll K G ps ls) (gd : (Lev.mk fs ls).good) (hd : (Lev.mk fs ls).depth ≤ 3)
    (q : ∀ w G' H', Ex G G' → Stt G' H' L → SchAt K G' w (.mk fs ls) → D.rt w H') : t_made_1 K n D [some (.ref a), some (.ref D1), a2, a3] H := by
  have hl := SchAll.len hA
  have g2 : ls.names.length ≤ 2 := by rw [Lev.good] at gd; exact gd.2.2.2.2.1
  rcases ps with _ | ⟨p, _ | ⟨p', _ | ⟨p2, ps⟩⟩⟩
  · cases hA
    exact read_made0 S ha hb hD gd hd q
  · exact read_made1 S ha hb hD hA gd hd q
  · exact read_made2 S ha hb hD hA gd hd q
  · exfalso
    rw [List.length_cons, List.length_cons, List.length_cons] at hl
    omega
theorem sat_made {n : Nat} {vs : List V} {E : XK} (h : sp_made K (n + 1) vs H Q E) : vs.length = 1 ∧ t_made K n { nx := fun _ H' => Q .non H', rt := Q } (vs.map some ++ List.replicate (4 - vs.length) none) H := by
  obtain ⟨v, l, G, L, rfl, S, hv, hd, h3, gd, q⟩ := h
  refine ⟨rfl, ?_⟩
  obtain ⟨fs, ls⟩ := l
  obtain ⟨a, b, c, qs, rfl, ha, hb, hc, hq⟩ := lv_inv hv
  have gd0 := gd
  have h30 := h3
  rw [Lev.depth] at hd h3
  rw [Lev.good] at gd
  have hlen := hq.1
  have hlv := LevL.len_levs ls
  unfold t_made
  walk_at "gs"
  refine ⟨c, rfl, ⟨_, ex_l S.ex hc⟩, ?_⟩
  refine lc_go stt_world (walk_list (K := K) (a := c) (xs := qs.map V.ref)) S (by rw [List.length_map]; omega) (fun i v _ => (qs.map V.ref)[i]? = some v)
    (fun i acc G4 => ∃ ps : List Addr, acc = ps.map V.ref ∧ ps.length = i ∧ ∀ (j : Nat) (p : Addr), ps[j]? = some p → ∃ n v l, ls.names[j]? = some n ∧ ls.levs[j]? = some l ∧ SqT K G4 p [.str n, v] ∧ SchAt K G4 v l)
    (fun H' e' => ex_l e' hc) (fun i x G1 H1 H2 L1 _ e1 S1 y => item_at S1 y) ⟨[], rfl, rfl, fun j p h => by simp at h⟩ (fun i acc Ga Gb e ⟨ps, h1, h2, h3⟩ => ⟨ps, h1, h2, fun j p h => have ⟨n, v, l, a, b, c, d⟩ := h3 j p h; ⟨n, v, l, a, b, ex_t e c, d.ex e⟩⟩) ?_ ?_
  · intro D1 i x acc G2 H2 hi _ e2 S2 ⟨ps, hacc, hpl, hps⟩ it Kp Sk kp sk
    obtain ⟨p, nm, v, l, rfl, hp, hn, hl2, hv⟩ := LvAll.at hq it
    refine rd_gtup2 (ex_t (e2.trans S2.ex) hp) ⟨rfl, ?_⟩
    refine rd_yes (rd_iT ?_)
    have dl := LevL.depth_get ls i l hl2
    have gl := LevL.good_get ls i l gd.2.2.2.2.2 hl2
    walk_at "gs"
    refine ⟨v, l, G2, _, rfl, S2, Dp.ex e2 _ _ hv, by omega, by omega, gl, fun w G3 H3 e3 S3 hw => ?_⟩
    walk_at "gs"
    refine mk_tup stt_world S3 (by show 2 ≤ _; decide) fun p2 G6 e6 S6 h6 => ?_
    have e36 := e3.trans e6
    refine kp _ G6 _ e36 S6 ⟨ps ++ [p2], by rw [hacc, List.map_append]; rfl, by rw [List.length_append, hpl]; rfl, fun j p3 hj => ?_⟩
    rcases Nat.lt_trichotomy j ps.length with hj2 | hj2 | hj2
    · rw [List.getElem?_append_left hj2] at hj
      obtain ⟨n3, v3, l3, a, b, c, d⟩ := hps j p3 hj
      exact ⟨n3, v3, l3, a, b, ex_t e36 c, d.ex e36⟩
    · subst hj2
      rw [List.getElem?_append_right (Nat.le_refl _), Nat.sub_self] at hj
      cases (Option.some.inj hj)
      rw [hpl]
      exact ⟨nm, w, l, hn, hl2, st_of h6, hw.ex e6⟩
    · rw [List.getElem?_eq_none (by rw [List.length_append, List.length_singleton]; omega)] at hj
      cases hj
  · intro D1 acc G2 H2 e2 S2 ⟨ps, hacc, hpl, hps⟩ _
    subst hacc
    have hpl : ps.length = ls.names.length := by rw [hpl, List.length_map, hlen]
    have hA := SchAll.of hpl hps
    have S3 := S2.frz
    have e3 := S2.frzE
    have hD : SqL K (upd G2 D1 (.lst (ps.map V.ref))) D1 (ps.map V.ref) := sq_of upd_same
    generalize upd G2 D1 (.lst (ps.map V.ref)) = G3 at *
    have e23 := e2.trans e3
    walk_at "gs"
    exact read_made S3 (ex_l e23 ha) (ex_l e23 hb) hD (hA.ex e3) gd0 h30 fun w G' H' e' => q w G' H' (e23.trans e')
/-! ### the depth of a level -/
theorem maxdep (r : LevL) (m : Int) (hm : m ∈ (0 : Int) :: r.levs.map fun l => (l.depth : Int)) (h : ∀ y, y ∈ (0 : Int) :: r.levs.map (fun l => (l.depth : Int)) → y ≤ m) : m = (r.depth : Int) := by
  have h0 := h 0 (List.mem_cons_self ..)
  have up : r.depth ≤ m.toNat := depth_levs m.toNat r fun l hl => by
    have := h _ (List.mem_cons_of_mem _ (List.mem_map.mpr ⟨l, hl, rfl⟩))
    omega
  rcases List.mem_cons.mp hm with e1 | e2
  · omega
  · obtain ⟨l, hl, e⟩ := List.mem_map.mp e2
    obtain ⟨i, hi⟩ := List.getElem?_of_mem hl
    have := LevL.depth_get r i l hi
    omega
def sp_depth (K : PySem.W.Frag) (n : Nat) : Sp := fun vs H Q _ => ∃ (v : V) (l : Lev) (G : Hp) (L : List (Addr × HO)), vs = [v] ∧ Stt G H L ∧ Dp K G v l.dat ∧ l.depth ≤ n ∧ l.depth ≤ 9 ∧ l.good ∧ ∀ H', Stt G H' L → Q (.int l.depth) H'
theorem never_depth (K : PySem.W.Frag) : ∀ vs H Q E, sp_depth K 0 vs H Q E → False := fun vs H Q E ⟨v, l, G, L, _, _, _, h, _⟩ => by
  have := l.depth_pos
  omega
def t_depth (K : PySem.W.Frag) (n : Nat) : TS :=
  (tRet (tOp (gAdd K) (tC (.int 1)) (tCB (rMax K) (tCons (tOp (gAdd K) (tLst (tCons (tC (.int 0)) tNil)) (tLc (iList K (tOp (rIx K) (tVar 0) (tC (.int 1)))) (gTup K 2 (gCons (gName 1) (gCons (gName 2) gNil))) tYes (tCall (sp_depth K n) [] E0 (tCons (tVar 2) tNil)) [1, 2])) tNil))))
theorem sat_depth {n : Nat} {vs : List V} {E : XK} (h : sp_depth K (n + 1) vs H Q E) : vs.length = 1 ∧ t_depth K n { nx := fun _ H' => Q .non H', rt := Q } (vs.map some ++ List.replicate (3 - vs.length) none) H := by
  obtain ⟨v, l, G, L, rfl, S, hv, hd, h9, gd, q⟩ := h
  refine ⟨rfl, ?_⟩
  obtain ⟨fs, ls⟩ := l
  obtain ⟨a, b, c, qs, rfl, ha, hb, hc, hq⟩ := lv_inv hv
  rw [Lev.depth] at hd h9 q
  rw [Lev.good] at gd
  have hlen := hq.1
  have hlv := LevL.len_levs ls
  unfold t_depth
  walk_at "gs"
  refine mk_lst stt_world S (by show 1 ≤ _; decide) fun p1 G1 e1 S1 h1 => ?_
  walk_at "gs"
  refine rd_ixL (i := 1) (v := .ref c) (ex_l (e1.trans S1.ex) ha) rfl ?_
  refine ⟨c, rfl, ⟨_, ex_l (e1.trans S1.ex) hc⟩, ?_⟩
  refine lc_go stt_world (walk_list (K := K) (a := c) (xs := qs.map V.ref)) S1 (by rw [List.length_map]; omega) (fun i v _ => (qs.map V.ref)[i]? = some v) (fun i acc _ => acc = ((ls.levs.take i).map fun l => (l.depth : Int)).map V.int) (fun H' e' => ex_l (e1.trans e') hc)
    (fun i x G1 H1 H2 L1 _ e1 S1 y => item_at S1 y) rfl (fun _ _ _ _ _ h => h) ?_ ?_
  · intro D1 i x acc G2 H2 hi _ e2 S2 I2 it Kp Sk kp sk
    obtain ⟨p, nm, v, l, rfl, hp, hn, hl2, hv⟩ := LvAll.at hq it
    have e12 := e1.trans e2
    refine rd_gtup2 (ex_t (e12.trans S2.ex) hp) ⟨rfl, ?_⟩
    refine rd_yes (rd_iT ?_)
    have dl := LevL.depth_get ls i l hl2
    walk_at "gs"
    refine ⟨_, l, G2, _, rfl, S2, Dp.ex e12 _ _ hv, by omega, by omega, LevL.good_get ls i l gd.2.2.2.2.2 hl2, fun H3 S3 => kp _ G2 H3 (Ex.refl _) S3 ?_⟩
    rw [I2, List.take_add_one, hl2, List.map_append, List.map_append]
    rfl
  · intro D1 acc G2 H2 e2 S2 I2 _
    have hacc : acc = (ls.levs.map fun l => (l.depth : Int)).map V.int := by
      rw [I2, List.take_of_length_le (by rw [List.length_map]; omega)]
    subst hacc
    walk_at "gs"
    refine rd_addL (S2.ex _ _ (e2 _ _ h1)) (S2.at 0 rfl) (sz_of (by rw [List.length_map, List.length_map]; have := gd.2.2.2.2.1; show 1 + ls.levs.length ≤ _; omega)) ?_
    refine mk_im (o := .lst ([.int 0] ++ (ls.levs.map fun l => (l.depth : Int)).map V.int)) stt_world S2.drop fun p2 G3 e3 S3 h3 => ?_
    walk_at "gs"
    refine ⟨p2, (0 : Int) :: ls.levs.map (fun l : Lev => (l.depth : Int)), rfl, sq_of (S3.ex _ _ (show G3 p2 = some (.lst ((([0] : List Int) ++ ls.levs.map fun l : Lev => (l.depth : Int)).map V.int)) from by rw [List.map_append]; exact h3)), Nat.succ_pos _, fun m hm hall => ?_⟩
    rw [maxdep ls m hm hall]
    walk_at "gs"
    have := q _ (S3.less (e1.trans (e2.trans e3)))
    rw [show ((1 + ls.depth : Nat) : Int) = 1 + (ls.depth : Int) by omega] at this
    exact this
end

/-! a + b of any two lists, also such as the text holds. -/
def rCatS (K : PySem.W.Frag) : R2 := fun x y H Q => ∃ a b xs ys, x = .ref a ∧ y = .ref b ∧ SqL K H a xs ∧ SqL K H b ys ∧ xs.length + ys.length ≤ sizeLine ∧ ∀ p, H p = none → Q (.ref p) (upd H p (.lst (xs ++ ys)))
theorem op_catS {X : Cx} : OpR X (binaryOp .Add) (rCatS X.K) := by
  intro pins s σ H x y v u Q I rx ry h; obtain ⟨a, b, xs, ys, rfl, rfl, ha, hb, hz, q⟩ := h
  cases rx
  cases ry
  obtain ⟨its, r1, ⟨⟨c1, d1, t1, s1⟩, n1, e1, h1, h2, h3⟩, _⟩ := I.list ha
  obtain ⟨jts, r2, ⟨⟨c2, d2, t2, s2⟩, n2, e2, k1, k2, k3⟩, _⟩ := I.list hb
  simp only at h1 h2 h3 k1 k2 k3
  subst h1 h2 h3 k1 k2 k3
  have l1 := r1.length
  have l2 := r2.length
  refine concat_meets ⟨_, e1, rfl⟩ ⟨_, e2, rfl⟩ noFill_list_add seq_list_add PySem.F.slot_list_add PySem.F.entry_list_add (PySem.F.args_list_add_2 _ _) (GE.meets_addS a b its.toArray jts.toArray n1 n2 s1 s2 (by rw [List.size_toArray, List.size_toArray]; omega)) ⟨e1, e2, ?_⟩
  have ea : its.toArray ++ jts.toArray = (its ++ jts).toArray := by simp
  rw [ea]
  exact ⟨.ref _, _, I.lnew (t' := s.toks) (r1.append r2) (by rw [List.length_append]; omega), rfl, q _ I.fresh⟩
theorem rd_catS {K : PySem.W.Frag} {H : Hp} {Q : VK} {a b : Addr} {xs ys : List V} (h1 : SqL K H a xs) (h2 : SqL K H b ys) (hz : xs.length + ys.length ≤ 100000) (q : ∀ p, H p = none → Q (.ref p) (upd H p (.lst (xs ++ ys)))) : rCatS K (.ref a) (.ref b) H Q := ⟨a, b, xs, ys, rfl, rfl, h1, h2, sz_of hz, q⟩

/-! Levels that differ in one place. -/
section
variable {K : PySem.W.Frag} {σ : L2.St} {G H : Hp} {L : List (Addr × HO)} {Q : VK} {D : Ends} {a b c : Addr} {fs : List Str} {qs : List Addr} {ls : LevL}
/-- the level at hand -/
structure LvH (K : PySem.W.Frag) (G : Hp) (a b c : Addr) (fs : List Str) (qs : List Addr) (ls : LevL) : Prop where
  ha : SqL K G a [.ref b, .ref c]
  hb : SqL K G b (fs.map V.str)
  hc : SqL K G c (qs.map V.ref)
  hq : LvAll K G qs ls
  f2 : fs.length ≤ 2
  q2 : qs.length ≤ 2
theorem LvH.ex {G' : Hp} (e : Ex G G') (h : LvH K G a b c fs qs ls) : LvH K G' a b c fs qs ls := ⟨ex_l e h.ha, ex_l e h.hb, ex_l e h.hc, h.hq.ex e, h.f2, h.q2⟩
abbrev x0 (K : PySem.W.Frag) (i : Nat) : TE := tOp (rIx K) (tVar i) (tC (.int 0))
abbrev x1 (K : PySem.W.Frag) (i : Nat) : TE := tOp (rIx K) (tVar i) (tC (.int 1))
abbrev yL : TE := tLst (tCons (tC (.str "y")) tNil)
theorem rd_x0 {i : Nat} (hv : σ[i]? = some (some (.ref a))) (S : Stt G H L) (V : LvH K G a b c fs qs ls) (q : Q (.ref b) H) : x0 K i σ H Q := rd_op (rd_var hv (rd_c (rd_ixL (i := 0) (ex_l S.ex V.ha) rfl q)))
theorem rd_x1 {i : Nat} (hv : σ[i]? = some (some (.ref a))) (S : Stt G H L) (V : LvH K G a b c fs qs ls) (q : Q (.ref c) H) : x1 K i σ H Q := rd_op (rd_var hv (rd_c (rd_ixL (i := 1) (ex_l S.ex V.ha) rfl q)))
theorem rd_yL (S : Stt G H L) (q : ∀ p G' H', Ex G G' → Stt G' H' L → SqL K G' p ([("y" : Str)].map V.str) → Q (.ref p) H') : yL σ H Q := rd_lst (rd_cons (rd_c (rd_nil (mk_lst stt_world S (by show 1 ≤ _; decide) fun p G1 e1 S1 h1 => q p G1 _ e1 S1 (sq_of h1)))))
/-- a + b of texts in lists that stay -/
theorem rd_catF {p r : Addr} {xs ys : List Str} (S : Stt G H L) (h1 : SqL K G p (xs.map V.str)) (h2 : SqL K G r (ys.map V.str)) (hz : xs.length + ys.length ≤ 100000) (q : ∀ p G' H', Ex G G' → Stt G' H' L → SqL K G' p ((xs ++ ys).map V.str) → Q (.ref p) H') : rCatS K (.ref p) (.ref r) H Q :=
  rd_catS (ex_l S.ex h1) (ex_l S.ex h2) (by rw [List.length_map, List.length_map]; exact hz) (mk_im (o := .lst (xs.map V.str ++ ys.map V.str)) stt_world S fun p G1 e1 S1 h1 => q p G1 _ e1 S1 (by rw [List.map_append]; exact sq_of h1))
theorem rd_catR {p r : Addr} {xs ys : List Addr} (S : Stt G H L) (h1 : SqL K G p (xs.map V.ref)) (h2 : SqL K G r (ys.map V.ref)) (hz : xs.length + ys.length ≤ 100000) (q : ∀ p G' H', Ex G G' → Stt G' H' L → SqL K G' p ((xs ++ ys).map V.ref) → Q (.ref p) H') : rCatS K (.ref p) (.ref r) H Q :=
  rd_catS (ex_l S.ex h1) (ex_l S.ex h2) (by rw [List.length_map, List.length_map]; exact hz) (mk_im (o := .lst (xs.map V.ref ++ ys.map V.ref)) stt_world S fun p G1 e1 S1 h1 => q p G1 _ e1 S1 (by rw [List.map_append]; exact sq_of h1))
/-- x[1:], x[:1], x[::-1] -/
theorem rd_from1 {te : TE} {p : Addr} {xs : List V} (h : ∀ R : VK, R (.ref p) H → te σ H R) (S : Stt G H L) (hp : SqL K G p xs) (q : ∀ r G' H', Ex G G' → Stt G' H' L → SqL K G' r (xs.drop 1) → Q (.ref r) H') : tSl (gSl K) te (tPart (tC (.int 1))) tNoPart σ H Q :=
  rd_sl (h _ (rd_part (rd_c ⟨1, rfl, rd_slL (ex_l S.ex hp) (mk_im (o := .lst (cutV xs (some (1 : Nat)) none)) stt_world S fun r G1 e1 S1 h1 => q r G1 _ e1 S1 (by rw [cutV_from] at h1; exact sq_of h1))⟩)))
theorem rd_to1 {te : TE} {p : Addr} {xs : List V} (h : ∀ R : VK, R (.ref p) H → te σ H R) (S : Stt G H L) (hp : SqL K G p xs) (q : ∀ r G' H', Ex G G' → Stt G' H' L → SqL K G' r (xs.take 1) → Q (.ref r) H') : tSl (gSl K) te tNoPart (tPart (tC (.int 1))) σ H Q :=
  rd_sl (h _ (show tPart (tC (.int 1)) σ H (fun u H3 => gSl K (.ref p) none u H3 Q) from rd_part (rd_c ⟨1, rfl, rd_slL (ex_l S.ex hp) (mk_im (o := .lst (cutV xs none (some (1 : Nat)))) stt_world S fun r G1 e1 S1 h1 => q r G1 _ e1 S1 (by rw [cutV_to] at h1; exact sq_of h1))⟩)))
theorem rd_rv {te : TE} {p : Addr} {xs : List V} (h : ∀ R : VK, R (.ref p) H → te σ H R) (S : Stt G H L) (hp : SqL K G p xs) (q : ∀ r G' H', Ex G G' → Stt G' H' L → SqL K G' r xs.reverse → Q (.ref r) H') : tRevL K te σ H Q :=
  h _ ⟨p, xs, rfl, ex_l S.ex hp, mk_im (o := .lst xs.reverse) stt_world S fun r G1 e1 S1 h1 => q r G1 _ e1 S1 (sq_of h1)⟩
/-- [fields, lists] -/
theorem mk_lv {r s : Addr} {gs : List Str} {ps : List Addr} {ms : LevL} (S : Stt G H L) (hr : SqL K G r (gs.map V.str)) (hs : SqL K G s (ps.map V.ref)) (hq : LvAll K G ps ms) (q : ∀ v G' H', Ex G G' → Stt G' H' L → Dp K G' v (Lev.mk gs ms).dat → Q v H') :
    ([.ref r, .ref s] : List V).length ≤ sizeLine ∧ ∀ p, H p = none → Q (.ref p) (upd H p (.lst [.ref r, .ref s])) :=
  mk_lst stt_world S (by show 2 ≤ _; decide) fun p G1 e1 S1 h1 => q _ G1 _ e1 S1 (lv_mk (sq_of h1) (ex_l e1 hr) (ex_l e1 hs) (hq.ex e1))
theorem LvAll.tail {p : Addr} {n : Str} {l : Lev} {r : LevL} (h : LvAll K G (p :: qs) (.cons n l r)) : LvAll K G qs r := by
  refine ⟨?_, fun j p2 hj => ?_⟩
  · have := h.1
    rw [LevL.names, List.length_cons, List.length_cons] at this
    omega
  · obtain ⟨m, v, k, h1, h2, h3⟩ := h.2 (j + 1) p2 hj
    rw [LevL.names] at h1
    rw [LevL.levs] at h2
    exact ⟨m, v, k, h1, h2, h3⟩
theorem LvAll.head {p : Addr} {n : Str} {l : Lev} {r : LevL} (h : LvAll K G (p :: qs) (.cons n l r)) : ∃ v, SqT K G p [.str n, v] ∧ Dp K G v l.dat := by
  obtain ⟨m, v, k, h1, h2, h3⟩ := h.2 0 p rfl
  rw [LevL.names] at h1
  rw [LevL.levs] at h2
  cases (Option.some.inj h1)
  cases (Option.some.inj h2)
  exact ⟨v, h3⟩
theorem LvAll.cons {p : Addr} {n : Str} {l : Lev} {r : LevL} {v : V} (hp : SqT K G p [.str n, v]) (hv : Dp K G v l.dat) (h : LvAll K G qs r) : LvAll K G (p :: qs) (.cons n l r) := by
  refine ⟨by rw [LevL.names, List.length_cons, List.length_cons, h.1], fun j p2 hj => ?_⟩
  rw [LevL.names, LevL.levs]
  cases j with
  | zero => cases (Option.some.inj hj); exact ⟨n, v, l, rfl, rfl, hp, hv⟩
  | succ j => exact h.2 j p2 hj
theorem drop1_str (f : Str) (ft : List Str) : ((f :: ft).map V.str).drop 1 = ft.map V.str := rfl
/-! ### the eight pieces -/
variable {f : Str} {ft : List Str}
theorem rd_p1 (hv : σ[0]? = some (some (.ref a))) (S : Stt G H L) (V : LvH K G a b c fs qs ls) (q : ∀ v G' H', Ex G G' → Stt G' H' L → Dp K G' v (Lev.mk (fs ++ [("y" : Str)]) ls).dat → Q v H') : tLst (tCons (tOp (rCatS K) (x0 K 0) yL) (tCons (x1 K 0) tNil)) σ H Q := by
  have f2 := V.f2
  refine rd_lst (rd_cons (rd_op (rd_x0 hv S V (rd_yL (K := K) S fun y1 G1 H1 e1 S1 h1 => rd_catF S1 (ex_l e1 V.hb) h1 (by show _ + 1 ≤ _; omega) fun p2 G2 H2 e2 S2 h2 => ?_))))
  have e12 := e1.trans e2
  exact rd_cons (rd_x1 hv S2 (V.ex e12) (rd_nil (mk_lv S2 h2 (ex_l e12 V.hc) (V.hq.ex e12) fun v G3 H3 e3 S3 d3 => q v G3 H3 (e12.trans e3) S3 d3)))
theorem rd_p2 (hv : σ[0]? = some (some (.ref a))) (S : Stt G H L) (V : LvH K G a b c (f :: ft) qs ls) (q : ∀ v G' H', Ex G G' → Stt G' H' L → Dp K G' v (Lev.mk ("y" :: ft) ls).dat → Q v H') : tLst (tCons (tOp (rCatS K) yL (tSl (gSl K) (x0 K 0) (tPart (tC (.int 1))) tNoPart)) (tCons (x1 K 0) tNil)) σ H Q := by
  have f2 := V.f2
  rw [List.length_cons] at f2
  refine rd_lst (rd_cons (rd_op (rd_yL (K := K) S fun y1 G1 H1 e1 S1 h1 => rd_from1 (fun R r => rd_x0 hv S1 (V.ex e1) r) S1 (ex_l e1 V.hb) fun p2 G2 H2 e2 S2 h2 => ?_)))
  refine rd_catF (xs := ["y"]) (ys := ft) S2 (ex_l e2 h1) h2 (by show 1 + _ ≤ _; omega) fun p3 G3 H3 e3 S3 h3 => ?_
  have e13 := e1.trans (e2.trans e3)
  exact rd_cons (rd_x1 hv S3 (V.ex e13) (rd_nil (mk_lv S3 h3 (ex_l e13 V.hc) (V.hq.ex e13) fun v G4 H4 e4 S4 d4 => q v G4 H4 (e13.trans e4) S4 d4)))
theorem rd_p3 (hv : σ[0]? = some (some (.ref a))) (S : Stt G H L) (V : LvH K G a b c fs qs ls) (q : ∀ v G' H', Ex G G' → Stt G' H' L → Dp K G' v (Lev.mk fs.reverse ls).dat → Q v H') : tLst (tCons (tRevL K (x0 K 0)) (tCons (x1 K 0) tNil)) σ H Q := by
  refine rd_lst (rd_cons (rd_rv (fun R r => rd_x0 hv S V r) S V.hb fun p2 G2 H2 e2 S2 h2 => ?_))
  rw [← List.map_reverse] at h2
  exact rd_cons (rd_x1 hv S2 (V.ex e2) (rd_nil (mk_lv S2 h2 (ex_l e2 V.hc) (V.hq.ex e2) fun v G3 H3 e3 S3 d3 => q v G3 H3 (e2.trans e3) S3 d3)))
theorem rd_p4 (hv : σ[0]? = some (some (.ref a))) (S : Stt G H L) (V : LvH K G a b c (f :: ft) qs ls) (q : ∀ v G' H', Ex G G' → Stt G' H' L → Dp K G' v (Lev.mk ft ls).dat → Q v H') : tLst (tCons (tSl (gSl K) (x0 K 0) (tPart (tC (.int 1))) tNoPart) (tCons (x1 K 0) tNil)) σ H Q := by
  refine rd_lst (rd_cons (rd_from1 (fun R r => rd_x0 hv S V r) S V.hb fun p2 G2 H2 e2 S2 h2 => ?_))
  exact rd_cons (rd_x1 hv S2 (V.ex e2) (rd_nil (mk_lv S2 (gs := ft) h2 (ex_l e2 V.hc) (V.hq.ex e2) fun v G3 H3 e3 S3 d3 => q v G3 H3 (e2.trans e3) S3 d3)))
variable {p : Addr} {n : Str} {l : Lev} {r : LevL} {u : V}
theorem rd_p5 (hv : σ[0]? = some (some (.ref a))) (S : Stt G H L) (V : LvH K G a b c fs (p :: qs) (.cons n l r)) (q : ∀ v G' H', Ex G G' → Stt G' H' L → Dp K G' v (Lev.mk fs r).dat → Q v H') : tLst (tCons (x0 K 0) (tCons (tSl (gSl K) (x1 K 0) (tPart (tC (.int 1))) tNoPart) tNil)) σ H Q := by
  refine rd_lst (rd_cons (rd_x0 hv S V (rd_cons (rd_from1 (fun R r => rd_x1 hv S V r) S V.hc fun p2 G2 H2 e2 S2 h2 => rd_nil ?_))))
  exact mk_lv (ps := qs) S2 (ex_l e2 V.hb) h2 (V.hq.tail.ex e2) fun v G3 H3 e3 S3 d3 => q v G3 H3 (e2.trans e3) S3 d3
theorem rd_p6 (hv : σ[0]? = some (some (.ref a))) (h3 : σ[3]? = some (some u)) (S : Stt G H L) (V : LvH K G a b c fs (p :: qs) (.cons n l r)) (hu : Dp K G u l.dat) (q : ∀ v G' H', Ex G G' → Stt G' H' L → Dp K G' v (Lev.mk fs (.cons "y" l r)).dat → Q v H') :
    tLst (tCons (x0 K 0) (tCons (tOp (rCatS K) (tLst (tCons (tTup (tCons (tC (.str "y")) (tCons (tVar 3) tNil))) tNil)) (tSl (gSl K) (x1 K 0) (tPart (tC (.int 1))) tNoPart)) tNil)) σ H Q := by
  have q2 := V.q2
  rw [List.length_cons] at q2
  refine rd_lst (rd_cons (rd_x0 hv S V (rd_cons (rd_op (rd_lst (rd_cons (rd_tup (rd_cons (rd_c (rd_cons (rd_var h3 (rd_nil ?_))))))))))))
  refine mk_tup stt_world S (by show 2 ≤ _; decide) fun t1 G1 e1 S1 k1 => rd_nil ?_
  refine mk_lst stt_world S1 (by show 1 ≤ _; decide) fun p2 G2 e2 S2 k2 => ?_
  have e12 := e1.trans e2
  refine rd_from1 (fun R r => rd_x1 hv S2 (V.ex e12) r) S2 (ex_l e12 V.hc) fun p3 G3 H3 e3 S3 k3 => ?_
  have e13 := e12.trans e3
  refine rd_catR (xs := [t1]) (ys := qs) S3 (ex_l e3 (sq_of k2)) k3 (by show 1 + _ ≤ _; omega) fun p4 G4 H4 e4 S4 k4 => rd_nil ?_
  have e14 := e13.trans e4
  exact mk_lv (ps := t1 :: qs) S4 (ex_l e14 V.hb) k4 (.cons (ex_t (e2.trans (e3.trans e4)) (st_of k1)) (Dp.ex e14 _ _ hu) (V.hq.tail.ex e14)) fun v G5 H5 e5 S5 d5 => q v G5 H5 (e14.trans e5) S5 d5
variable {a2 b2 c2 : Addr} {qt : List Addr} {ms : LevL}
theorem rd_p7 (hv : σ[0]? = some (some (.ref a))) (h2 : σ[2]? = some (some (.str n))) (h3 : σ[3]? = some (some (.ref a2))) (S : Stt G H L) (V : LvH K G a b c fs (p :: qs) (.cons n l r)) (W : LvH K G a2 b2 c2 (f :: ft) qt ms) (q : ∀ v G' H', Ex G G' → Stt G' H' L → Dp K G' v (Lev.mk fs (.cons n (.mk (f :: "y" :: ft) ms) r)).dat → Q v H') :
    tLst (tCons (x0 K 0) (tCons (tOp (rCatS K) (tLst (tCons (tTup (tCons (tVar 2) (tCons (tLst (tCons (tOp (rCatS K) (tOp (rCatS K) (tSl (gSl K) (x0 K 3) tNoPart (tPart (tC (.int 1)))) yL) (tSl (gSl K) (x0 K 3) (tPart (tC (.int 1))) tNoPart)) (tCons (x1 K 3) tNil))) tNil))) tNil)) (tSl (gSl K) (x1 K 0) (tPart (tC (.int 1))) tNoPart)) tNil)) σ H Q := by
  have q2 := V.q2
  have f2 := W.f2
  rw [List.length_cons] at q2 f2
  refine rd_lst (rd_cons (rd_x0 hv S V (rd_cons (rd_op (rd_lst (rd_cons (rd_tup (rd_cons (rd_var h2 (rd_cons (rd_lst (rd_cons (rd_op (rd_op ?_))))))))))))))
  refine rd_to1 (fun R r => rd_x0 h3 S W r) S W.hb fun y1 G1 H1 e1 S1 k1 => ?_
  refine rd_yL (K := K) S1 fun y2 G2 H2 e2 S2 k2 => ?_
  refine rd_catF (xs := [f]) (ys := ["y"]) S2 (ex_l e2 k1) k2 (by show 2 ≤ _; decide) fun y3 G3 H3 e3 S3 k3 => ?_
  have e13 := e1.trans (e2.trans e3)
  refine rd_from1 (fun R r => rd_x0 h3 S3 (W.ex e13) r) S3 (ex_l e13 W.hb) fun y4 G4 H4 e4 S4 k4 => ?_
  refine rd_catF (xs := [f, "y"]) (ys := ft) S4 (ex_l e4 k3) k4 (by show 2 + _ ≤ _; omega) fun y5 G5 H5 e5 S5 k5 => ?_
  have e15 := e13.trans (e4.trans e5)
  refine rd_cons (rd_x1 h3 S5 (W.ex e15) (rd_nil (mk_lst stt_world S5 (by show 2 ≤ _; decide) fun y6 G6 e6 S6 k6 => rd_nil ?_)))
  have d6 : Dp K G6 (.ref y6) (Lev.mk (f :: "y" :: ft) ms).dat := lv_mk (fs := f :: "y" :: ft) (sq_of k6) (ex_l e6 k5) (ex_l (e15.trans e6) W.hc) (W.hq.ex (e15.trans e6))
  refine mk_tup stt_world S6 (by show 2 ≤ _; decide) fun t7 G7 e7 S7 k7 => rd_nil ?_
  refine mk_lst stt_world S7 (by show 1 ≤ _; decide) fun p8 G8 e8 S8 k8 => ?_
  have e18 := e15.trans (e6.trans (e7.trans e8))
  refine rd_from1 (fun R r => rd_x1 hv S8 (V.ex e18) r) S8 (ex_l e18 V.hc) fun p9 G9 H9 e9 S9 k9 => ?_
  refine rd_catR (xs := [t7]) (ys := qs) S9 (ex_l e9 (sq_of k8)) k9 (by show 1 + _ ≤ _; omega) fun p10 G10 H10 e10 S10 k10 => rd_nil ?_
  have e90 := e9.trans e10
  have e20 := e18.trans e90
  exact mk_lv (ps := t7 :: qs) S10 (ex_l e20 V.hb) k10 (.cons (ex_t (e8.trans e90) (st_of k7)) (Dp.ex (e7.trans (e8.trans e90)) _ _ d6) (V.hq.tail.ex e20)) fun v G5 H5 e5 S5 d5 => q v G5 H5 (e20.trans e5) S5 d5
theorem rd_p8 {p' : Addr} {m : Str} {k : Lev} (hv : σ[0]? = some (some (.ref a))) (S : Stt G H L) (V : LvH K G a b c fs [p, p'] (.cons n l (.cons m k .nil))) (q : ∀ v G' H', Ex G G' → Stt G' H' L → Dp K G' v (Lev.mk fs (.cons m k (.cons n l .nil))).dat → Q v H') :
    tLst (tCons (x0 K 0) (tCons (tRevL K (x1 K 0)) tNil)) σ H Q := by
  refine rd_lst (rd_cons (rd_x0 hv S V (rd_cons (rd_rv (fun R r => rd_x1 hv S V r) S V.hc fun p2 G2 H2 e2 S2 h2 => rd_nil ?_))))
  have V2 := V.hq.ex e2
  obtain ⟨v1, s1, d1⟩ := V2.head
  obtain ⟨v2, s2, d2⟩ := V2.tail.head
  exact mk_lv (ps := [p', p]) S2 (ex_l e2 V.hb) h2 (.cons s2 d2 (.cons s1 d1 ⟨rfl, fun j p hj => by simp at hj⟩)) fun v G3 H3 e3 S3 d3 => q v G3 H3 (e2.trans e3) S3 d3
end

/-! The eight pieces are schemas of their own, other ones. -/
/-- another level, good and not too deep -/
structure OthOk (l m : Lev) : Prop where
  g : m.good
  d : m.depth ≤ 3
  ne : m ≠ l
theorem nmY : NameOk "y" := ⟨by decide +kernel, by decide +kernel⟩
theorem Drawn.noY {z : Str} (h : Drawn z) : z ≠ "y" := fun e => by
  subst e
  have h1 : (121 : Nat) ∈ mks := h.2.2 121 (by decide +kernel)
  exact absurd h1 (by decide +kernel)
theorem LevL.noY : ∀ r : LevL, r.drawn → ("y" : Str) ∉ r.names
  | .nil, _ => by rw [LevL.names]; exact List.not_mem_nil
  | .cons n l r, h => by
    rw [LevL.drawn] at h
    rw [LevL.names]
    intro e
    rcases List.mem_cons.mp e with e1 | e
    · exact h.1.noY e1.symm
    · exact LevL.noY r h.2.2 e
section
variable {f : Str} {fs ft : List Str} {ls r : LevL} {n : Str} {l k : Lev}
theorem noYf (h : (Lev.mk fs ls).drawn) : ("y" : Str) ∉ fs ++ ls.names := fun e => by
  rw [Lev.drawn] at h
  rcases List.mem_append.mp e with e | e
  · exact (h.1 _ e).noY rfl
  · exact LevL.noY ls h.2 e
theorem ot1 (g : (Lev.mk fs ls).good) (dr : (Lev.mk fs ls).drawn) (d : (Lev.mk fs ls).depth ≤ 3) (f2 : fs.length ≤ 2) : OthOk (.mk fs ls) (.mk (fs ++ [("y" : Str)]) ls) := by
  have ny := noYf dr
  rw [Lev.good] at g
  refine ⟨?_, by rw [Lev.depth] at d ⊢; exact d, fun e => ?_⟩
  · rw [Lev.good]
    refine ⟨by rw [List.length_append]; omega, by rw [List.length_append]; show fs.length + 1 ≤ 3; omega, fun m hm => ?_, ?_, g.2.2.2.2.1, g.2.2.2.2.2⟩
    · rcases List.mem_append.mp hm with h1 | hm
      · exact g.2.2.1 m h1
      · rw [List.mem_singleton.mp hm]; exact nmY
    · rw [List.append_assoc]
      exact (List.perm_middle.nodup_iff).mpr (List.nodup_cons.mpr ⟨ny, g.2.2.2.1⟩)
  · have := congrArg (fun x : Lev => x.fs.length) e
    simp only [Lev.fs, List.length_append, List.length_singleton] at this
    omega
theorem ot2 (g : (Lev.mk (f :: ft) ls).good) (dr : (Lev.mk (f :: ft) ls).drawn) (d : (Lev.mk (f :: ft) ls).depth ≤ 3) : OthOk (.mk (f :: ft) ls) (.mk ("y" :: ft) ls) := by
  have ny := noYf dr
  rw [Lev.good] at g
  rw [List.cons_append] at ny
  have nd := g.2.2.2.1
  rw [List.cons_append, List.nodup_cons] at nd
  refine ⟨?_, by rw [Lev.depth] at d ⊢; exact d, fun e => ?_⟩
  · rw [Lev.good]
    refine ⟨Nat.succ_pos _, g.2.1, fun m hm => ?_, ?_, g.2.2.2.2.1, g.2.2.2.2.2⟩
    · rcases List.mem_cons.mp hm with hm | hm
      · rw [hm]; exact nmY
      · exact g.2.2.1 m (List.mem_cons_of_mem _ hm)
    · rw [List.cons_append]
      exact List.nodup_cons.mpr ⟨fun h => ny (List.mem_cons_of_mem _ h), nd.2⟩
  · have := congrArg (fun x : Lev => x.fs.head?) e
    exact ny (by rw [show ("y" : Str) = f from Option.some.inj this]; exact List.mem_cons_self ..)
theorem ot3 (g : (Lev.mk fs ls).good) (d : (Lev.mk fs ls).depth ≤ 3) (f2 : 1 < fs.length) : OthOk (.mk fs ls) (.mk fs.reverse ls) := by
  rw [Lev.good] at g
  have nd := List.nodup_append.mp g.2.2.2.1
  refine ⟨?_, by rw [Lev.depth] at d ⊢; exact d, fun e => ?_⟩
  · rw [Lev.good]
    exact ⟨by rw [List.length_reverse]; omega, by rw [List.length_reverse]; exact g.2.1, fun m hm => g.2.2.1 m (List.mem_reverse.mp hm), ((List.Perm.append_right ls.names (List.reverse_perm fs)).nodup_iff).mpr g.2.2.2.1, g.2.2.2.2.1, g.2.2.2.2.2⟩
  · have e : fs.reverse = fs := congrArg (fun x : Lev => x.fs) e
    have h1 := List.getElem_reverse (l := fs) (i := 0) (by rw [List.length_reverse]; omega)
    have h2 : fs.reverse[0]'(by rw [List.length_reverse]; omega) = fs[0]'(by omega) := by simp only [e]
    rw [h2] at h1
    exact List.pairwise_iff_getElem.mp nd.1 0 (fs.length - 1 - 0) (by omega) (by omega) (by omega) h1
theorem ot4 (g : (Lev.mk (f :: ft) ls).good) (d : (Lev.mk (f :: ft) ls).depth ≤ 3) (f2 : 1 < (f :: ft).length) : OthOk (.mk (f :: ft) ls) (.mk ft ls) := by
  rw [Lev.good] at g
  rw [List.length_cons] at f2 g
  have nd := g.2.2.2.1
  rw [List.cons_append, List.nodup_cons] at nd
  refine ⟨?_, by rw [Lev.depth] at d ⊢; exact d, fun e => ?_⟩
  · rw [Lev.good]
    exact ⟨by omega, by omega, fun m hm => g.2.2.1 m (List.mem_cons_of_mem _ hm), nd.2, g.2.2.2.2.1, g.2.2.2.2.2⟩
  · have := congrArg (fun x : Lev => x.fs.length) e
    simp only [Lev.fs, List.length_cons] at this
    omega
theorem levL_len {r s : LevL} (e : r = s) : r.names.length = s.names.length := by rw [e]
theorem ot5 (g : (Lev.mk fs (.cons n l r)).good) (d : (Lev.mk fs (.cons n l r)).depth ≤ 3) : OthOk (.mk fs (.cons n l r)) (.mk fs r) := by
  rw [Lev.good, LevL.names, LevL.good] at g
  rw [Lev.depth, LevL.depth] at d
  have g2 := g.2.2.2.2.1
  rw [List.length_cons] at g2
  have pm : (fs ++ n :: r.names).Perm (n :: (fs ++ r.names)) := List.perm_middle
  refine ⟨?_, by rw [Lev.depth]; have := Nat.le_max_right l.depth r.depth; omega, fun e => ?_⟩
  · rw [Lev.good]
    exact ⟨g.1, g.2.1, g.2.2.1, (List.nodup_cons.mp ((pm.nodup_iff).mp g.2.2.2.1)).2, by omega, g.2.2.2.2.2.2.2⟩
  · have := levL_len (congrArg (fun x : Lev => x.ls) e)
    rw [show (Lev.mk fs (.cons n l r)).ls.names = n :: r.names from by rw [Lev.ls, LevL.names]] at this
    rw [List.length_cons] at this
    simp only [Lev.ls] at this
    omega
theorem ot6 (g : (Lev.mk fs (.cons n l r)).good) (dr : (Lev.mk fs (.cons n l r)).drawn) (d : (Lev.mk fs (.cons n l r)).depth ≤ 3) : OthOk (.mk fs (.cons n l r)) (.mk fs (.cons "y" l r)) := by
  have ny := noYf dr
  rw [Lev.good, LevL.names, LevL.good] at g
  rw [LevL.names] at ny
  have pm : (fs ++ n :: r.names).Perm (n :: (fs ++ r.names)) := List.perm_middle
  have ny2 : ("y" : Str) ∉ fs ++ r.names := fun h => ny ((pm.mem_iff).mpr (List.mem_cons_of_mem _ h))
  have nd := (List.nodup_cons.mp ((pm.nodup_iff).mp g.2.2.2.1)).2
  refine ⟨?_, by rw [Lev.depth, LevL.depth] at d ⊢; exact d, fun e => ?_⟩
  · rw [Lev.good, LevL.names, LevL.good]
    exact ⟨g.1, g.2.1, g.2.2.1, (List.perm_middle.nodup_iff).mpr (List.nodup_cons.mpr ⟨ny2, nd⟩), g.2.2.2.2.1, nmY, g.2.2.2.2.2.2⟩
  · have e : LevL.cons "y" l r = .cons n l r := congrArg (fun x : Lev => x.ls) e
    have e2 := congrArg (fun x : LevL => x.names.head?) e
    simp only [LevL.names, List.head?_cons] at e2
    have e3 := Option.some.inj e2
    exact ny (by rw [e3]; exact List.mem_append_right _ (List.mem_cons_self ..))
theorem ot7 {g0 : Str} {gt : List Str} {ms : LevL} (g : (Lev.mk fs (.cons n (.mk (g0 :: gt) ms) r)).good) (dr : (Lev.mk (g0 :: gt) ms).drawn) (d : (Lev.mk fs (.cons n (.mk (g0 :: gt) ms) r)).depth ≤ 3) (f2 : (g0 :: gt).length ≤ 2) :
    OthOk (.mk fs (.cons n (.mk (g0 :: gt) ms) r)) (.mk fs (.cons n (.mk (g0 :: "y" :: gt) ms) r)) := by
  have ny := noYf dr
  rw [Lev.good, LevL.names, LevL.good] at g
  have gi := g.2.2.2.2.2.2.1
  rw [Lev.good] at gi
  rw [List.length_cons] at f2
  have nd := gi.2.2.2.1
  rw [List.cons_append, List.nodup_cons] at nd
  rw [List.cons_append] at ny
  refine ⟨?_, by rw [Lev.depth, LevL.depth, Lev.depth] at d ⊢; exact d, fun e => ?_⟩
  · rw [Lev.good, LevL.names, LevL.good]
    refine ⟨g.1, g.2.1, g.2.2.1, g.2.2.2.1, g.2.2.2.2.1, g.2.2.2.2.2.1, ?_, g.2.2.2.2.2.2.2⟩
    rw [Lev.good]
    refine ⟨Nat.succ_pos _, by rw [List.length_cons, List.length_cons]; omega, fun m hm => ?_, ?_, gi.2.2.2.2.1, gi.2.2.2.2.2⟩
    · rcases List.mem_cons.mp hm with hm | hm
      · rw [hm]; exact gi.2.2.1 _ (List.mem_cons_self ..)
      · rcases List.mem_cons.mp hm with hm | hm
        · rw [hm]; exact nmY
        · exact gi.2.2.1 m (List.mem_cons_of_mem _ hm)
    · rw [List.cons_append, List.cons_append]
      refine List.nodup_cons.mpr ⟨fun h => ?_, List.nodup_cons.mpr ⟨fun h => ny (List.mem_cons_of_mem _ h), nd.2⟩⟩
      rcases List.mem_cons.mp h with h | h
      · exact ny (by rw [h]; exact List.mem_cons_self ..)
      · exact nd.1 h
  · have e : LevL.cons n (.mk (g0 :: "y" :: gt) ms) r = .cons n (.mk (g0 :: gt) ms) r := congrArg (fun x : Lev => x.ls) e
    have e2 := congrArg (fun x : LevL => x.levs.head?) e
    simp only [LevL.levs, List.head?_cons] at e2
    have e3 := congrArg (fun x : Lev => x.fs.length) (Option.some.inj e2)
    simp only [Lev.fs, List.length_cons] at e3
    omega
theorem ot8 {m : Str} (g : (Lev.mk fs (.cons n l (.cons m k .nil))).good) (d : (Lev.mk fs (.cons n l (.cons m k .nil))).depth ≤ 3) : OthOk (.mk fs (.cons n l (.cons m k .nil))) (.mk fs (.cons m k (.cons n l .nil))) := by
  rw [Lev.good, LevL.names, LevL.names, LevL.names, LevL.good, LevL.good, LevL.good] at g
  have nd := List.nodup_append.mp g.2.2.2.1
  have ne : n ≠ m := fun e => (List.nodup_cons.mp nd.2.1).1 (by rw [e]; exact List.mem_cons_self ..)
  refine ⟨?_, ?_, fun e => ?_⟩
  · rw [Lev.good, LevL.names, LevL.names, LevL.names, LevL.good, LevL.good, LevL.good]
    exact ⟨g.1, g.2.1, g.2.2.1, ((List.Perm.append_left fs (List.Perm.swap n m [])).nodup_iff).mpr g.2.2.2.1, g.2.2.2.2.1, g.2.2.2.2.2.2.2.1, g.2.2.2.2.2.2.2.2.1, g.2.2.2.2.2.1, g.2.2.2.2.2.2.1, True.intro⟩
  · rw [Lev.depth, LevL.depth, LevL.depth, LevL.depth] at d ⊢
    omega
  · have e : LevL.cons m k (.cons n l .nil) = .cons n l (.cons m k .nil) := congrArg (fun x : Lev => x.ls) e
    have e2 := congrArg (fun x : LevL => x.names.head?) e
    simp only [LevL.names, List.head?_cons] at e2
    exact ne (Option.some.inj e2).symm
end

/-! The levels that differ in one place. -/



section
variable {K : PySem.W.Frag} [SK : SchK K] [CK : Consts K] {σ : L2.St} {G H : Hp} {L : List (Addr × HO)} {Q : VK} {D : Ends} {a b c : Addr} {fs : List Str} {qs : List Addr} {ls : LevL}
def sp_others (K : PySem.W.Frag) : Sp := fun vs H Q _ => ∃ (v : V) (l : Lev) (G : Hp) (L : List (Addr × HO)), vs = [v] ∧ Stt G H L ∧ Dp K G v l.dat ∧ l.good ∧ l.depth ≤ 3 ∧ l.dr 2 ∧ (∀ m, m ∈ l.ls.levs → m.dr 2) ∧
  ∀ p us levs G' H', Ex G G' → Stt G' H' L → SqL K G' p us → LvsAt K G' us levs → levs.length ≤ 8 → (∀ m, m ∈ levs → OthOk l m) → Q (.ref p) H'
def t_others_2a_2 (K : PySem.W.Frag) : TS :=
  (tDrop (tBM K "list" rAppend (tVar 1) (tCons (tLst (tCons (tOp (rIx K) (tVar 0) (tC (.int 0))) (tCons (tOp (rCatS K) (tLst (tCons (tTup (tCons (tVar 2) (tCons (tLst (tCons (tOp (rCatS K) (tOp (rCatS K) (tSl (gSl K) (tOp (rIx K) (tVar 3) (tC (.int 0))) tNoPart (tPart (tC (.int 1)))) (tLst (tCons (tC (.str "y")) tNil))) (tSl (gSl K) (tOp (rIx K) (tVar 3) (tC (.int 0))) (tPart (tC (.int 1))) tNoPart)) (tCons (tOp (rIx K) (tVar 3) (tC (.int 1))) tNil))) tNil))) tNil)) (tSl (gSl K) (tOp (rIx K) (tVar 0) (tC (.int 1))) (tPart (tC (.int 1))) tNoPart)) tNil))) tNil)))
def t_others_2a_1 (K : PySem.W.Frag) : TS :=
  (tSeq (tAsg (tOp (rCatS K) (tVar 1) (tLst (tCons (tLst (tCons (tOp (rIx K) (tVar 0) (tC (.int 0))) (tCons (tSl (gSl K) (tOp (rIx K) (tVar 0) (tC (.int 1))) (tPart (tC (.int 1))) tNoPart) tNil))) (tCons (tLst (tCons (tOp (rIx K) (tVar 0) (tC (.int 0))) (tCons (tOp (rCatS K) (tLst (tCons (tTup (tCons (tC (.str "y")) (tCons (tVar 3) tNil))) tNil)) (tSl (gSl K) (tOp (rIx K) (tVar 0) (tC (.int 1))) (tPart (tC (.int 1))) tNoPart)) tNil))) tNil)))) (gName 1))
  (t_others_2a_2 K))
def t_others_4 (K : PySem.W.Frag) : TS :=
  (tRet (tLc (iList K (tVar 1)) (gName 4) (tTest (tOp (gLt K) (tCB (gLen K) (tCons (tOp (rIx K) (tVar 4) (tC (.int 0))) tNil)) (tC (.int 4)))) (tVar 4) [4]))
def t_others_3 (K : PySem.W.Frag) : TS :=
  (tSeq (tIfS (tTest (tOp (rI0 fun i j => .bl (decide (j < i))) (tCB (gLen K) (tCons (tOp (rIx K) (tVar 0) (tC (.int 1))) tNil)) (tC (.int 1)))) (tDrop (tBM K "list" rAppend (tVar 1) (tCons (tLst (tCons (tOp (rIx K) (tVar 0) (tC (.int 0))) (tCons (tRevL K (tOp (rIx K) (tVar 0) (tC (.int 1)))) tNil))) tNil))) tNext)
  (t_others_4 K))
def t_others_2 (K : PySem.W.Frag) : TS :=
  (tSeq (tIfS (tTest (tOp (gNe K) (tOp (rIx K) (tVar 0) (tC (.int 1))) (tLst tNil))) (tSeq (tAsg (tOp (rIx K) (tOp (rIx K) (tVar 0) (tC (.int 1))) (tC (.int 0))) (gTup K 2 (gCons (gName 2) (gCons (gName 3) gNil))))
  (t_others_2a_1 K)) tNext)
  (t_others_3 K))
def t_others_1 (K : PySem.W.Frag) : TS :=
  (tSeq (tIfS (tTest (tOp (rI0 fun i j => .bl (decide (j < i))) (tCB (gLen K) (tCons (tOp (rIx K) (tVar 0) (tC (.int 0))) tNil)) (tC (.int 1)))) (tAsg (tOp (rCatS K) (tVar 1) (tLst (tCons (tLst (tCons (tRevL K (tOp (rIx K) (tVar 0) (tC (.int 0)))) (tCons (tOp (rIx K) (tVar 0) (tC (.int 1))) tNil))) (tCons (tLst (tCons (tSl (gSl K) (tOp (rIx K) (tVar 0) (tC (.int 0))) (tPart (tC (.int 1))) tNoPart) (tCons (tOp (rIx K) (tVar 0) (tC (.int 1))) tNil))) tNil)))) (gName 1)) tNext)
  (t_others_2 K))
def t_others (K : PySem.W.Frag) : TS :=
  (tSeq (tAsg (tLst (tCons (tLst (tCons (tOp (rCatS K) (tOp (rIx K) (tVar 0) (tC (.int 0))) (tLst (tCons (tC (.str "y")) tNil))) (tCons (tOp (rIx K) (tVar 0) (tC (.int 1))) tNil))) (tCons (tLst (tCons (tOp (rCatS K) (tLst (tCons (tC (.str "y")) tNil)) (tSl (gSl K) (tOp (rIx K) (tVar 0) (tC (.int 0))) (tPart (tC (.int 1))) tNoPart)) (tCons (tOp (rIx K) (tVar 0) (tC (.int 1))) tNil))) tNil))) (gName 1))
  (t_others_1 K))
/-- found, as it stands -/
structure Fd (K : PySem.W.Frag) (G H : Hp) (L : List (Addr × HO)) (D1 : Addr) (l : Lev) (k : Nat) (us : List V) (levs : List Lev) : Prop where
  S : Stt G H ((D1, .lst us) :: L)
  hu : LvsAt K G us levs
  hl : levs.length ≤ k
  ho : ∀ m, m ∈ levs → OthOk l m
/-- what is asked at the end -/
abbrev OEnd (K : PySem.W.Frag) (G : Hp) (L : List (Addr × HO)) (l : Lev) (P : V → Hp → Prop) : Prop := ∀ p us levs G' H', Ex G G' → Stt G' H' L → SqL K G' p us → LvsAt K G' us levs → levs.length ≤ 8 → (∀ m, m ∈ levs → OthOk l m) → P (.ref p) H'
theorem OEnd.ex {l : Lev} {P : V → Hp → Prop} {G' : Hp} (e : Ex G G') (q : OEnd K G L l P) : OEnd K G' L l P := fun p us levs G2 H2 e2 => q p us levs G2 H2 (e.trans e2)
theorem lvs_snoc {us : List V} {levs : List Lev} {v : V} {m : Lev} (h : LvsAt K G us levs) (d : Dp K G v m.dat) : LvsAt K G (us ++ [v]) (levs ++ [m]) := by
  induction levs generalizing us with
  | nil =>
    cases h
    exact .cons d .nil
  | cons k levs ih =>
    cases h with
    | cons h1 h2 => exact .cons h1 (ih h2)
theorem Fd.app {D1 : Addr} {l m : Lev} {k : Nat} {us : List V} {levs : List Lev} {v : V} (F : Fd K G H L D1 l k us levs) (d : Dp K G v m.dat) (o : OthOk l m) : Fd K G (upd H D1 (.lst (us ++ [v]))) L D1 l (k + 1) (us ++ [v]) (levs ++ [m]) :=
  ⟨F.S.wr 0 rfl, lvs_snoc F.hu d, by rw [List.length_append]; exact Nat.succ_le_succ F.hl, fun m' hm => by
    rcases List.mem_append.mp hm with h1 | hm
    · exact F.ho m' h1
    · rw [List.mem_singleton.mp hm]; exact o⟩
theorem read_o4 {D1 : Addr} {l : Lev} {us : List V} {levs : List Lev} {a0 a2 a3 a4 : Option V} (F : Fd K G H L D1 l 8 us levs) (q : OEnd K G L l D.rt) : t_others_4 K D [a0, some (.ref D1), a2, a3, a4] H := by
  have hul := F.hu.len
  have hl := F.hl
  have S1 := F.S.frz
  have e1 := F.S.frzE
  have hD : SqL K (upd G D1 (.lst us)) D1 us := sq_of upd_same
  have hu := F.hu.ex e1
  have q := q.ex e1
  have ho := F.ho
  generalize upd G D1 (.lst us) = G1 at *
  unfold t_others_4
  refine rd_ret (rd_lc (rd_il (rd_var rfl ?_)))
  refine ⟨D1, rfl, ⟨_, ex_l S1.ex hD⟩, ?_⟩
  refine lc_go stt_world (walk_list (K := K) (a := D1) (xs := us)) S1 (by omega) (fun i v _ => us[i]? = some v) (fun i acc _ => acc = us.take i) (fun H' e' => ex_l e' hD)
    (fun i x G1 H1 H2 L1 _ e1 S1 y => item_at S1 y) rfl (fun _ _ _ _ _ h => h) ?_ ?_
  · intro D2 i x acc G2 H2 hi _ e2 S2 I2 it Kp Sk kp sk
    obtain ⟨m, hm, dm⟩ := hu.get it
    have om := ho m (List.mem_of_getElem? hm)
    obtain ⟨gs, ms⟩ := m
    have gm := om.g
    rw [Lev.good] at gm
    obtain ⟨ma, mb, mc, mq, rfl, ha, hb, hc, hq⟩ := lv_inv dm
    refine rd_name ⟨rfl, rd_test (rd_op (rd_cb (rd_cons (rd_op (rd_var rfl (rd_c (rd_ixL (i := 0) (ex_l (e2.trans S2.ex) ha) rfl (rd_nil (rd_lenL (ex_l (e2.trans S2.ex) hb) (rd_c ?_))))))))))⟩
    rw [List.length_map]
    walk_at "gs"
    refine rd_dec (fun _ => ?_) (fun e => absurd (show (gs.length : Int) < 4 by omega) e)
    refine rd_var rfl (kp _ G2 H2 (Ex.refl _) S2 ?_)
    rw [I2, List.take_add_one, it]
    rfl
  · intro D2 acc G2 H2 e2 S2 I2 _
    have S3 := S2.frz
    have e3 := S2.frzE
    have ha : acc = us := by rw [I2, List.take_length]
    subst ha
    exact q D2 acc levs _ H2 (e2.trans e3) S3 (sq_of upd_same) (hu.ex (e2.trans e3)) hl ho
theorem read_o3 {D1 : Addr} {us : List V} {levs : List Lev} {a2 a3 a4 : Option V} (V : LvH K G a b c fs qs ls) (g : (Lev.mk fs ls).good) (d : (Lev.mk fs ls).depth ≤ 3) (F : Fd K G H L D1 (.mk fs ls) 7 us levs) (q : OEnd K G L (.mk fs ls) D.rt) : t_others_3 K D [some (.ref a), some (.ref D1), a2, a3, a4] H := by
  have S := F.S
  unfold t_others_3
  refine rd_seq (rd_ifs (rd_test (rd_op (rd_cb (rd_cons (rd_x1 rfl S V (rd_nil (rd_lenL (ex_l S.ex V.hc) (rd_c ?_)))))))))
  rw [List.length_map]
  walk_at "gs"
  refine rd_dec (fun e => ?_) (fun e => ?_)
  · have hl := V.hq.1
    have q2 := V.q2
    obtain ⟨p, p', rfl⟩ : ∃ p p', qs = [p, p'] := by
      match qs, e, q2 with
      | [p, p'], _, _ => exact ⟨p, p', rfl⟩
      | [], e, _ => exact absurd e (by show ¬ (1 : Int) < ((0 : Nat) : Int); decide)
      | [p], e, _ => exact absurd e (by show ¬ (1 : Int) < ((1 : Nat) : Int); decide)
      | _ :: _ :: _ :: _, _, z => simp at z
    match ls, hl, V, g, d, F, q with
    | .cons n l (.cons m k .nil), _, V, g, d, F, q =>
      refine rd_drop (rd_bm (rd_var rfl ⟨ty_list (sq_of (S.at 0 rfl)), rd_cons (rd_p8 rfl S V fun v G1 H1 e1 S1 d1 => rd_nil (rd_app (S1.at 0 rfl) (by have := F.hu.len; have := F.hl; omega) ?_))⟩))
      exact read_o4 (Fd.app (v := v) ⟨S1, F.hu.ex e1, F.hl, F.ho⟩ d1 (ot8 g d)) (q.ex e1)
    | .nil, z, _, _, _, _, _ => rw [LevL.names] at z; cases z
    | .cons _ _ .nil, z, _, _, _, _, _ => rw [LevL.names, LevL.names] at z; cases z
    | .cons _ _ (.cons _ _ (.cons _ _ _)), z, _, _, _, _, _ => rw [LevL.names, LevL.names, LevL.names] at z; simp at z
  · exact read_o4 ⟨F.S, F.hu, Nat.le_succ_of_le F.hl, F.ho⟩ q
theorem read_o2a {D1 a2 : Addr} {p : Addr} {n : Str} {l : Lev} {r : LevL} {us : List V} {levs : List Lev} {x4 : Option V} (V : LvH K G a b c fs (p :: qs) (.cons n l r)) (g : (Lev.mk fs (.cons n l r)).good) (d : (Lev.mk fs (.cons n l r)).depth ≤ 3)
    (dr : (Lev.mk fs (.cons n l r)).drawn) (d1 : l.dr 2) (hu2 : Dp K G (.ref a2) l.dat) (F : Fd K G H L D1 (.mk fs (.cons n l r)) 4 us levs) (q : OEnd K G L (.mk fs (.cons n l r)) D.rt) (nx : ∀ x2 x3 x4 D2 G' H' us levs, Ex G G' → Fd K G' H' L D2 (.mk fs (.cons n l r)) 7 us levs → D.nx [some (.ref a), some (.ref D2), x2, x3, x4] H') :
    t_others_2a_1 K D [some (.ref a), some (.ref D1), some (.str n), some (.ref a2), x4] H := by
  have S := F.S
  unfold t_others_2a_1
  refine rd_seq (rd_asg (rd_op (rd_var rfl (rd_lst (rd_cons (rd_p5 rfl S V fun v1 G1 H1 e1 S1 k1 => rd_cons (rd_p6 rfl rfl S1 (V.ex e1) (Dp.ex e1 _ _ hu2) fun v2 G2 H2 e2 S2 k2 => rd_nil ?_)))))))
  refine mk_lst stt_world S2 (by show 2 ≤ _; decide) fun p3 G3 e3 S3 h3 => ?_
  have e13 := e1.trans (e2.trans e3)
  have hul := F.hu.len
  have hl := F.hl
  refine rd_catS (sq_of (S3.at 0 rfl)) (sq_of (S3.ex _ _ h3)) (by show _ + 2 ≤ _; omega) ?_
  refine mk_mu (o := .lst (us ++ [v1, v2])) stt_world S3.drop fun D2 S4 => rd_name ?_
  have F4 : Fd K G3 (upd (upd H2 p3 (.lst [v1, v2])) D2 (.lst (us ++ [v1, v2]))) L D2 (.mk fs (.cons n l r)) 6 (us ++ [v1, v2]) (levs ++ [Lev.mk fs r, Lev.mk fs (.cons "y" l r)]) := by
    refine ⟨S4, ?_, by rw [List.length_append]; show levs.length + 2 ≤ 6; omega, fun m hm => ?_⟩
    · have := lvs_snoc (lvs_snoc (F.hu.ex e13) (Dp.ex (e2.trans e3) _ _ k1)) (Dp.ex e3 _ _ k2)
      rwa [List.append_assoc, List.append_assoc] at this
    · rcases List.mem_append.mp hm with h1 | hm
      · exact F.ho m h1
      · rcases List.mem_cons.mp hm with hm | hm
        · rw [hm]; exact ot5 g d
        · rw [List.mem_singleton.mp hm]; exact ot6 g dr d
  have V4 := V.ex e13
  have hu4 := Dp.ex e13 _ _ hu2
  have gl : l.good := by rw [Lev.good, LevL.good] at g; exact g.2.2.2.2.2.2.1
  have dl : l.drawn := d1.1
  have f1 := d1.2
  obtain ⟨gs, ms⟩ := l
  obtain ⟨ra, rb, rc, rq, er, ha, hb, hc, hq⟩ := lv_inv hu4
  cases er
  rw [Lev.good] at gl
  obtain ⟨g0, gt, rfl⟩ : ∃ g0 gt, gs = g0 :: gt := by
    cases gs with
    | nil => exact absurd gl.1 (Nat.lt_irrefl 0)
    | cons g0 gt => exact ⟨g0, gt, rfl⟩
  have f1' : (g0 :: gt).length ≤ 2 := by have : ((g0 :: gt).length : Int) ≤ 2 := f1; omega
  have W4 : LvH K G3 a2 rb rc (g0 :: gt) rq ms := ⟨ha, hb, hc, hq, f1', by rw [hq.1]; exact gl.2.2.2.2.1⟩
  unfold t_others_2a_2
  refine rd_drop (rd_bm (rd_var rfl ⟨ty_list (sq_of (S4.at 0 rfl)), rd_cons (rd_p7 rfl rfl rfl S4 V4 W4 fun v5 G5 H5 e5 S5 k5 => rd_nil (rd_app (S5.at 0 rfl) (by rw [List.length_append]; show us.length + 2 < _; omega) ?_))⟩))
  exact nx _ _ _ _ G5 _ _ _ (e13.trans e5) (Fd.app (v := v5) ⟨S5, F4.hu.ex e5, F4.hl, F4.ho⟩ k5 (ot7 g dl d f1'))
theorem read_o2 {D1 : Addr} {us : List V} {levs : List Lev} {x2 x3 x4 : Option V} (V : LvH K G a b c fs qs ls) (g : (Lev.mk fs ls).good) (d : (Lev.mk fs ls).depth ≤ 3)
    (dr : (Lev.mk fs ls).drawn) (d1 : ∀ m, m ∈ ls.levs → m.dr 2) (F : Fd K G H L D1 (.mk fs ls) 4 us levs) (q : OEnd K G L (.mk fs ls) D.rt) : t_others_2 K D [some (.ref a), some (.ref D1), x2, x3, x4] H := by
  have S := F.S
  have gl : ls.good := by rw [Lev.good] at g; exact g.2.2.2.2.2
  have dl : ls.depth ≤ 9 := by rw [Lev.depth] at d; omega
  unfold t_others_2
  refine rd_seq (rd_ifs (rd_test (rd_op (rd_x1 rfl S V (rd_lst (rd_nil ?_))))))
  refine mk_lst stt_world S (Nat.zero_le _) fun p1 G1 e1 S1 h1 => ?_
  have V1 := V.ex e1
  refine rd_neD (d := .list ls.dats) (e := .list []) (Dp.ex S1.ex _ _ (.lst V1.hc (lvAll_mk V1.hq))) (.lst (sq_of (S1.ex _ _ h1)) .nil) (lists_shaped ls gl dl) rfl ?_
  rw [lists_ne]
  have F1 : Fd K G1 _ L D1 (.mk fs ls) 4 us levs := ⟨S1, F.hu.ex e1, F.hl, F.ho⟩
  have q1 := q.ex e1
  refine ⟨_, rfl, ?_⟩
  match ls, qs, V1, g, d, dr, d1, F1, q1 with
  | .nil, qs, V1, g, d, dr, d1, F1, q1 =>
    rw [LevL.names]
    exact read_o3 V1 g d ⟨F1.S, F1.hu, by have := F1.hl; omega, F1.ho⟩ q1
  | .cons n l r, [], V1, _, _, _, _, _, _ =>
    have := V1.hq.1
    rw [LevL.names] at this
    cases this
  | .cons n l r, p :: qt, V1, g, d, dr, d1, F1, q1 =>
    rw [LevL.names]
    obtain ⟨u, hp, hd⟩ := V1.hq.head
    obtain ⟨gs, ms⟩ := l
    obtain ⟨ra, rb, rc, rq, rfl, _⟩ := lv_inv hd
    refine rd_seq (rd_asg (rd_op (rd_x1 rfl F1.S V1 (rd_c (rd_ixL (i := 0) (v := .ref p) (ex_l F1.S.ex V1.hc) (show atI ((p :: qt).map L2.V.ref) ((0 : Nat) : Int) = _ from atI_nat rfl) ?_)))))
    refine rd_gtup2 (ex_t F1.S.ex hp) ?_
    refine read_o2a V1 g d dr (d1 _ (by rw [LevL.levs]; exact List.mem_cons_self ..)) hd F1 q1 fun y2 y3 y4 D2 G' H' us2 levs2 e' F2 => ?_
    exact read_o3 (V1.ex e') g d F2 (q1.ex e')
theorem read_o1 {D1 : Addr} {us : List V} {levs : List Lev} {x2 x3 x4 : Option V} (V : LvH K G a b c fs qs ls) (g : (Lev.mk fs ls).good) (d : (Lev.mk fs ls).depth ≤ 3)
    (dr : (Lev.mk fs ls).drawn) (d1 : ∀ m, m ∈ ls.levs → m.dr 2) (F : Fd K G H L D1 (.mk fs ls) 2 us levs) (q : OEnd K G L (.mk fs ls) D.rt) : t_others_1 K D [some (.ref a), some (.ref D1), x2, x3, x4] H := by
  have S := F.S
  unfold t_others_1
  refine rd_seq (rd_ifs (rd_test (rd_op (rd_cb (rd_cons (rd_x0 rfl S V (rd_nil (rd_lenL (ex_l S.ex V.hb) (rd_c ?_)))))))))
  rw [List.length_map]
  walk_at "gs"
  refine rd_dec (fun e => ?_) (fun e => ?_)
  · obtain ⟨f, ft, rfl⟩ : ∃ f ft, fs = f :: ft := by
      cases fs with
      | nil => exact absurd e (by show ¬ (1 : Int) < ((0 : Nat) : Int); decide)
      | cons f ft => exact ⟨f, ft, rfl⟩
    refine rd_asg (rd_op (rd_var rfl (rd_lst (rd_cons (rd_p3 rfl S V fun v1 G1 H1 e1 S1 k1 => rd_cons (rd_p4 rfl S1 (V.ex e1) fun v2 G2 H2 e2 S2 k2 => rd_nil ?_))))))
    refine mk_lst stt_world S2 (by show 2 ≤ _; decide) fun p3 G3 e3 S3 h3 => ?_
    have e13 := e1.trans (e2.trans e3)
    have hul := F.hu.len
    have hl := F.hl
    refine rd_catS (sq_of (S3.at 0 rfl)) (sq_of (S3.ex _ _ h3)) (by show _ + 2 ≤ _; omega) ?_
    refine mk_mu (o := .lst (us ++ [v1, v2])) stt_world S3.drop fun D2 S4 => rd_name ?_
    have F4 : Fd K G3 (upd (upd H2 p3 (.lst [v1, v2])) D2 (.lst (us ++ [v1, v2]))) L D2 (.mk (f :: ft) ls) 4 (us ++ [v1, v2]) (levs ++ [Lev.mk (f :: ft).reverse ls, Lev.mk ft ls]) := by
      refine ⟨S4, ?_, by rw [List.length_append]; show levs.length + 2 ≤ 4; omega, fun m hm => ?_⟩
      · have := lvs_snoc (lvs_snoc (F.hu.ex e13) (Dp.ex (e2.trans e3) _ _ k1)) (Dp.ex e3 _ _ k2)
        rwa [List.append_assoc, List.append_assoc] at this
      · have e' : 1 < (f :: ft).length := by omega
        rcases List.mem_append.mp hm with h1 | hm
        · exact F.ho m h1
        · rcases List.mem_cons.mp hm with hm | hm
          · rw [hm]; exact ot3 g d e'
          · rw [List.mem_singleton.mp hm]; exact ot4 g d e'
    exact read_o2 (V.ex e13) g d dr d1 F4 (q.ex e13)
  · exact read_o2 V g d dr d1 ⟨F.S, F.hu, by have := F.hl; omega, F.ho⟩ q
theorem sat_others {vs : List V} {E : XK} (h : sp_others K vs H Q E) : vs.length = 1 ∧ t_others K { nx := fun _ H' => Q .non H', rt := Q } (vs.map some ++ List.replicate (5 - vs.length) none) H := by
  obtain ⟨v, l, G, L, rfl, S, hv, g, d, dr, d1, q⟩ := h
  refine ⟨rfl, ?_⟩
  obtain ⟨fs, ls⟩ := l
  obtain ⟨a, b, c, qs, rfl, ha, hb, hc, hq⟩ := lv_inv hv
  have g' := g
  rw [Lev.good] at g'
  have f2 : fs.length ≤ 2 := by have : (fs.length : Int) ≤ 2 := dr.2; omega
  have V : LvH K G a b c fs qs ls := ⟨ha, hb, hc, hq, f2, by rw [hq.1]; exact g'.2.2.2.2.1⟩
  obtain ⟨f, ft, rfl⟩ : ∃ f ft, fs = f :: ft := by
    cases fs with
    | nil => exact absurd g'.1 (Nat.lt_irrefl 0)
    | cons f ft => exact ⟨f, ft, rfl⟩
  unfold t_others
  refine rd_seq (rd_asg (rd_lst (rd_cons (rd_p1 rfl S V fun v1 G1 H1 e1 S1 k1 => rd_cons (rd_p2 rfl S1 (V.ex e1) fun v2 G2 H2 e2 S2 k2 => rd_nil ?_)))))
  refine mk_lstM stt_world S2 (by show 2 ≤ _; decide) fun D1 S3 => rd_name ?_
  have e12 := e1.trans e2
  refine read_o1 (V.ex e12) g d dr.1 d1 (levs := [Lev.mk ((f :: ft) ++ [("y" : Str)]) ls, Lev.mk ("y" :: ft) ls]) ⟨S3, .cons (Dp.ex e2 _ _ k1) (.cons k2 .nil), Nat.le_refl _, fun m hm => ?_⟩ (OEnd.ex e12 q)
  rcases List.mem_cons.mp hm with hm | hm
  · rw [hm]; exact ot1 g dr.1 d f2
  · rw [List.mem_singleton.mp hm]; exact ot2 g dr.1 d
end

/-! The law: what a schema tells, twice. -/



section
variable {K : PySem.W.Frag} [SK : SchK K] [CK : Consts K] [KK : KitN K] {G H : Hp} {L : List (Addr × HO)} {Q : VK} {D : Ends}
def t_law_1b_6b_4 (K : PySem.W.Frag) : TS :=
  (tDrop (tBM K "list" rAppend (tVar 9) (tCons (tC (.str "x")) tNil)))
def t_law_1b_6b_3 (K : PySem.W.Frag) : TS :=
  (tSeq (tIfS (tOr (tNot (tB (tCall (sp_like K 9) [] E0 (tCons (tVar 10) (tCons (tVar 11) tNil))))) (tOr (tNot (tB (tCB (gIsi K) (tCons (tVar 9) (tCons (tC (.ty "list")) tNil))))) (tNot (tB (tCB (rAll K) (tCons (tLc (iList K (tVar 9)) (gName 16) tYes (tCB (gIsi K) (tCons (tVar 16) (tCons (tC (.ty "tuple")) tNil))) [16]) tNil)))))) (tRet (tC (.bl false))) tNext)
  (t_law_1b_6b_4 K))
def t_law_1b_6b_2 (K : PySem.W.Frag) : TS :=
  (tSeq (tAsg (tLst (tCons (tCB (gTuple K) (tCons (tOp (rIx K) (tVar 3) (tC (.int 0))) tNil)) (tCons (tLc (iList K (tOp (rIx K) (tVar 3) (tC (.int 1)))) (gTup K 2 (gCons (gName 14) (gCons (gName 15) gNil))) tYes (tVar 14) [14, 15]) (tCons (tLc (iList K (tOp (rIx K) (tVar 3) (tC (.int 1)))) (gTup K 2 (gCons (gName 14) (gCons (gName 15) gNil))) tYes (tCall (sp_level_text K 9) [] E0 (tCons (tVar 15) tNil)) [14, 15]) (tCons (tCall (sp_depth K 9) [] E0 (tCons (tVar 3) tNil)) (tCons (tVar 7) (tCons (tOp (gAdd K) (tOp (gAdd K) (tC (.str "Schema(")) (tVar 7)) (tC (.str ")"))) (tCons (tC (.bl true)) tNil)))))))) (gName 11))
  (t_law_1b_6b_3 K))
def t_law_1b_6b_1 (K : PySem.W.Frag) : TS :=
  (tSeq (tAsg (tLst (tCons (tFld K (tVar 5) "fields") (tCons (tLc (iList K (tVar 9)) (gTup K 2 (gCons (gName 14) (gCons (gName 15) gNil))) tYes (tVar 14) [14, 15]) (tCons (tLc (iList K (tVar 9)) (gTup K 2 (gCons (gName 14) (gCons (gName 15) gNil))) tYes (tMeth (cls_at K "Schema") "text" (sp_Schema_text K 9) [] E0 (tVar 15) tNil) [14, 15]) (tCons (tProp (cls_at K "Schema") (sp_Schema_depth K 9) [] E0 (tVar 5)) (tCons (tMeth (cls_at K "Schema") "text" (sp_Schema_text K 9) [] E0 (tVar 5) tNil) (tCons (tCB (gReprO (cls_at K "Schema") (sp_Schema_repr K)) (tCons (tVar 5) tNil)) (tCons (tCB (gBoolO (cls_at K "Schema")) (tCons (tVar 5) tNil)) tNil)))))))) (gName 10))
  (t_law_1b_6b_2 K))
def t_law_1b_6b (K : PySem.W.Frag) : TS :=
  (tSeq (tAsg (tMeth (cls_at K "Schema") "lists" (sp_Schema_lists K) [] E0 (tVar 5) tNil) (gName 9))
  (t_law_1b_6b_1 K))
def t_law_1b_8 (K : PySem.W.Frag) : TS :=
  (tIfS (tB (tCB (rAny K) (tCons (tLc (iList K (tCall (sp_others K) [] E0 (tCons (tVar 3) tNil))) (gName 17) tYes (tOrV (tOp (rEqO (cls_at K "Schema") (sp_Schema_eq K 9)) (tCall (sp_made K 9) [] E0 (tCons (tVar 17) tNil)) (tVar 5)) (tOp (rEqO (cls_at K "Schema") (sp_Schema_eq K 9)) (tVar 5) (tCall (sp_made K 9) [] E0 (tCons (tVar 17) tNil)))) [17]) tNil))) (tRet (tC (.bl false))) tNext)
def t_law_1b_7 (K : PySem.W.Frag) : TS :=
  (tSeq (tIfS (tOr (tTest (tOp (rNeO (cls_at K "Schema") (sp_Schema_eq K 9)) (tVar 5) (tCall (sp_made K 9) [] E0 (tCons (tVar 3) tNil)))) (tOr (tNot (tTest (tOp (rEqO (cls_at K "Schema") (sp_Schema_eq K 9)) (tVar 5) (tCall (sp_schema K) [] E0 (tCons (tVar 3) tNil))))) (tOr (tTest (tOp (rEqO (cls_at K "Schema") (sp_Schema_eq K 9)) (tVar 5) (tVar 7))) (tTest (tOp (rEqO (cls_at K "Schema") (sp_Schema_eq K 9)) (tVar 5) (tC .non)))))) (tRet (tC (.bl false))) tNext)
  (t_law_1b_8 K))
def t_law_1b_6 (K : PySem.W.Frag) : TS :=
  (tSeq (tFor (iRng1 (tCons (tC (.int 2)) tNil)) (gName 8) (t_law_1b_6b K))
  (t_law_1b_7 K))
def t_law_1b_5 (K : PySem.W.Frag) : TS :=
  (tSeq (tAsg (tCall (sp_level_text K 9) [] E0 (tCons (tVar 3) tNil)) (gName 7))
  (t_law_1b_6 K))
def t_law_1b_4 (K : PySem.W.Frag) : TS :=
  (tSeq (tIfS (tNot (tB (tCall (sp_like K 9) [] E0 (tCons (tFld K (tVar 6) "fields") (tCons (tCB (gTuple K) (tCons (tOp (rIx K) (tVar 3) (tC (.int 0))) tNil)) tNil))))) (tRet (tC (.bl false))) tNext)
  (t_law_1b_5 K))
def t_law_1b_3 (K : PySem.W.Frag) : TS :=
  (tSeq (tDrop (tBM K "list" rAppend (tVar 4) (tCons (tC (.str "z")) tNil)))
  (t_law_1b_4 K))
def t_law_1b_2 (K : PySem.W.Frag) : TS :=
  (tSeq (tAsg (tTup (tCons (tCall (sp_made K 9) [] E0 (tCons (tVar 3) tNil)) (tCons (StX.tMakeR (cls_at K "Schema") (sp_Schema_init K) E0 (tCons (tVar 4) tNil)) tNil))) (gTup K 2 (gCons (gName 5) (gCons (gName 6) gNil))))
  (t_law_1b_3 K))
def t_law_1b_1 (K : PySem.W.Frag) : TS :=
  (tSeq (tAsg (tCB (gList K) (tCons (tOp (rIx K) (tVar 3) (tC (.int 0))) tNil)) (gName 4))
  (t_law_1b_2 K))
def t_law_1b (K : PySem.W.Frag) : TS :=
  (tSeq (tAsg (tCall (sp_some_level K) [] E0 (tCons (tVar 1) (tCons (tCall (sp_draw K) [] E0 (tCons (tVar 1) (tCons (tC (.int 5)) tNil))) (tCons (tC (.int 2)) tNil)))) (gName 3))
  (t_law_1b_1 K))
def t_law_4 (K : PySem.W.Frag) : TS :=
  (tRet (tCall (sp_like K 9) [] E0 (tCons (tLst (tCons (tFld K (tVar 12) "fields") (tCons (tProp (cls_at K "Schema") (sp_Schema_depth K 9) [] E0 (tVar 12)) (tCons (tProp (cls_at K "Schema") (sp_Schema_depth K 9) [] E0 (tVar 13)) (tCons (tMeth (cls_at K "Schema") "text" (sp_Schema_text K 9) [] E0 (tVar 13) tNil) tNil))))) (tCons (tLst (tCons (tTup (tCons (tC (.str "p")) (tCons (tC (.str "q")) (tCons (tC (.str "r")) tNil)))) (tCons (tC (.int 1)) (tCons (tC (.int 3)) (tCons (tC (.str "a b(a b c(a))")) tNil))))) tNil))))
def t_law_3 (K : PySem.W.Frag) : TS :=
  (tSeq (tAsg (StX.tMakeR (cls_at K "Schema") (sp_Schema_init K) E0 (tCons (tTup (tCons (tC (.str "a")) tNil)) (tCons (tTup (tCons (tC (.str "b")) (tCons (StX.tMakeR (cls_at K "Schema") (sp_Schema_init K) E0 (tCons (tTup (tCons (tC (.str "a")) (tCons (tC (.str "b")) tNil))) (tCons (tTup (tCons (tC (.str "c")) (tCons (StX.tMakeR (cls_at K "Schema") (sp_Schema_init K) E0 (tCons (tTup (tCons (tC (.str "a")) tNil)) tNil)) tNil))) tNil))) tNil))) tNil))) (gName 13))
  (t_law_4 K))
def t_law_2 (K : PySem.W.Frag) : TS :=
  (tSeq (tAsg (tMakeK1 (cls_at K "Schema") (sp_Schema_init K) E0 (tCons (tTup (tCons (tC (.str "p")) (tCons (tC (.str "q")) (tCons (tC (.str "r")) tNil)))) tNil)) (gName 12))
  (t_law_3 K))
def t_law_1 (K : PySem.W.Frag) : TS :=
  (tSeq (tFor (iRng1 (tCons (tC (.int 3)) tNil)) (gName 2) (t_law_1b K))
  (t_law_2 K))
def t_law (K : PySem.W.Frag) : TS :=
  (tSeq (tAsg (tCall (sp_open K) [] E0 (tCons (tVar 0) tNil)) (gName 1))
  (t_law_1 K))
/-- the names in a list of pairs -/
theorem cp_names {te : TE} {p : Addr} {qs : List Addr} {ns : List Str} {a0 a1 a2 a3 a4 a5 a6 a7 a8 a9 a10 a11 a12 a13 a14 a15 a16 a17 : Option V} (hte : ∀ R : VK, R (.ref p) H → te [a0, a1, a2, a3, a4, a5, a6, a7, a8, a9, a10, a11, a12, a13, a14, a15, a16, a17] H R)
    (S : Stt G H L) (hp : SqL K G p (qs.map V.ref)) (hq : ∀ (j : Nat) (r : Addr), qs[j]? = some r → ∃ n v, ns[j]? = some n ∧ SqT K G r [.str n, v]) (hl : qs.length = ns.length) (h2 : qs.length ≤ 2)
    (q : ∀ r G' H', Ex G G' → Stt G' H' L → SqL K G' r (ns.map V.str) → Q (.ref r) H') :
    tLc (iList K te) (gTup K 2 (gCons (gName 14) (gCons (gName 15) gNil))) tYes (tVar 14) [14, 15] [a0, a1, a2, a3, a4, a5, a6, a7, a8, a9, a10, a11, a12, a13, a14, a15, a16, a17] H Q := by
  refine rd_lc (rd_il (hte _ ⟨p, rfl, ⟨_, ex_l S.ex hp⟩, ?_⟩))
  refine lc_go stt_world (walk_list (K := K) (a := p) (xs := qs.map V.ref)) S (by rw [List.length_map]; omega) (fun i v _ => (qs.map V.ref)[i]? = some v) (fun i acc _ => acc = (ns.take i).map V.str) (fun H' e' => ex_l e' hp)
    (fun i x G1 H1 H2 L1 _ e1 S1 y => item_at S1 y) rfl (fun _ _ _ _ _ h => h) ?_ ?_
  · intro D1 i x acc G2 H2 hi _ e2 S2 I2 it Kp Sk kp sk
    rw [List.getElem?_map] at it
    obtain ⟨r, hr, rfl⟩ : ∃ r, qs[i]? = some r ∧ x = .ref r := by
      cases e : qs[i]? with
      | none => rw [e] at it; cases it
      | some r => rw [e] at it; cases it; exact ⟨r, rfl, rfl⟩
    obtain ⟨n, v, hn, ht⟩ := hq i r hr
    refine rd_gtup2 (ex_t (e2.trans S2.ex) ht) ⟨rfl, rd_yes (rd_iT (rd_var rfl (kp _ G2 H2 (Ex.refl _) S2 ?_)))⟩
    rw [I2, List.take_add_one, hn, List.map_append]
    rfl
  · intro D1 acc G2 H2 e2 S2 I2 _
    have ha : acc = ns.map V.str := by rw [I2, List.take_of_length_le (by rw [List.length_map]; omega)]
    subst ha
    exact q D1 _ H2 (e2.trans S2.frzE) S2.frz (sq_of upd_same)
/-- the texts of the schemas -/
theorem cp_texts {p : Addr} {ps : List Addr} {ls : LevL} {a0 a1 a2 a3 a4 a5 a6 a7 a8 a10 a11 a12 a13 a14 a15 a16 a17 : Option V}
    (S : Stt G H L) (hp : SqL K G p (ps.map V.ref)) (hA : SchAll K G ps ls) (gl : ls.good) (d9 : ls.depth ≤ 9) (h2 : ps.length ≤ 2)
    (q : ∀ r G' H', Ex G G' → Stt G' H' L → SqL K G' r ((ls.levs.map fun l => SX.S l.tx).map V.str) → Q (.ref r) H') :
    tLc (iList K (tVar 9)) (gTup K 2 (gCons (gName 14) (gCons (gName 15) gNil))) tYes (tMeth (cls_at K "Schema") "text" (sp_Schema_text K 9) [] E0 (tVar 15) tNil) [14, 15] [a0, a1, a2, a3, a4, a5, a6, a7, a8, some (.ref p), a10, a11, a12, a13, a14, a15, a16, a17] H Q := by
  have hlen := SchAll.len hA
  have hlv := LevL.len_levs ls
  refine rd_lc (rd_il (rd_var rfl ⟨p, rfl, ⟨_, ex_l S.ex hp⟩, ?_⟩))
  refine lc_go stt_world (walk_list (K := K) (a := p) (xs := ps.map V.ref)) S (by rw [List.length_map]; omega) (fun i v _ => (ps.map V.ref)[i]? = some v) (fun i acc _ => acc = ((ls.levs.take i).map fun l => SX.S l.tx).map V.str) (fun H' e' => ex_l e' hp)
    (fun i x G1 H1 H2 L1 _ e1 S1 y => item_at S1 y) rfl (fun _ _ _ _ _ h => h) ?_ ?_
  · intro D1 i x acc G2 H2 hi _ e2 S2 I2 it Kp Sk kp sk
    obtain ⟨r, nm, v, l, rfl, hr, hn, hl2, hv⟩ := SchAll.at hA it
    refine rd_gtup2 (ex_t (e2.trans S2.ex) hr) ⟨rfl, rd_yes (rd_iT (rd_meth (rd_var rfl ?_)))⟩
    have dl := LevL.depth_get ls i l hl2
    have gi := LevL.good_get ls i l gl hl2
    cases hv with
    | @mk x2 dx2 tf2 tl2 fs2 ls2 ps2 ob2 hf2 hl3 hA2 =>
    refine ⟨x2, _, _, rfl, S2.ex _ _ (e2 _ _ ob2), schF_no _ _ (by decide +kernel) (by decide +kernel), rd_nil ?_⟩
    refine ⟨_, _, G2, _, rfl, S2, (SchAt.mk ob2 hf2 hl3 hA2).ex e2, by omega, by omega, gi, fun H3 S3 => kp _ G2 H3 (Ex.refl _) S3 ?_⟩
    rw [I2, List.take_add_one, hl2, List.map_append, List.map_append]
    rfl
  · intro D1 acc G2 H2 e2 S2 I2 _
    have ha : acc = (ls.levs.map fun l => SX.S l.tx).map V.str := by rw [I2, List.take_of_length_le (by rw [List.length_map]; omega)]
    subst ha
    exact q D1 _ H2 (e2.trans S2.frzE) S2.frz (sq_of upd_same)
/-- .. of the levels -/
theorem cp_ltexts {lv lb lc : Addr} {fs : List Str} {qs : List Addr} {ls : LevL} {a0 a1 a2 a4 a5 a6 a7 a8 a9 a10 a11 a12 a13 a14 a15 a16 a17 : Option V}
    (S : Stt G H L) (W : LvH K G lv lb lc fs qs ls) (gl : ls.good) (d9 : ls.depth ≤ 9)
    (q : ∀ r G' H', Ex G G' → Stt G' H' L → SqL K G' r ((ls.levs.map fun l => SX.S l.tx).map V.str) → Q (.ref r) H') :
    tLc (iList K (tOp (rIx K) (tVar 3) (tC (.int 1)))) (gTup K 2 (gCons (gName 14) (gCons (gName 15) gNil))) tYes (tCall (sp_level_text K 9) [] E0 (tCons (tVar 15) tNil)) [14, 15] [a0, a1, a2, some (.ref lv), a4, a5, a6, a7, a8, a9, a10, a11, a12, a13, a14, a15, a16, a17] H Q := by
  have hlen := W.hq.1
  have q2 := W.q2
  have hlv := LevL.len_levs ls
  refine rd_lc (rd_il (rd_x1 rfl S W ⟨lc, rfl, ⟨_, ex_l S.ex W.hc⟩, ?_⟩))
  refine lc_go stt_world (walk_list (K := K) (a := lc) (xs := qs.map V.ref)) S (by rw [List.length_map]; omega) (fun i v _ => (qs.map V.ref)[i]? = some v) (fun i acc _ => acc = ((ls.levs.take i).map fun l => SX.S l.tx).map V.str) (fun H' e' => ex_l e' W.hc)
    (fun i x G1 H1 H2 L1 _ e1 S1 y => item_at S1 y) rfl (fun _ _ _ _ _ h => h) ?_ ?_
  · intro D1 i x acc G2 H2 hi _ e2 S2 I2 it Kp Sk kp sk
    obtain ⟨r, nm, v, l, rfl, hr, hn, hl2, hv⟩ := LvAll.at W.hq it
    have dl := LevL.depth_get ls i l hl2
    have gi := LevL.good_get ls i l gl hl2
    refine rd_gtup2 (ex_t (e2.trans S2.ex) hr) ⟨rfl, rd_yes (rd_iT (rd_call (rd_cons (rd_var rfl (rd_nil ?_)))))⟩
    refine ⟨v, l, G2, _, rfl, S2, Dp.ex e2 _ _ hv, by omega, by omega, gi, fun H3 S3 => kp _ G2 H3 (Ex.refl _) S3 ?_⟩
    rw [I2, List.take_add_one, hl2, List.map_append, List.map_append]
    rfl
  · intro D1 acc G2 H2 e2 S2 I2 _
    have ha : acc = (ls.levs.map fun l => SX.S l.tx).map V.str := by rw [I2, List.take_of_length_le (by rw [List.length_map]; omega)]
    subst ha
    exact q D1 _ H2 (e2.trans S2.frzE) S2.frz (sq_of upd_same)
end

/-! The law: one turn. -/



section
variable {K : PySem.W.Frag} [SK : SchK K] [CK : Consts K] [KK : KitN K] {G H : Hp} {L : List (Addr × HO)} {Q : VK} {D : Ends}
theorem rd_ifN {A B : Prop} (h : B) : if (!true) = true then A else B := h
/-- what a schema tells, as data -/
def tellD (fs : List Str) (ls : LevL) : List PyData := [.tuple (fs.map .str), .list (ls.names.map .str), .list ((ls.levs.map fun l => SX.S l.tx).map .str), .int (Lev.mk fs ls).depth, .str (SX.S (Lev.mk fs ls).tx), .str ((("Schema(" : Str) ++ SX.S (Lev.mk fs ls).tx) ++ (")" : Str)), .bool true]
def tellV (tf na ta : Addr) (fs : List Str) (ls : LevL) : List V := [.ref tf, .ref na, .ref ta, .int (Lev.mk fs ls).depth, .str (SX.S (Lev.mk fs ls).tx), .str ((("Schema(" : Str) ++ SX.S (Lev.mk fs ls).tx) ++ (")" : Str)), .bl true]
theorem tell_dp {tf na ta p : Addr} {fs : List Str} {ls : LevL} (h : SqL K G p (tellV tf na ta fs ls)) (h1 : SqT K G tf (fs.map V.str)) (h2 : SqL K G na (ls.names.map V.str)) (h3 : SqL K G ta ((ls.levs.map fun l => SX.S l.tx).map V.str)) : Dp K G (.ref p) (.list (tellD fs ls)) :=
  .lst h (.cons (.tup h1 (dpStrs fs)) (.cons (.lst h2 (dpStrs _)) (.cons (.lst h3 (dpStrs _)) (.cons (.int _) (.cons (.str _) (.cons (.str _) (.cons (.bl _) .nil)))))))
theorem fit_strs {n : Nat} {l : List Str} : ∀ e, e ∈ l.map PyData.str → fit (n + 1) e := fun e he => by
  obtain ⟨z, _, rfl⟩ := List.mem_map.mp he
  unfold fit
  trivial
theorem tell_fit {fs : List Str} {ls : LevL} (h : fs.length ≤ 3) (h2 : ls.names.length ≤ 2) : fit 9 (.list (tellD fs ls)) := by
  have hlv := LevL.len_levs ls
  refine ⟨by show 7 < 1000000; decide, fun e he => ?_⟩
  unfold tellD at he
  simp only [List.mem_cons, List.not_mem_nil, or_false] at he
  rcases he with rfl | rfl | rfl | rfl | rfl | rfl | rfl
  · exact ⟨by rw [List.length_map]; omega, fit_strs⟩
  · exact ⟨by rw [List.length_map]; omega, fit_strs⟩
  · exact ⟨by rw [List.length_map, List.length_map]; omega, fit_strs⟩
  all_goals (unfold fit; trivial)
theorem sch_pair {ps : List Addr} {ls : LevL} (hA : SchAll K G ps ls) : ∀ (j : Nat) (r : Addr), ps[j]? = some r → ∃ n v, ls.names[j]? = some n ∧ SqT K G r [.str n, v] := fun j r h => by
  obtain ⟨p, n, v, l, e, hp, hn, _⟩ := SchAll.at hA (i := j) (x := .ref r) (by rw [List.getElem?_map, h]; rfl)
  cases e
  exact ⟨n, v, hn, hp⟩
theorem lv_pair {qs : List Addr} {ls : LevL} (hq : LvAll K G qs ls) : ∀ (j : Nat) (r : Addr), qs[j]? = some r → ∃ n v, ls.names[j]? = some n ∧ SqT K G r [.str n, v] := fun j r h => by
  obtain ⟨n, v, l, h1, h2, h3, h4⟩ := hq.2 j r h
  exact ⟨n, v, h1, h3⟩
/-- the schema at hand -/
structure ScH (K : PySem.W.Frag) (G : Hp) (s dx tf tl : Addr) (fs : List Str) (ps : List Addr) (ls : LevL) : Prop where
  ob : G s = some (.ins (cls_at K "Schema") dx (schF tf tl))
  hf : SqT K G tf (fs.map V.str)
  hl : SqT K G tl (ps.map V.ref)
  hA : SchAll K G ps ls
theorem ScH.ex {G' : Hp} {s dx tf tl : Addr} {fs : List Str} {ps : List Addr} {ls : LevL} (e : Ex G G') (h : ScH K G s dx tf tl fs ps ls) : ScH K G' s dx tf tl fs ps ls := ⟨e _ _ h.ob, ex_t e h.hf, ex_t e h.hl, h.hA.ex e⟩
theorem ScH.at {s dx tf tl : Addr} {fs : List Str} {ps : List Addr} {ls : LevL} (h : ScH K G s dx tf tl fs ps ls) : SchAt K G (.ref s) (.mk fs ls) := .mk h.ob h.hf h.hl h.hA
variable {b lv lb lc s dx tf tl : Addr} {fs : List Str} {qs ps : List Addr} {ls : LevL} {a0 a2 a4 a6 a8 a9 a10 a11 a12 a13 a14 a15 a16 a17 : Option V}
/-- found -/
theorem read_found {t : Addr} (C : ScH K G s dx tf tl fs ps ls) (g : (Lev.mk fs ls).good) (d3 : (Lev.mk fs ls).depth ≤ 3) (S : Stt G H L) (ht : SqL K G t (ps.map V.ref))
    (q : ∀ na ta p G' H', Ex G G' → Stt G' H' L → SqL K G' p (tellV tf na ta fs ls) → SqL K G' na (ls.names.map V.str) → SqL K G' ta ((ls.levs.map fun l => SX.S l.tx).map V.str) → t_law_1b_6b_2 K D [a0, some (.ref b), a2, some (.ref lv), a4, some (.ref s), a6, some (.str (SX.S (Lev.mk fs ls).tx)), a8, some (.ref t), some (.ref p), a11, a12, a13, a14, a15, a16, a17] H') :
    t_law_1b_6b_1 K D [a0, some (.ref b), a2, some (.ref lv), a4, some (.ref s), a6, some (.str (SX.S (Lev.mk fs ls).tx)), a8, some (.ref t), a10, a11, a12, a13, a14, a15, a16, a17] H := by
  have hlen := SchAll.len C.hA
  have g' := g
  rw [Lev.good] at g'
  have d9 : (Lev.mk fs ls).depth ≤ 9 := by omega
  have dl : ls.depth ≤ 9 := by rw [Lev.depth] at d9; omega
  unfold t_law_1b_6b_1
  refine rd_seq (rd_asg (rd_lst (rd_cons (rd_fld (rd_var rfl (rd_Sfields (S.ex _ _ C.ob) ?_))))))
  refine rd_cons (cp_names (fun R r => rd_var rfl r) S ht (sch_pair C.hA) hlen (by omega) fun na G1 H1 e1 S1 k1 => ?_)
  have C1 := C.ex e1
  refine rd_cons (cp_texts S1 (ex_l e1 ht) C1.hA g'.2.2.2.2.2 dl (by omega) fun ta G2 H2 e2 S2 k2 => ?_)
  have C2 := C1.ex e2
  refine rd_cons (rd_prop (rd_var rfl ⟨s, _, _, rfl, S2.ex _ _ C2.ob, _, _, G2, _, rfl, S2, C2.at, d9, g, fun H3 S3 => ?_⟩))
  refine rd_cons (rd_meth (rd_var rfl ⟨s, _, _, rfl, S3.ex _ _ C2.ob, schF_no _ _ (by decide +kernel) (by decide +kernel), rd_nil ⟨_, _, G2, _, rfl, S3, C2.at, d9, d9, g, fun H4 S4 => ?_⟩⟩))
  refine rd_cons (rd_cb (rd_cons (rd_var rfl (rd_nil ⟨s, _, _, rfl, S4.ex _ _ C2.ob, _, _, G2, _, rfl, S4, C2.at, d9, g, fun H5 S5 => ⟨_, rfl, ?_⟩⟩))))
  refine rd_cons (rd_cb (rd_cons (rd_var rfl (rd_nil ⟨s, _, _, rfl, S5.ex _ _ C2.ob, rd_nil ?_⟩))))
  refine mk_lst stt_world S5 (by show 7 ≤ _; decide) fun p G3 e3 S6 h6 => rd_name ?_
  exact q na ta p G3 _ (e1.trans (e2.trans e3)) S6 (sq_of h6) (ex_l (e2.trans e3) k1) (ex_l e3 k2)
/-- due -/
theorem read_due {t p : Addr} (W : LvH K G lv lb lc fs qs ls) (hv : Dp K G (.ref lv) (Lev.mk fs ls).dat) (g : (Lev.mk fs ls).good) (d3 : (Lev.mk fs ls).depth ≤ 3) (S : Stt G H L)
    (q : ∀ tf na ta r G' H', Ex G G' → Stt G' H' L → SqL K G' r (tellV tf na ta fs ls) → SqT K G' tf (fs.map V.str) → SqL K G' na (ls.names.map V.str) → SqL K G' ta ((ls.levs.map fun l => SX.S l.tx).map V.str) → t_law_1b_6b_3 K D [a0, some (.ref b), a2, some (.ref lv), a4, some (.ref s), a6, some (.str (SX.S (Lev.mk fs ls).tx)), a8, some (.ref t), some (.ref p), some (.ref r), a12, a13, a14, a15, a16, a17] H') :
    t_law_1b_6b_2 K D [a0, some (.ref b), a2, some (.ref lv), a4, some (.ref s), a6, some (.str (SX.S (Lev.mk fs ls).tx)), a8, some (.ref t), some (.ref p), a11, a12, a13, a14, a15, a16, a17] H := by
  have hlen := W.hq.1
  have q2 := W.q2
  have g' := g
  rw [Lev.good] at g'
  have d9 : (Lev.mk fs ls).depth ≤ 9 := by omega
  have dl : ls.depth ≤ 9 := by rw [Lev.depth] at d9; omega
  have small := Lev.tx_small g d9
  have sz : ∀ n : Nat, n < 90000 → n ≤ sizeLine := fun n h => sz_of (by omega)
  have k7 : ("Schema(" : Str).length = 7 := rfl
  have k8 : (")" : Str).length = 1 := rfl
  unfold t_law_1b_6b_2
  refine rd_seq (rd_asg (rd_lst (rd_cons (rd_cb (rd_cons (rd_x0 rfl S W (rd_nil ?_)))))))
  refine rd_gtupleL (ex_l S.ex W.hb) ?_
  refine mk_im (o := .tup (fs.map L2.V.str)) stt_world S fun tf2 G1 e1 S1 h1 => ?_
  have W1 := W.ex e1
  refine rd_cons (cp_names (fun R r => rd_x1 rfl S1 W1 r) S1 W1.hc (lv_pair W1.hq) hlen q2 fun na G2 H2 e2 S2 k2 => ?_)
  have W2 := W1.ex e2
  refine rd_cons (cp_ltexts S2 W2 g'.2.2.2.2.2 dl fun ta G3 H3 e3 S3 k3 => ?_)
  have e13 := e1.trans (e2.trans e3)
  refine rd_cons (rd_call (rd_cons (rd_var rfl (rd_nil ⟨_, _, G3, _, rfl, S3, Dp.ex e13 _ _ hv, d9, d9, g, fun H4 S4 => ?_⟩))))
  refine rd_cons (rd_var rfl (rd_cons (rd_op (rd_op (rd_c (rd_var rfl ?_))))))
  refine rd_addS (sz _ (by rw [k7, len_S (Lev.mk fs ls).tx]; omega)) (rd_c ?_)
  refine rd_addS (sz _ (by rw [len_add, k7, k8, len_S (Lev.mk fs ls).tx]; omega)) ?_
  refine rd_cons (rd_c (rd_nil ?_))
  refine mk_lst stt_world S4 (by show 7 ≤ _; decide) fun r G5 e5 S5 h5 => rd_name ?_
  exact q tf2 na ta r G5 _ (e13.trans e5) S5 (sq_of h5) (ex_t (e2.trans (e3.trans e5)) (st_of h1)) (ex_l (e3.trans e5) k2) (ex_l e5 k3)
/-- once more -/
theorem read_again (C : ScH K G s dx tf tl fs ps ls) (W : LvH K G lv lb lc fs qs ls) (hv : Dp K G (.ref lv) (Lev.mk fs ls).dat) (g : (Lev.mk fs ls).good) (d3 : (Lev.mk fs ls).depth ≤ 3) (S : Stt G H L)
    (q : ∀ x9 x10 x11 H', Stt G H' L → D.nx [a0, some (.ref b), a2, some (.ref lv), a4, some (.ref s), a6, some (.str (SX.S (Lev.mk fs ls).tx)), a8, x9, x10, x11, a12, a13, a14, a15, a16, a17] H') :
    t_law_1b_6b K D [a0, some (.ref b), a2, some (.ref lv), a4, some (.ref s), a6, some (.str (SX.S (Lev.mk fs ls).tx)), a8, a9, a10, a11, a12, a13, a14, a15, a16, a17] H := by
  have hlen := SchAll.len C.hA
  have g' := g
  rw [Lev.good] at g'
  unfold t_law_1b_6b
  refine rd_seq (rd_asg (rd_meth (rd_var rfl ⟨s, _, _, rfl, S.ex _ _ C.ob, schF_no _ _ (by decide +kernel) (by decide +kernel), rd_nil ⟨s, dx, tf, tl, ps, G, L, rfl, S, C.ob, C.hl, fun t H1 S1 => rd_name ?_⟩⟩)))
  have Z := Stt.lend S1 (List.mem_cons_self ..)
  have et : Ex G (upd G t (.lst (ps.map L2.V.ref))) := Ex.new (S1.out _ (List.mem_cons_self ..))
  have kt : SqL K (upd G t (.lst (ps.map L2.V.ref))) t (ps.map L2.V.ref) := sq_of upd_same
  refine read_found (C.ex et) g d3 Z.1 kt fun na ta p G2 H2 e2 S2 k2 k3 k4 => ?_
  refine read_due (W.ex (et.trans e2)) (Dp.ex (et.trans e2) _ _ hv) g d3 S2 fun tf2 na2 ta2 r G3 H3 e3 S3 j2 j3 j4 j5 => ?_
  have dp : Dp K G3 (.ref p) (.list (tellD fs ls)) := tell_dp (ex_l e3 k2) (ex_t (et.trans (e2.trans e3)) C.hf) (ex_l e3 k3) (ex_l e3 k4)
  have dr : Dp K G3 (.ref r) (.list (tellD fs ls)) := tell_dp j2 j3 j4 j5
  unfold t_law_1b_6b_3
  refine rd_seq (rd_ifs (rd_or (rd_not ?_)))
  refine rd_B (rd_call (rd_cons (rd_var rfl (rd_cons (rd_var rfl (rd_nil ⟨G3, _, _, _, _, _, rfl, S3, dp, dr, tell_fit (by omega) (by omega), fun H4 S4 => ?_⟩))))))
  rw [lk_refl _ (Dp.plain _ _ dp)]
  refine rd_bl (rd_ifN ?_)
  have kt3 := ex_l (e2.trans e3) kt
  refine rd_or (rd_not (rd_B (rd_cb (rd_cons (rd_var rfl (rd_cons (rd_c (rd_nil ?_))))))))
  refine .inl ⟨_, _, .type "list", .type "list", true, rfl, .ty _, SqL.ty (ex_l S4.ex kt3), kit_ty kt_list_list, rd_bl (rd_ifN ?_)⟩
  refine rd_not (rd_B (rd_cb (rd_cons ?_)))
  refine rd_lc (rd_il (rd_var rfl ⟨t, rfl, ⟨_, ex_l S4.ex kt3⟩, ?_⟩))
  refine lc_mapJ stt_world (walk_list (K := K) (a := t) (xs := ps.map L2.V.ref)) S4 (fun H' e' => ex_l e' kt3) (by rw [List.length_map]; omega) (fun _ => rfl) (fun _ => .bl true) (fun x acc D1 G5 H5 hx e5 S5 Kp kp => ?_) (fun D1 G5 H5 e5 S5 => ?_)
  · obtain ⟨r, hr, rfl⟩ := List.mem_map.mp hx
    obtain ⟨j, hj⟩ := List.getElem?_of_mem hr
    obtain ⟨n, v, _, hp⟩ := sch_pair C.hA j r hj
    have hp5 := ex_t (et.trans (e2.trans (e3.trans (e5.trans S5.ex)))) hp
    refine rd_cb (rd_cons (rd_var rfl (rd_cons (rd_c (rd_nil ?_)))))
    exact .inl ⟨_, _, .type "tuple", .type "tuple", true, rfl, .ty _, SqT.ty hp5, kit_ty kt_tuple_tuple, kp _ S5⟩
  · have hb : ((ps.map L2.V.ref).map fun _ => L2.V.bl true) = (ps.map fun _ => true).map L2.V.bl := by rw [List.map_map, List.map_map]; rfl
    rw [hb] at S5
    have all1 : ((ps.map fun _ => true).all id) = true := by rw [List.all_map]; exact List.all_eq_true.mpr fun _ _ => rfl
    refine rd_nil (rd_all (sq_of (S5.at 0 rfl)) ?_)
    rw [all1]
    refine rd_bl (rd_ifN (rd_next ?_))
    have S6 := Z.2 _ (S5.drop.less (e2.trans (e3.trans e5)))
    unfold t_law_1b_6b_4
    refine rd_drop (rd_bm (rd_var rfl ⟨ty_list (sq_of (S6.at 0 rfl)), rd_cons (rd_c (rd_nil (rd_app (S6.at 0 rfl) (by rw [List.length_map]; omega) ?_)))⟩))
    exact q _ _ _ _ (S6.wr 0 rfl).drop
end

/-! The law, from its head. -/



section
variable {K : PySem.W.Frag} [SK : SchK K] [CK : Consts K] [KK : KitN K] {G H : Hp} {L M : List (Addr × HO)} {Q : VK} {D : Ends} {σ : L2.St}
theorem rd_mkC {C : Addr} {sp : Sp} {E : XK} {ta : TA} (q : ta σ H fun vs H1 => ∀ x dx, H1 x = none → H1 dx = none → dx ≠ x → sp (V.ref x :: vs) (upd (upd H1 dx (.own x)) x (.ins C dx [])) (fun v H2 => v = .non ∧ Q (.ref x) H2) E) : StX.tMakeR C sp E ta σ H Q := q
theorem rd_eqO {x y : V} {l m : Lev} (hx : SchAt K H x l) (hy : SchAt K H y m) (gl : l.good) (gm : m.good) (d : l.depth ≤ 9) (q : Q (.bl (l.eqb m)) H) : rEqO (cls_at K "Schema") (sp_Schema_eq K 9) x y H Q := by
  obtain ⟨p, dx, fs, rfl, ob⟩ := sch_refs hx
  obtain ⟨r, dy, gs, rfl, ob'⟩ := sch_refs hy
  exact ⟨p, dx, fs, rfl, ob, .inr (.inr ⟨r, dy, gs, rfl, ob'⟩), _, _, l, rfl, hx, d, gl, .inl ⟨m, hy, gm, _, rfl, q⟩⟩
theorem rd_neO {x y : V} {l m : Lev} (hx : SchAt K H x l) (hy : SchAt K H y m) (gl : l.good) (gm : m.good) (d : l.depth ≤ 9) (q : Q (.bl (!(l.eqb m))) H) : rNeO (cls_at K "Schema") (sp_Schema_eq K 9) x y H Q := by
  obtain ⟨p, dx, fs, rfl, ob⟩ := sch_refs hx
  obtain ⟨r, dy, gs, rfl, ob'⟩ := sch_refs hy
  exact ⟨p, dx, fs, rfl, ob, .inr (.inr ⟨r, dy, gs, rfl, ob'⟩), _, _, l, rfl, hx, d, gl, .inl ⟨m, hy, gm, _, rfl, q⟩⟩
theorem rd_eqOs {x : V} {l : Lev} {z : Str} (hx : SchAt K H x l) (gl : l.good) (d : l.depth ≤ 9) (q : Q (.bl false) H) : rEqO (cls_at K "Schema") (sp_Schema_eq K 9) x (.str z) H Q := by
  obtain ⟨p, dx, fs, rfl, ob⟩ := sch_refs hx
  exact ⟨p, dx, fs, rfl, ob, .inr (.inl ⟨z, rfl⟩), _, _, l, rfl, hx, d, gl, .inr ⟨.inr ⟨z, rfl⟩, _, rfl, q⟩⟩
theorem rd_eqOn {x : V} {l : Lev} (hx : SchAt K H x l) (gl : l.good) (d : l.depth ≤ 9) (q : Q (.bl false) H) : rEqO (cls_at K "Schema") (sp_Schema_eq K 9) x .non H Q := by
  obtain ⟨p, dx, fs, rfl, ob⟩ := sch_refs hx
  exact ⟨p, dx, fs, rfl, ob, .inl rfl, _, _, l, rfl, hx, d, gl, .inr ⟨.inl rfl, _, rfl, q⟩⟩
variable {b lv s : Addr} {l : Lev} {a0 a2 a4 a6 a8 a9 a10 a11 a12 a13 a14 a15 a16 a17 : Option V} {z : Str}
/-- no other level's schema is equal -/
theorem read_8 (hs : SchAt K G (.ref s) l) (hv : Dp K G (.ref lv) l.dat) (g : l.good) (d3 : l.depth ≤ 3) (dr : l.dr 2) (d1 : ∀ m, m ∈ l.ls.levs → m.dr 2) (S : Stt G H L)
    (q : ∀ G' H', Ex G G' → Stt G' H' L → D.nx [a0, some (.ref b), a2, some (.ref lv), a4, some (.ref s), a6, some (.str z), a8, a9, a10, a11, a12, a13, a14, a15, a16, a17] H') :
    t_law_1b_8 K D [a0, some (.ref b), a2, some (.ref lv), a4, some (.ref s), a6, some (.str z), a8, a9, a10, a11, a12, a13, a14, a15, a16, a17] H := by
  unfold t_law_1b_8
  refine rd_ifs (rd_B (rd_cb (rd_cons (rd_lc (rd_il (rd_call (rd_cons (rd_var rfl (rd_nil ⟨_, l, G, L, rfl, S, hv, g, d3, dr, d1, fun p us levs G1 H1 e1 S1 hp hu hl ho => ?_⟩)))))))))
  have hul := hu.len
  refine ⟨p, rfl, ⟨_, ex_l S1.ex hp⟩, ?_⟩
  refine lc_go stt_world (walk_list (K := K) (a := p) (xs := us)) S1 (by omega) (fun i v _ => us[i]? = some v) (fun i acc _ => acc = ((us.take i).map fun _ => false).map V.bl) (fun H' e' => ex_l e' hp)
    (fun i x G1 H1 H2 L1 _ e1 S1 y => item_at S1 y) rfl (fun _ _ _ _ _ h => h) ?_ ?_
  · intro D2 i x acc G2 H2 hi _ e2 S2 I2 it Kp Sk kp sk
    obtain ⟨m, hm, dm⟩ := hu.get it
    have om := ho m (List.mem_of_getElem? hm)
    have dm9 : m.depth ≤ 9 := by have := om.d; omega
    have e12 := e1.trans e2
    refine rd_name ⟨rfl, rd_yes (rd_iT (rd_orV (rd_op (rd_call (rd_cons (rd_var rfl (rd_nil ⟨_, m, G2, _, rfl, S2, Dp.ex e2 _ _ dm, dm9, om.d, om.g, fun w G3 H3 e3 S3 hw => rd_var rfl ?_⟩)))))))⟩
    refine rd_eqO (hw.ex S3.ex) (hs.ex (e12.trans (e3.trans S3.ex))) om.g g dm9 ?_
    rw [Lev.eqb_ne om.ne]
    refine rd_bl ?_
    refine rd_op (rd_var rfl (rd_call (rd_cons (rd_var rfl (rd_nil ⟨_, m, G3, _, rfl, S3, Dp.ex (e2.trans e3) _ _ dm, dm9, om.d, om.g, fun w2 G4 H4 e4 S4 hw2 => ?_⟩)))))
    refine rd_eqO (hs.ex (e12.trans (e3.trans (e4.trans S4.ex)))) (hw2.ex S4.ex) g om.g (by omega) ?_
    rw [Lev.eqb_ne (Ne.symm om.ne)]
    refine kp _ G4 H4 (e3.trans e4) S4 ?_
    rw [I2, List.take_add_one, it, List.map_append, List.map_append]
    rfl
  · intro D2 acc G2 H2 e2 S2 I2 _
    have ha : acc = (us.map fun _ => false).map V.bl := by rw [I2, List.take_length]
    subst ha
    have any0 : ((us.map fun _ => false).any id) = false := by rw [List.any_map]; exact List.any_eq_false.mpr fun _ _ => Bool.false_ne_true
    refine rd_nil (rd_any (sq_of (S2.at 0 rfl)) ?_)
    rw [any0]
    exact rd_bl (rd_next (q G2 H2 (e1.trans e2) S2.drop))
/-- equal to its own kind, to no text, not to None -/
theorem read_7 (hs : SchAt K G (.ref s) l) (hv : Dp K G (.ref lv) l.dat) (g : l.good) (d3 : l.depth ≤ 3) (dr : l.dr 2) (d1 : ∀ m, m ∈ l.ls.levs → m.dr 2) (S : Stt G H L)
    (q : ∀ G' H', Ex G G' → Stt G' H' L → D.nx [a0, some (.ref b), a2, some (.ref lv), a4, some (.ref s), a6, some (.str z), a8, a9, a10, a11, a12, a13, a14, a15, a16, a17] H') :
    t_law_1b_7 K D [a0, some (.ref b), a2, some (.ref lv), a4, some (.ref s), a6, some (.str z), a8, a9, a10, a11, a12, a13, a14, a15, a16, a17] H := by
  have d9 : l.depth ≤ 9 := by omega
  unfold t_law_1b_7
  refine rd_seq (rd_ifs (rd_or (rd_test (rd_op (rd_var rfl (rd_call (rd_cons (rd_var rfl (rd_nil ⟨_, l, G, L, rfl, S, hv, d9, d3, g, fun w G1 H1 e1 S1 hw => ?_⟩)))))))))
  refine rd_neO (hs.ex (e1.trans S1.ex)) (hw.ex S1.ex) g g d9 ?_
  rw [Lev.eqb_same]
  refine rd_bl (rd_or (rd_not (rd_test (rd_op (rd_var rfl (rd_call (rd_cons (rd_var rfl (rd_nil ⟨_, l, G1, L, rfl, S1, Dp.ex e1 _ _ hv, g, d3, fun w2 G2 H2 e2 S2 hw2 => ?_⟩)))))))))
  have e12 := e1.trans e2
  refine rd_eqO (hs.ex (e12.trans S2.ex)) (hw2.ex S2.ex) g g d9 ?_
  rw [Lev.eqb_same]
  refine rd_bl (rd_ifN (rd_or (rd_test (rd_op (rd_var rfl (rd_var rfl (rd_eqOs (hs.ex (e12.trans S2.ex)) g d9 (rd_bl ?_))))))))
  refine rd_test (rd_op (rd_var rfl (rd_c (rd_eqOn (hs.ex (e12.trans S2.ex)) g d9 (rd_bl (rd_next ?_))))))
  exact read_8 (hs.ex e12) (Dp.ex e12 _ _ hv) g d3 dr d1 S2 fun G' H' e' => q G' H' (e12.trans e')
theorem good_flat {fs : List Str} {ls : LevL} (g : (Lev.mk fs ls).good) : (Lev.mk fs .nil).good := by
  rw [Lev.good] at g ⊢
  refine ⟨g.1, g.2.1, g.2.2.1, ?_, Nat.zero_le _, by rw [LevL.good]; exact True.intro⟩
  rw [show LevL.nil.names = [] from by rw [LevL.names], List.append_nil]
  exact (List.nodup_append.mp g.2.2.2.1).1
theorem read_turn {x2 x3 x4 x5 x6 x7 x8 x9 x10 x11 : Option V} (B : Bag K G H b [])
    (q : ∀ x3 x4 x5 x6 x7 x8 x9 x10 x11 G' H', Ex G G' → Bag K G' H' b [] → D.nx [a0, some (.ref b), x2, x3, x4, x5, x6, x7, x8, x9, x10, x11, a12, a13, a14, a15, a16, a17] H') :
    t_law_1b K D [a0, some (.ref b), x2, x3, x4, x5, x6, x7, x8, x9, x10, x11, a12, a13, a14, a15, a16, a17] H := by
  unfold t_law_1b
  refine rd_seq (rd_asg (rd_call (rd_cons (rd_var rfl (rd_cons (rd_call (rd_cons (rd_var rfl (rd_cons (rd_c (rd_nil ⟨b, 5, G, _, rfl, by decide, by decide, B, fun d H1 d0 d5 B1 => rd_cons (rd_c (rd_nil ?_))⟩)))))))))))
  refine ⟨b, d, 2, G, _, rfl, d0, d5, by decide, by decide, B1, fun v l G2 H2 e2 B2 hv g dr d1 d3 => rd_name ?_⟩
  obtain ⟨fs, ls⟩ := l
  obtain ⟨lv, lb, lc, qs, rfl, ha, hb, hc, hq⟩ := lv_inv hv
  have g' := g
  rw [Lev.good] at g'
  have f2 : fs.length ≤ 2 := by have : (fs.length : Int) ≤ 2 := dr.2; omega
  have W : LvH K G2 lv lb lc fs qs ls := ⟨ha, hb, hc, hq, f2, by rw [hq.1]; exact g'.2.2.2.2.1⟩
  have d9 : (Lev.mk fs ls).depth ≤ 9 := by omega
  obtain ⟨M, S, hB⟩ := B2.stt
  unfold t_law_1b_1
  refine rd_seq (rd_asg (rd_cb (rd_cons (rd_x0 rfl S W (rd_nil ⟨lb, _, rfl, .inl (ex_l S.ex W.hb), ?_⟩)))))
  refine mk_mu (o := .lst (fs.map V.str)) stt_world S fun mi S1 => rd_name ?_
  unfold t_law_1b_2
  refine rd_seq (rd_asg (rd_tup (rd_cons (rd_call (rd_cons (rd_var rfl (rd_nil ⟨_, _, G2, _, rfl, S1, hv, d9, d3, g, fun w G3 H3 e3 S2 hw => rd_cons (rd_mkC (rd_cons (rd_var rfl (rd_nil ?_))))⟩)))))))
  refine mkQb (fs := fs) S2 (List.mem_cons_self ..) (good_flat g) fun x G4 H4 e4 S3 hx => rd_nil ?_
  refine mk_tup stt_world S3 (by show 2 ≤ _; decide) fun tp G5 e5 S4 h5 => ?_
  refine rd_gtup2 (st_of (S4.ex _ _ h5)) ?_
  cases hw with
  | @mk s dx tf tl fs ls ps ob hf hl hA =>
  cases hx with
  | @mk x dx2 tf2 tl2 fs ls2 ps2 ob2 hf2 hl2 hA2 =>
  have C : ScH K G5 s dx tf tl fs ps ls := ScH.ex (e4.trans e5) ⟨ob, hf, hl, hA⟩
  have e25 := e3.trans (e4.trans e5)
  unfold t_law_1b_3
  refine rd_seq (rd_drop (rd_bm (rd_var rfl ⟨ty_list (sq_of (S4.at 0 rfl)), rd_cons (rd_c (rd_nil (rd_app (S4.at 0 rfl) (by rw [List.length_map]; omega) ?_)))⟩)))
  have S5 := (S4.wr (o' := .lst (fs.map V.str ++ [.str "z"])) 0 rfl).drop
  have W5 := W.ex e25
  unfold t_law_1b_4
  refine rd_seq (rd_ifs (rd_not (rd_B (rd_call (rd_cons (rd_fld (rd_var rfl (rd_Sfields (S5.ex _ _ (e5 _ _ ob2)) (rd_cons (rd_cb (rd_cons (rd_x0 rfl S5 W5 (rd_nil ?_)))))))))))))
  refine rd_gtupleL (ex_l S5.ex W5.hb) ?_
  refine mk_im (o := .tup (fs.map V.str)) stt_world S5 fun t6 G6 e6 S6 h6 => rd_nil ?_
  have dp1 : Dp K G6 (.ref tf2) (.tuple (fs.map .str)) := .tup (ex_t (e5.trans e6) hf2) (dpStrs fs)
  have dp2 : Dp K G6 (.ref t6) (.tuple (fs.map .str)) := .tup (st_of h6) (dpStrs fs)
  refine ⟨G6, M, .ref tf2, .ref t6, _, _, rfl, S6, dp1, dp2, ⟨by rw [List.length_map]; omega, fit_strs⟩, fun H7 S7 => ?_⟩
  rw [lk_refl _ (Dp.plain _ _ dp1)]
  refine rd_bl (rd_ifN (rd_next ?_))
  have e26 := e25.trans e6
  have C6 := C.ex e6
  have W6 := W5.ex e6
  have hv6 := Dp.ex e26 _ _ hv
  unfold t_law_1b_5
  refine rd_seq (rd_asg (rd_call (rd_cons (rd_var rfl (rd_nil ⟨_, _, G6, M, rfl, S7, hv6, d9, d9, g, fun H8 S8 => rd_name ?_⟩)))))
  unfold t_law_1b_6
  refine rd_seq ?_
  walk_at "gs"
  refine ⟨2, rfl, by omega, by omega, ?_⟩
  refine for_go (walk_range (lo := 0) (n := (2 : Int).toNat)) (G := G6)
    (fun i σ1 G9 H9 => ∃ x8 x9 x10 x11, σ1 = [a0, some (.ref b), x2, some (.ref lv), some (.ref mi), some (.ref s), some (.ref x), some (.str (SX.S (Lev.mk fs ls).tx)), x8, x9, x10, x11, a12, a13, a14, a15, a16, a17] ∧ G9 = G6 ∧ Stt G6 H9 M)
    ⟨_, _, _, _, rfl, rfl, S8⟩ (fun _ _ _ _ _ _ => True.intro) ?_ ?_
  · rintro i y σ1 G9 H9 H10 hi ⟨x8, x9, x10, x11, rfl, rfl, S9⟩ yy N hN
    obtain ⟨rfl, rfl⟩ := yy
    refine rd_name ?_
    exact read_again C6 W6 hv6 g d3 S9 fun x9 x10 x11 H' S' => hN _ G9 H' ⟨_, _, _, _, rfl, rfl, S'⟩
  · rintro σ1 G9 H9 ⟨x8, x9, x10, x11, rfl, rfl, S9⟩
    exact read_7 C6.at hv6 g d3 dr d1 S9 fun G' H' e' S' => q _ _ _ _ _ _ _ _ _ G' H' (e2.trans (e26.trans e')) (hB G' H' (e26.trans e') S')
end

/-! The law's end, and its head. -/



theorem nmA : NameOk "a" := ⟨by decide +kernel, by decide +kernel⟩
theorem nmB : NameOk "b" := ⟨by decide +kernel, by decide +kernel⟩
theorem nmC : NameOk "c" := ⟨by decide +kernel, by decide +kernel⟩
theorem nmP : NameOk "p" := ⟨by decide +kernel, by decide +kernel⟩
theorem nmQ : NameOk "q" := ⟨by decide +kernel, by decide +kernel⟩
theorem nmR : NameOk "r" := ⟨by decide +kernel, by decide +kernel⟩
def lvA : Lev := .mk ["a"] .nil
def lvAB : Lev := .mk ["a", "b"] (.cons "c" lvA .nil)
def lvTwo : Lev := .mk ["a"] (.cons "b" lvAB .nil)
def lvPQR : Lev := .mk ["p", "q", "r"] .nil
theorem gdA : lvA.good := by
  unfold lvA
  rw [Lev.good, LevL.good]
  exact ⟨by decide, by decide, fun n hn => by rw [List.mem_singleton.mp hn]; exact nmA, by decide +kernel, by decide, True.intro⟩
theorem gdAB : lvAB.good := by
  unfold lvAB
  rw [Lev.good, LevL.good, LevL.good]
  refine ⟨by decide, by decide, fun n hn => ?_, by decide +kernel, by decide, nmC, gdA, True.intro⟩
  rcases List.mem_cons.mp hn with h | h
  · rw [h]; exact nmA
  · rw [List.mem_singleton.mp h]; exact nmB
theorem gdTwo : lvTwo.good := by
  unfold lvTwo
  rw [Lev.good, LevL.good, LevL.good]
  exact ⟨by decide, by decide, fun n hn => by rw [List.mem_singleton.mp hn]; exact nmA, by decide +kernel, by decide, nmB, gdAB, True.intro⟩
theorem gdPQR : lvPQR.good := by
  unfold lvPQR
  rw [Lev.good, LevL.good]
  refine ⟨by decide, by decide, fun n hn => ?_, by decide +kernel, by decide, True.intro⟩
  rcases List.mem_cons.mp hn with h | h
  · rw [h]; exact nmP
  · rcases List.mem_cons.mp h with h | h
    · rw [h]; exact nmQ
    · rw [List.mem_singleton.mp h]; exact nmR
theorem dpA : lvA.depth = 1 := by decide +kernel
theorem dpAB : lvAB.depth = 2 := by decide +kernel
theorem dpTwo : lvTwo.depth = 3 := by decide +kernel
theorem dpPQR : lvPQR.depth = 1 := by decide +kernel
theorem txTwo : SX.S lvTwo.tx = ("a b(a b c(a))" : Str) := by decide +kernel
section
variable {K : PySem.W.Frag} [SK : SchK K] [CK : Consts K] [KK : KitN K] {G H : Hp} {L M : List (Addr × HO)} {Q : VK} {D : Ends} {σ : L2.St} {a0 a1 a2 a3 a4 a5 a6 a7 a8 a9 a10 a11 a12 a13 a14 a15 a16 a17 : Option V}
theorem read_l4 {v w : V} (h1 : SchAt K G v lvPQR) (h2 : SchAt K G w lvTwo) (S : Stt G H L) (q : ∀ H', D.rt (.bl true) H') :
    t_law_4 K D [a0, a1, a2, a3, a4, a5, a6, a7, a8, a9, a10, a11, some v, some w, a14, a15, a16, a17] H := by
  have h1' := h1
  have h2' := h2
  obtain ⟨p, dx, fs, rfl, ob⟩ := sch_refs h1
  obtain ⟨r, dy, gs, rfl, ob'⟩ := sch_refs h2
  have d1 : lvPQR.depth ≤ 9 := by rw [dpPQR]; decide
  have d2 : lvTwo.depth ≤ 9 := by rw [dpTwo]; decide
  unfold t_law_4
  cases h1 with
  | @mk _ _ tf tl _ _ ps ob1 hf hl hA =>
  cases h2 with
  | @mk _ _ tg tm _ _ ms ob2 hg hm hB =>
  refine rd_ret (rd_call (rd_cons (rd_lst (rd_cons (rd_fld (rd_var rfl (rd_Sfields (S.ex _ _ ob1) ?_)))))))
  refine rd_cons (rd_prop (rd_var rfl ⟨p, _, _, rfl, S.ex _ _ ob, _, _, G, _, rfl, S, h1', d1, gdPQR, fun H1 S1 => ?_⟩))
  refine rd_cons (rd_prop (rd_var rfl ⟨r, _, _, rfl, S1.ex _ _ ob', _, _, G, _, rfl, S1, h2', d2, gdTwo, fun H2 S2 => ?_⟩))
  refine rd_cons (rd_meth (rd_var rfl ⟨r, _, _, rfl, S2.ex _ _ ob2, schF_no _ _ (by decide +kernel) (by decide +kernel), rd_nil ⟨_, _, G, _, rfl, S2, h2', d2, d2, gdTwo, fun H3 S3 => rd_nil ?_⟩⟩))
  rw [dpPQR, dpTwo, txTwo]
  refine mk_lst stt_world S3 (by show 4 ≤ _; decide) fun f G4 e4 S4 k4 => ?_
  refine rd_cons (rd_lst (rd_cons (rd_tup (rd_cons (rd_c (rd_cons (rd_c (rd_cons (rd_c (rd_nil ?_))))))))))
  refine mk_tup stt_world S4 (by show 3 ≤ _; decide) fun t G5 e5 S5 k5 => ?_
  refine rd_cons (rd_c (rd_cons (rd_c (rd_cons (rd_c (rd_nil ?_))))))
  refine mk_lst stt_world S5 (by show 4 ≤ _; decide) fun g G6 e6 S6 k6 => rd_nil ?_
  have D1 : Dp K G6 (.ref f) (.list [.tuple ((["p", "q", "r"] : List Str).map .str), .int 1, .int 3, .str "a b(a b c(a))"]) :=
    .lst (ex_l (e5.trans e6) (sq_of k4)) (.cons (.tup (ex_t (e4.trans (e5.trans e6)) hf) (dpStrs _)) (.cons (.int _) (.cons (.int _) (.cons (.str _) .nil))))
  have D2 : Dp K G6 (.ref g) (.list [.tuple ((["p", "q", "r"] : List Str).map .str), .int 1, .int 3, .str "a b(a b c(a))"]) :=
    .lst (sq_of k6) (.cons (.tup (ex_t e6 (st_of k5)) (dpStrs ["p", "q", "r"])) (.cons (.int _) (.cons (.int _) (.cons (.str _) .nil))))
  refine ⟨G6, _, .ref f, .ref g, _, _, rfl, S6, D1, D2, by simp [fit], fun H7 S7 => ?_⟩
  rw [lk_refl _ (Dp.plain _ _ D1)]
  exact q H7
theorem read_l3 {v : V} (h1 : SchAt K G v lvPQR) (S : Stt G H L) (q : ∀ H', D.rt (.bl true) H') :
    t_law_3 K D [a0, a1, a2, a3, a4, a5, a6, a7, a8, a9, a10, a11, some v, a13, a14, a15, a16, a17] H := by
  unfold t_law_3
  refine rd_seq (rd_asg (rd_mkC (rd_cons (rd_tup (rd_cons (rd_c (rd_nil ?_)))))))
  refine mk_tup stt_world S (by show 1 ≤ _; decide) fun p1 G1 e1 S1 k1 => ?_
  refine rd_cons (rd_tup (rd_cons (rd_c (rd_cons (rd_mkC (rd_cons (rd_tup (rd_cons (rd_c (rd_cons (rd_c (rd_nil ?_))))))))))))
  refine mk_tup stt_world S1 (by show 2 ≤ _; decide) fun p2 G2 e2 S2 k2 => ?_
  refine rd_cons (rd_tup (rd_cons (rd_c (rd_cons (rd_mkC (rd_cons (rd_tup (rd_cons (rd_c (rd_nil ?_))))))))))
  refine mk_tup stt_world S2 (by show 1 ≤ _; decide) fun p3 G3 e3 S3 k3 => rd_nil ?_
  refine mkQ (a := p3) (fs := ["a"]) (ps := []) (ls := .nil) S3 (.inr (st_of k3)) .nil gdA (by rw [show (Lev.mk ["a"] .nil).depth = 1 from dpA]; decide) fun x1 G4 H4 e4 S4 z1 => rd_nil ?_
  refine mk_tup stt_world S4 (by show 2 ≤ _; decide) fun p5 G5 e5 S5 k5 => rd_nil ?_
  refine mkQ (a := p2) (fs := ["a", "b"]) (ps := [p5]) (ls := .cons "c" lvA .nil) S5 (.inr (ex_t (e3.trans (e4.trans e5)) (st_of k2))) (.cons (st_of k5) (z1.ex e5) .nil) gdAB (by rw [show (Lev.mk ["a", "b"] (.cons "c" lvA .nil)).depth = 2 from dpAB]; decide) fun x2 G6 H6 e6 S6 z2 => rd_nil ?_
  refine mk_tup stt_world S6 (by show 2 ≤ _; decide) fun p7 G7 e7 S7 k7 => rd_nil ?_
  refine mkQ (a := p1) (fs := ["a"]) (ps := [p7]) (ls := .cons "b" lvAB .nil) S7 (.inr (ex_t (e2.trans (e3.trans (e4.trans (e5.trans (e6.trans e7))))) (st_of k1))) (.cons (st_of k7) (z2.ex e7) .nil) gdTwo (by rw [show (Lev.mk ["a"] (.cons "b" lvAB .nil)).depth = 3 from dpTwo]; decide) fun x3 G8 H8 e8 S8 z3 => rd_name ?_
  exact read_l4 (h1.ex (e1.trans (e2.trans (e3.trans (e4.trans (e5.trans (e6.trans (e7.trans e8)))))))) z3 S8 q
theorem read_l2 (S : Stt G H L) (q : ∀ H', D.rt (.bl true) H') : t_law_2 K D [a0, a1, a2, a3, a4, a5, a6, a7, a8, a9, a10, a11, a12, a13, a14, a15, a16, a17] H := by
  unfold t_law_2
  refine rd_seq (rd_asg ?_)
  show (tCons _ tNil) _ _ _
  refine rd_cons (rd_tup (rd_cons (rd_c (rd_cons (rd_c (rd_cons (rd_c (rd_nil ?_))))))))
  refine mk_tup stt_world S (by show 3 ≤ _; decide) fun p1 G1 e1 S1 k1 => rd_nil ⟨_, rfl, ?_⟩
  refine mkQ (a := p1) (fs := ["p", "q", "r"]) (ps := []) (ls := .nil) S1 (.inr (st_of k1)) .nil gdPQR (by rw [show (Lev.mk ["p", "q", "r"] .nil).depth = 1 from dpPQR]; decide) fun x1 G4 H4 e4 S4 z1 => rd_name ?_
  exact read_l3 z1 S4 q
def sp_law (K : PySem.W.Frag) : Sp := fun vs H Q _ => ∃ (a : Addr) (ns : List Int), vs = [.ref a] ∧ SqL K H a (ns.map V.int) ∧ ∀ H', Q (.bl true) H'
theorem sat_law {vs : List V} {E : XK} (h : sp_law K vs H Q E) : vs.length = 1 ∧ t_law K { nx := fun _ H' => Q .non H', rt := Q } (vs.map some ++ List.replicate (18 - vs.length) none) H := by
  obtain ⟨a, ns, rfl, ha, q⟩ := h
  refine ⟨rfl, ?_⟩
  unfold t_law
  walk_at "gs"
  refine ⟨a, ns, H, [], rfl, Stt.nil H, ha, fun b G1 H1 e1 B1 => ?_⟩
  walk_at "gs"
  unfold t_law_1
  walk_at "gs"
  refine ⟨3, rfl, by omega, by omega, ?_⟩
  refine for_go (walk_range (lo := 0) (n := (3 : Int).toNat)) (G := G1)
    (fun i σ1 G2 H2 => ∃ x2 x3 x4 x5 x6 x7 x8 x9 x10 x11, σ1 = [some (.ref a), some (.ref b), x2, x3, x4, x5, x6, x7, x8, x9, x10, x11, none, none, none, none, none, none] ∧ Ex G1 G2 ∧ Bag K G2 H2 b [])
    ⟨_, _, _, _, _, _, _, _, _, _, rfl, Ex.refl _, B1⟩ (fun _ _ _ _ _ _ => True.intro) ?_ ?_
  · rintro i x σ1 G2 H2 H3 hi ⟨x2, x3, x4, x5, x6, x7, x8, x9, x10, x11, rfl, e2, B2⟩ y N hN
    obtain ⟨rfl, rfl⟩ := y
    refine rd_name ?_
    exact read_turn B2 fun x3 x4 x5 x6 x7 x8 x9 x10 x11 G' H' e' B' => hN _ G' H' ⟨_, _, _, _, _, _, _, _, _, _, rfl, e2.trans e', B'⟩
  · rintro σ1 G2 H2 ⟨x2, x3, x4, x5, x6, x7, x8, x9, x10, x11, rfl, e2, B2⟩
    obtain ⟨M, S2, hM⟩ := B2.stt
    exact read_l2 S2 fun H' => q H'
end

end EE
namespace Q07
open PySem PySem.Spec PyProof.Rows L2 Evl RZ EE
def topS (i : Nat) : Stmt := PySem.Challenge.pw_eachentry_k07_schemas_told.main.body.getD i (.Pass ⟨0, 0, 0, 0⟩)
abbrev s_is_name : Stmt := topS 10
theorem sc_is_name : FnScope ["value", "letter"] ["value"] (defScope s_is_name) := ⟨rfl, rfl, rfl, by decide +kernel, rfl, by decide +kernel, by decide +kernel⟩
abbrev s_top_words : Stmt := topS 11
theorem sc_top_words : FnScope ["text", "found", "word", "deep", "sign"] ["text"] (defScope s_top_words) := ⟨rfl, rfl, rfl, by decide +kernel, rfl, by decide +kernel, by decide +kernel⟩
abbrev s_is_fields : Stmt := topS 16
theorem sc_is_fields : FnScope ["value", "name"] ["value"] (defScope s_is_fields) := ⟨rfl, rfl, rfl, by decide +kernel, rfl, by decide +kernel, by decide +kernel⟩
abbrev s_Schema_init : Stmt := inClass (topS 17) 0
theorem sc_Schema_init : FnScope ["self", "fields", "lists", "used", "at", "pair"] ["self", "fields", "lists"] (defScope s_Schema_init) := ⟨rfl, rfl, rfl, by decide +kernel, rfl, by decide +kernel, by decide +kernel⟩
abbrev s_Schema_eq : Stmt := inClass (topS 17) 1
theorem sc_Schema_eq : FnScope ["self", "other"] ["self", "other"] (defScope s_Schema_eq) := ⟨rfl, rfl, rfl, by decide +kernel, rfl, by decide +kernel, by decide +kernel⟩
abbrev s_Schema_repr : Stmt := inClass (topS 17) 2
theorem sc_Schema_repr : FnScope ["self"] ["self"] (defScope s_Schema_repr) := ⟨rfl, rfl, rfl, by decide +kernel, rfl, by decide +kernel, by decide +kernel⟩
abbrev s_Schema_depth : Stmt := inClass (topS 17) 3
theorem sc_Schema_depth : FnScope ["self", "name", "inner"] ["self"] (defScope s_Schema_depth) := ⟨rfl, rfl, rfl, by decide +kernel, rfl, by decide +kernel, by decide +kernel⟩
abbrev s_Schema_lists : Stmt := inClass (topS 17) 4
theorem sc_Schema_lists : FnScope ["self"] ["self"] (defScope s_Schema_lists) := ⟨rfl, rfl, rfl, by decide +kernel, rfl, by decide +kernel, by decide +kernel⟩
abbrev s_Schema_text : Stmt := inClass (topS 17) 7
theorem sc_Schema_text : FnScope ["self", "name", "inner"] ["self"] (defScope s_Schema_text) := ⟨rfl, rfl, rfl, by decide +kernel, rfl, by decide +kernel, by decide +kernel⟩
abbrev s_Schema_read : Stmt := inClass (topS 17) 8
theorem sc_Schema_read : FnScope ["text"] ["text"] (defScope s_Schema_read) := ⟨rfl, rfl, rfl, by decide +kernel, rfl, by decide +kernel, by decide +kernel⟩
abbrev s_is_list : Stmt := topS 18
theorem sc_is_list : FnScope ["pair", "used"] ["pair", "used"] (defScope s_is_list) := ⟨rfl, rfl, rfl, by decide +kernel, rfl, by decide +kernel, by decide +kernel⟩
abbrev s_read_part : Stmt := topS 19
theorem sc_read_part : FnScope ["text", "deep", "name", "bracket", "rest"] ["text", "deep"] (defScope s_read_part) := ⟨rfl, rfl, rfl, by decide +kernel, rfl, by decide +kernel, by decide +kernel⟩
abbrev s_read_level : Stmt := topS 20
theorem sc_read_level : FnScope ["text", "deep", "words", "fields", "lists", "word"] ["text", "deep"] (defScope s_read_level) := ⟨rfl, rfl, rfl, by decide +kernel, rfl, by decide +kernel, by decide +kernel⟩
abbrev s_read_schema : Stmt := topS 21
theorem sc_read_schema : FnScope ["text", "found"] ["text"] (defScope s_read_schema) := ⟨rfl, rfl, rfl, by decide +kernel, rfl, by decide +kernel, by decide +kernel⟩
abbrev s_open : Stmt := topS 23
theorem sc_open : FnScope ["_law_script"] ["_law_script"] (defScope s_open) := ⟨rfl, rfl, rfl, by decide +kernel, rfl, by decide +kernel, by decide +kernel⟩
abbrev s_draw : Stmt := topS 24
theorem sc_draw : FnScope ["_law_bag", "_law_many", "_law_cell", "_law_digit", "_law_seed"] ["_law_bag", "_law_many"] (defScope s_draw) := ⟨rfl, rfl, rfl, by decide +kernel, rfl, by decide +kernel, by decide +kernel⟩
abbrev s_ofS : Stmt := topS 25
theorem sc_ofS : FnScope ["_law_bag", "_law_things"] ["_law_bag", "_law_things"] (defScope s_ofS) := ⟨rfl, rfl, rfl, by decide +kernel, rfl, by decide +kernel, by decide +kernel⟩
abbrev s_like : Stmt := topS 26
theorem sc_like : FnScope ["_law_found", "_law_due", "_law_one", "_law_other"] ["_law_found", "_law_due"] (defScope s_like) := ⟨rfl, rfl, rfl, by decide +kernel, rfl, by decide +kernel, by decide +kernel⟩
abbrev s_names : Stmt := topS 27
theorem sc_names : FnScope ["_law_bag", "_law_many", "_law_marks", "_law_found", "_law_stem", "_law_at", "_law_near", "_law_k", "_law_mark", "_law_tail", "_law_j"] ["_law_bag", "_law_many"] (defScope s_names) := ⟨rfl, rfl, rfl, by decide +kernel, rfl, by decide +kernel, by decide +kernel⟩
abbrev s_level : Stmt := topS 28
theorem sc_level : FnScope ["_law_bag", "_law_fields_z", "_law_inner", "_law_names_here", "_law_many", "_law_name", "_law_level_here"] ["_law_bag", "_law_fields_z", "_law_inner"] (defScope s_level) := ⟨rfl, rfl, rfl, by decide +kernel, rfl, by decide +kernel, by decide +kernel⟩
abbrev s_some_level : Stmt := topS 29
theorem sc_some_level : FnScope ["_law_bag", "_law_shape", "_law_fields_z", "_law_deep", "_law_flat", "_law_inner"] ["_law_bag", "_law_shape", "_law_fields_z"] (defScope s_some_level) := ⟨rfl, rfl, rfl, by decide +kernel, rfl, by decide +kernel, by decide +kernel⟩
abbrev s_level_text : Stmt := topS 30
theorem sc_level_text : FnScope ["_law_level_here", "_law_words", "_law_name", "_law_inner"] ["_law_level_here"] (defScope s_level_text) := ⟨rfl, rfl, rfl, by decide +kernel, rfl, by decide +kernel, by decide +kernel⟩
abbrev s_schema : Stmt := topS 31
theorem sc_schema : FnScope ["_law_level_here"] ["_law_level_here"] (defScope s_schema) := ⟨rfl, rfl, rfl, by decide +kernel, rfl, by decide +kernel, by decide +kernel⟩
abbrev s_made : Stmt := topS 32
theorem sc_made : FnScope ["_law_level_here", "_law_some", "_law_name", "_law_inner"] ["_law_level_here"] (defScope s_made) := ⟨rfl, rfl, rfl, by decide +kernel, rfl, by decide +kernel, by decide +kernel⟩
abbrev s_depth : Stmt := topS 33
theorem sc_depth : FnScope ["_law_level_here", "_law_name", "_law_inner"] ["_law_level_here"] (defScope s_depth) := ⟨rfl, rfl, rfl, by decide +kernel, rfl, by decide +kernel, by decide +kernel⟩
abbrev s_others : Stmt := topS 34
theorem sc_others : FnScope ["_law_level_here", "_law_found", "_law_name", "_law_inner", "_law_one"] ["_law_level_here"] (defScope s_others) := ⟨rfl, rfl, rfl, by decide +kernel, rfl, by decide +kernel, by decide +kernel⟩
abbrev s_law : Stmt := topS 35
theorem sc_law : FnScope ["_law_script", "_law_bag", "_law_turn", "_law_level_here", "_law_mine", "_law_schema_here", "_law_twin", "_law_text", "_law_again", "_law_told", "_law_found", "_law_due", "_law_one", "_law_two", "_law_name", "_law_inner", "_law_pair", "_law_other"] ["_law_script"] (defScope s_law) := ⟨rfl, rfl, rfl, by decide +kernel, rfl, by decide +kernel, by decide +kernel⟩
section
variable {base : Heap} {P : Program} {w : World} {mg : Str → Option Value} {K : PySem.W.Frag} [CK_WORDS : Consts K] [SK_Schema : SchK K] [NK_Schema : KitN K]
theorem cal_is_name {f : Addr} {fd : FuncData} (F : Fun K "is_name" "is_name" s_is_name f fd) (g : mg "is_name" = some (.ref f)) (m_isinstance : mg "isinstance" = none) (m_str : mg "str" = none) (m_len : mg "len" = none) (m_all : mg "all" = none) (g_MOST_LETTERS : ∃ u, mg "MOST_LETTERS" = some u ∧ RelV v_MOST_LETTERS u) (g_WORDS : ∃ u, mg "WORDS" = some u ∧ RelV (v_WORDS K) u) (g_LETTERS : ∃ u, mg "LETTERS" = some u ∧ RelV v_LETTERS u) : C8.Cal P w K mg base 1 "is_name" (sp_is_name K) [] := by
  have G : FnOk P w K mg base CX0 (0 + 1) f fd ["value"] (sp_is_name K) := by
    refine F.ok sc_is_name (fun vs H Q E h => (sat_is_name h).1) (fun cdv A outer s H vs Q E hr h => ?_)
    have nd := sc_is_name.nd
    exact ⟨_, (pss_cons (ps_if (PW.pt (pw_or (pt_not (pt_val (pe_callB cg_isi (by rfl) m_isinstance (by decide +kernel) (pa_cons (pv 0) (pa_cons (pe_bltn (v := .ty "str") (u := .type "str") (by rfl) m_str (by decide +kernel) rfl) pa_nil))))) (pw_or (pt_not (pt_chain og_le og_le pe_int (pe_callB cg_len (by rfl) m_len (by decide +kernel) (pa_cons (pv 0) pa_nil)) (C8.pe_gc (by rfl) g_MOST_LETTERS))) (pw_or1 (pt_cmpR og_in (pv 0) (C8.pe_gc (by rfl) g_WORDS) (by rfl)))))) (pss_one (ps_ret pe_bl)) pss_nil)
  (pss_one (ps_ret (pe_callB (cr_all rfl) (by rfl) m_all (by decide +kernel) (pa_cons (pe_lc (own := [("letter", 1)]) (g := (gName 1)) (tt := tYes) rfl nd (pi_str (pv 0)) (blkOk_by (N := ["value", "letter"]) (sc := defScope s_is_name) (by decide +kernel)) (fun _ _ _ _ _ => (pg_name (i := 1) nd rfl (.inl rfl))) (fun _ _ _ _ _ => pts_nil) (fun _ _ _ _ _ => (pe_cmpR og_in (pv 1) (C8.pe_gc (by rfl) g_LETTERS) (by rfl)))) pa_nil))))), (sat_is_name h).2⟩
  exact cal_mk F G g fun _ _ _ _ _ _ us hl => match us, hl with | [_], _ => rfl
theorem cal_top_words {f : Addr} {fd : FuncData} (F : Fun K "top_words" "top_words" s_top_words f fd) (g : mg "top_words" = some (.ref f)) : C8.Cal P w K mg base 1 "top_words" (sp_top_words K) [] := by
  have G : FnOk P w K mg base CX0 (0 + 1) f fd ["text"] (sp_top_words K) := by
    refine F.ok sc_top_words (fun vs H Q E h => (sat_top_words h).1) (fun cdv A outer s H vs Q E hr h => ?_)
    have nd := sc_top_words.nd
    exact ⟨_, (pss_cons (ps_if (pt_cmpR (og_eq hr.units) (pv 0) pe_str (nomark _)) (pss_one (ps_ret (pe_lst pa_nil))) pss_nil)
  (pss_cons (ps_par3 (i := 1) (j := 2) (l := 3) rfl nd rfl rfl rfl (by decide) (by decide) (by decide) rfl rfl rfl (pa_cons (pe_lst pa_nil) (pa_cons pe_str (pa_cons pe_int pa_nil))) (by rfl))
  (pss_cons (ps_for PassesOwn.never rfl (pi_str (pv 0)) (pg_name (i := 4) nd rfl (.inl rfl)) (pss_cons (ps_if (pt_cmpR og_in (pv 4) pe_str (by rfl)) (pss_one (ps_aug (i := 3) nd rfl (.inl rfl) pe_int ip_add)) (pss_one (ps_if (pt_cmpR og_in (pv 4) pe_str (by rfl)) (pss_one (ps_aug (i := 3) nd rfl (.inl rfl) pe_int ip_sub)) pss_nil)))
  (pss_one (ps_if (PW.pt (pw_and (pt_cmpR (og_eq hr.units) (pv 4) pe_str (nomark _)) (pw_and1 (pt_cmpR (og_eq hr.units) (pv 3) pe_int (nomark _))))) (pss_cons (ps_expr (pe_bm PySem.F.plainAttrs_list PySem.F.slot_list_append PySem.F.type_list_append mt_append (pv 1) (pa_cons (pv 2) pa_nil)))
  (pss_one (ps_set (i := 2) nd rfl (.inl rfl) pe_str))) (pss_one (ps_aug (i := 2) nd rfl (.inl rfl) (pv 4) in_addS))))))
  (pss_one (ps_ret (pe_op og_add (pv 1) (pe_lst (pa_cons (pv 2) pa_nil)))))))), (sat_top_words h).2⟩
  exact cal_mk F G g fun _ _ _ _ _ _ us hl => match us, hl with | [_], _ => rfl
theorem cal_is_fields {f : Addr} {fd : FuncData} (F : Fun K "is_fields" "is_fields" s_is_fields f fd) (g : mg "is_fields" = some (.ref f)) (C_is_name : C8.Cal P w K mg base 1 "is_name" (sp_is_name K) []) (m_isinstance : mg "isinstance" = none) (m_tuple : mg "tuple" = none) (m_list : mg "list" = none) (m_len : mg "len" = none) (m_all : mg "all" = none) (m_set : mg "set" = none) (g_MOST_FIELDS : ∃ u, mg "MOST_FIELDS" = some u ∧ RelV v_MOST_FIELDS u) : C8.Cal P w K mg base 2 "is_fields" (sp_is_fields K) [] := by
  have G : FnOk P w K mg base CX0 (1 + 1) f fd ["value"] (sp_is_fields K) := by
    refine F.ok sc_is_fields (fun vs H Q E h => (sat_is_fields h).1) (fun cdv A outer s H vs Q E hr h => ?_)
    have nd := sc_is_fields.nd
    exact ⟨_, (pss_cons (ps_if (PW.pt (pw_or (pt_not (pt_val (pe_callB cg_isi (by rfl) m_isinstance (by decide +kernel) (pa_cons (pv 0) (pa_cons (pe_tup (pa_cons (pe_bltn (v := .ty "list") (u := .type "list") (by rfl) m_list (by decide +kernel) rfl) (pa_cons (pe_bltn (v := .ty "tuple") (u := .type "tuple") (by rfl) m_tuple (by decide +kernel) rfl) pa_nil))) pa_nil))))) (pw_or1 (pt_not (pt_chain og_le og_le pe_int (pe_callB cg_len (by rfl) m_len (by decide +kernel) (pa_cons (pv 0) pa_nil)) (C8.pe_gc (by rfl) g_MOST_FIELDS)))))) (pss_one (ps_ret pe_bl)) pss_nil)
  (pss_one (ps_ret (pe_and (pe_callB (cr_all rfl) (by rfl) m_all (by decide +kernel) (pa_cons (pe_lc (own := [("name", 1)]) (g := (gName 1)) (tt := tYes) rfl nd (pi_seq (pv 0)) (blkOk_by (N := ["value", "name"]) (sc := defScope s_is_fields) (by decide +kernel)) (fun _ _ _ _ _ => (pg_name (i := 1) nd rfl (.inl rfl))) (fun _ _ _ _ _ => pts_nil) (fun _ _ _ _ _ => (C8.pe_c C_is_name hr (by decide) (by rfl) (pa_cons (pv 1) pa_nil)))) pa_nil)) (pe_one (pe_cmpR (og_eq hr.units) (pe_lenSetS rfl (by rfl) m_len (by rfl) m_set (pv 0)) (pe_callB cg_len (by rfl) m_len (by decide +kernel) (pa_cons (pv 0) pa_nil)) (nomark _))))))), (sat_is_fields h).2⟩
  exact cal_mk F G g fun _ _ _ _ _ _ us hl => match us, hl with | [_], _ => rfl
theorem mak_Schema_init {f : Addr} {fd : FuncData} (F : Fun K "__init__" "Schema.__init__" s_Schema_init f fd) (g : Mk K (cls_at K "Schema") f ∧ mg "Schema" = some (.ref (cls_at K "Schema"))) (C_is_fields : C8.Cal P w K mg base 2 "is_fields" (sp_is_fields K) []) (C_is_list : C8.Cal P w K mg base 20 "is_list" (sp_is_list K) []) (m_list : mg "list" = none) (m_enumerate : mg "enumerate" = none) (m_tuple : mg "tuple" = none) (g_MOST_LISTS : ∃ u, mg "MOST_LISTS" = some u ∧ RelV v_MOST_LISTS u) : MakR P w K mg base 21 "Schema" (cls_at K "Schema") (sp_Schema_init K) := by
  have nd := sc_Schema_init.nd
  obtain ⟨oc, od, kV, doc, pm, an, cdv, ct, osl, rfl, lk, hcode⟩ := F.ex
  have G : FnR P w K mg base CX0 (20 + 1) f (sp_Schema_init K) := by
    refine FnR.imp (StX.fn_star (ps := ["self", "fields"]) (pv := "lists") (sp := fun vs H Q E => vs.length = 3 ∧ t_Schema_init K { nx := fun _ H' => Q .non H', rt := Q } (vs.map some ++ List.replicate (6 - vs.length) none) H) lk hcode sc_Schema_init StX.cxUp_none ?_ fun A outer s H vs Q E hr h => ?_) fun vs H Q E h => sat_Schema_init h
    · exact StX.bind_star2 (B := fun l => bindArgs (PySem.W.fnOf "__init__" "Schema.__init__" (defArgs s_Schema_init) (defBody s_Schema_init) (defScope s_Schema_init) .none kV doc pm an cdv ct) ⟨l, []⟩) (by intros; rfl) (by intros; rfl)
    · obtain ⟨hl, h⟩ := h
      have hr := hr
      refine ⟨_, (PSs.nox (pss_cons (ps_if (pt_not (pt_val (C8.pe_c C_is_fields hr (by decide) (by rfl) (pa_cons (pv 1) pa_nil)))) (pss_one ps_no) pss_nil)
  (pss_cons (ps_set (i := 3) nd rfl (.inl rfl) (pe_callTy cg_list (by rfl) m_list (by decide +kernel) (pa_cons (pv 1) pa_nil)))
  (pss_cons (ps_for PassesOwn.never rfl (pi_enumT (by rfl) m_enumerate (pa_cons (pv 2) pa_nil)) (pg_tup rfl (pgs_cons (pg_name (i := 4) nd rfl (.inl rfl)) (pgs_cons (pg_name (i := 5) nd rfl (.inl rfl)) pgs_nil))) (pss_cons (ps_if (PW.pt (pw_or (pt_cmpR og_ge (pv 4) (C8.pe_gc (by rfl) g_MOST_LISTS) (nomark _)) (pw_or1 (pt_not (pt_val (C8.pe_c C_is_list hr (by decide) (by rfl) (pa_cons (pv 5) (pa_cons (pv 3) pa_nil)))))))) (pss_one ps_no) pss_nil)
  (pss_one (ps_expr (pe_bm PySem.F.plainAttrs_list PySem.F.slot_list_append PySem.F.type_list_append mt_append (pv 3) (pa_cons (pe_ix ix_seq (pv 5) pe_int (fun _ _ => rfl)) pa_nil))))))
  (pss_cons (ps_fld (pv 0) (pe_callTy cg_tuple (by rfl) m_tuple (by decide +kernel) (pa_cons (pv 1) pa_nil)) rfl)
  (pss_one (ps_fld (pv 0) (pe_callTy cg_tuple (by rfl) m_tuple (by decide +kernel) (pa_cons (pv 2) pa_nil)) rfl))))))), ?_⟩
      exact h
  exact ⟨f, g.1, G, g.2⟩
theorem met_Schema_eq {f : Addr} {fd : FuncData} (F : Fun K "__eq__" "Schema.__eq__" s_Schema_eq f fd) (g : Cls K (cls_at K "Schema") ∧ Meth K (cls_at K "Schema") "__eq__" f) (m_isinstance : mg "isinstance" = none) (g_Schema : ∃ u, mg "Schema" = some u ∧ RelV (.ref (cls_at K "Schema")) u) : ∀ n, C8.Met P w K mg base (0 + 3 * n) (cls_at K "Schema") "__eq__" (sp_Schema_eq K n) []
  | 0 => ⟨f, fd, ["self", "other"], [], g.1, g.2, fnOk_never (never_Schema_eq K), F.binds fun _ _ _ _ _ _ us hl => match us, hl with | [_, _], _ => rfl, .nil⟩
  | n + 1 => by
    have M_Schema_eq := met_Schema_eq F g m_isinstance g_Schema n
    have G : FnOk P w K mg base CX0 ((0 + 3 * n + 2) + 1) f fd ["self", "other"] (sp_Schema_eq K (n + 1)) := by
      refine F.ok sc_Schema_eq (fun vs H Q E h => (sat_Schema_eq (n := n) h).1) (fun cdv A outer s H vs Q E hr h => ?_)
      have nd := sc_Schema_eq.nd
      exact ⟨_, (pss_one (ps_ret (pe_and (pe_callB cg_isi (by rfl) m_isinstance (by decide +kernel) (pa_cons (pv 1) (pa_cons (C8.pe_gc (by rfl) g_Schema) pa_nil))) (pe_and (pe_cmpR (og_eq hr.units) (pe_fld (pv 0) rfl) (pe_fld (pv 1) rfl) (nomark _)) (pe_one (pe_cmpR (op_eqP M_Schema_eq hr (by omega)) (pe_fld (pv 0) rfl) (pe_fld (pv 1) rfl) (nomark _))))))), (sat_Schema_eq (n := n) h).2⟩
    exact ⟨f, fd, _, [], g.1, g.2, G, F.binds (fun _ _ _ _ _ _ us hl => match us, hl with | [_, _], _ => rfl), .nil⟩
theorem met_Schema_repr {f : Addr} {fd : FuncData} (F : Fun K "__repr__" "Schema.__repr__" s_Schema_repr f fd) (g : Cls K (cls_at K "Schema") ∧ Meth K (cls_at K "Schema") "__repr__" f) (M_Schema_text : C8.Met P w K mg base 9 (cls_at K "Schema") "text" (sp_Schema_text K 9) []) : C8.Met P w K mg base 10 (cls_at K "Schema") "__repr__" (sp_Schema_repr K) [] := by
  have G : FnOk P w K mg base CX0 (9 + 1) f fd ["self"] (sp_Schema_repr K) := by
    refine F.ok sc_Schema_repr (fun vs H Q E h => (sat_Schema_repr h).1) (fun cdv A outer s H vs Q E hr h => ?_)
    have nd := sc_Schema_repr.nd
    exact ⟨_, (pss_one (ps_ret (pe_joined (PJ.cons pe_str (PJ.cons (pe_fmt (C8.pe_mt0 M_Schema_text hr (by decide) (pv 0))) (PJ.cons pe_str PJ.nil)))))), (sat_Schema_repr h).2⟩
  exact ⟨f, fd, _, [], g.1, g.2, G, F.binds (fun _ _ _ _ _ _ us hl => match us, hl with | [_], _ => rfl), .nil⟩
theorem prp_Schema_depth {f : Addr} {fd : FuncData} (F : Fun K "depth" "Schema.depth" s_Schema_depth f fd) {p : Addr} (g : Cls K (cls_at K "Schema") ∧ PropOf K (cls_at K "Schema") "depth" p f) (m_max : mg "max" = none) : ∀ n, Prp P w K mg base (0 + 2 * n) (cls_at K "Schema") "depth" (sp_Schema_depth K n)
  | 0 => ⟨p, f, fd, ["self"], g.1, g.2, fnOk_never (never_Schema_depth K), F.binds fun _ _ _ _ _ _ us hl => match us, hl with | [_], _ => rfl⟩
  | n + 1 => by
    have P_Schema_depth := prp_Schema_depth F g m_max n
    have G : FnOk P w K mg base CX0 ((0 + 2 * n + 1) + 1) f fd ["self"] (sp_Schema_depth K (n + 1)) := by
      refine F.ok sc_Schema_depth (fun vs H Q E h => (sat_Schema_depth (n := n) h).1) (fun cdv A outer s H vs Q E hr h => ?_)
      have nd := sc_Schema_depth.nd
      exact ⟨_, (pss_one (ps_ret (pe_op og_add pe_int (pe_bK (ck_max rfl hr.units) (by rfl) m_max (by decide +kernel) (pa_cons (pe_lc (own := [("name", 1), ("inner", 2)]) (g := (gTup K 2 (gCons (gName 1) (gCons (gName 2) gNil)))) (tt := tYes) rfl nd (pi_tup (pe_fld (pv 0) rfl)) (blkOk_by (N := ["self", "name", "inner"]) (sc := defScope s_Schema_depth) (by decide +kernel)) (fun _ _ _ _ _ => (pg_tup rfl (pgs_cons (pg_name (i := 1) nd rfl (.inl rfl)) (pgs_cons (pg_name (i := 2) nd rfl (.inl rfl)) pgs_nil)))) (fun _ _ _ _ _ => pts_nil) (fun _ _ _ _ _ => (pe_pr P_Schema_depth hr (by omega) (pv 2) (by rfl)))) pa_nil) (pk_cons pe_int pk_nil))))), (sat_Schema_depth (n := n) h).2⟩
    exact ⟨p, f, fd, _, g.1, g.2, G, F.binds (fun _ _ _ _ _ _ us hl => match us, hl with | [_], _ => rfl)⟩
theorem met_Schema_lists {f : Addr} {fd : FuncData} (F : Fun K "lists" "Schema.lists" s_Schema_lists f fd) (g : Cls K (cls_at K "Schema") ∧ Meth K (cls_at K "Schema") "lists" f) (m_list : mg "list" = none) : C8.Met P w K mg base 1 (cls_at K "Schema") "lists" (sp_Schema_lists K) [] := by
  have G : FnOk P w K mg base CX0 (0 + 1) f fd ["self"] (sp_Schema_lists K) := by
    refine F.ok sc_Schema_lists (fun vs H Q E h => (sat_Schema_lists h).1) (fun cdv A outer s H vs Q E hr h => ?_)
    have nd := sc_Schema_lists.nd
    exact ⟨_, (pss_one (ps_ret (pe_callTy cg_list (by rfl) m_list (by decide +kernel) (pa_cons (pe_fld (pv 0) rfl) pa_nil)))), (sat_Schema_lists h).2⟩
  exact ⟨f, fd, _, [], g.1, g.2, G, F.binds (fun _ _ _ _ _ _ us hl => match us, hl with | [_], _ => rfl), .nil⟩
theorem met_Schema_text {f : Addr} {fd : FuncData} (F : Fun K "text" "Schema.text" s_Schema_text f fd) (g : Cls K (cls_at K "Schema") ∧ Meth K (cls_at K "Schema") "text" f) (m_list : mg "list" = none) : ∀ n, C8.Met P w K mg base (0 + 1 * n) (cls_at K "Schema") "text" (sp_Schema_text K n) []
  | 0 => ⟨f, fd, ["self"], [], g.1, g.2, fnOk_never (never_Schema_text K), F.binds fun _ _ _ _ _ _ us hl => match us, hl with | [_], _ => rfl, .nil⟩
  | n + 1 => by
    have M_Schema_text := met_Schema_text F g m_list n
    have G : FnOk P w K mg base CX0 ((0 + 1 * n + 0) + 1) f fd ["self"] (sp_Schema_text K (n + 1)) := by
      refine F.ok sc_Schema_text (fun vs H Q E h => (sat_Schema_text (n := n) h).1) (fun cdv A outer s H vs Q E hr h => ?_)
      have nd := sc_Schema_text.nd
      exact ⟨_, (pss_one (ps_ret (pe_joinS (pe_op og_add (pe_callTy cg_list (by rfl) m_list (by decide +kernel) (pa_cons (pe_fld (pv 0) rfl) pa_nil)) (pe_lc (own := [("name", 1), ("inner", 2)]) (g := (gTup K 2 (gCons (gName 1) (gCons (gName 2) gNil)))) (tt := tYes) rfl nd (pi_tup (pe_fld (pv 0) rfl)) (blkOk_by (N := ["self", "name", "inner"]) (sc := defScope s_Schema_text) (by decide +kernel)) (fun _ _ _ _ _ => (pg_tup rfl (pgs_cons (pg_name (i := 1) nd rfl (.inl rfl)) (pgs_cons (pg_name (i := 2) nd rfl (.inl rfl)) pgs_nil)))) (fun _ _ _ _ _ => pts_nil) (fun _ _ _ _ _ => (pe_joined (PJ.cons (pe_fmt (pv 1)) (PJ.cons pe_str (PJ.cons (pe_fmt (C8.pe_mt0 M_Schema_text hr (by omega) (pv 2))) (PJ.cons pe_str PJ.nil))))))))))), (sat_Schema_text (n := n) h).2⟩
    exact ⟨f, fd, _, [], g.1, g.2, G, F.binds (fun _ _ _ _ _ _ us hl => match us, hl with | [_], _ => rfl), .nil⟩
theorem sta_Schema_read {f : Addr} {fd : FuncData} (F : Fun K "read" "Schema.read" s_Schema_read f fd) {p : Addr} {rest : List Value} (g : ClX.CRead K (cls_at K "Schema") (.type "type") ∧ PySem.W.findCls K (.ref (cls_at K "Schema")) (.type "type") "read" = some (.get (.builtin "staticmethod.__get__") (.ref p) .none (.ref (cls_at K "Schema"))) ∧ PySem.W.recIn K p "staticmethod" = some (.ref f :: rest)) (C_read_schema : C8.Cal P w K mg base 41 "read_schema" (sp_read_schema K) []) : Sta P w K mg base 42 (cls_at K "Schema") "read" (sp_Schema_read K) := by
  have G : FnOk P w K mg base CX0 (41 + 1) f fd ["text"] (sp_Schema_read K) := by
    refine F.ok sc_Schema_read (fun vs H Q E h => (sat_Schema_read h).1) (fun cdv A outer s H vs Q E hr h => ?_)
    have nd := sc_Schema_read.nd
    exact ⟨_, (pss_one (ps_ret (C8.pe_c C_read_schema hr (by decide) (by rfl) (pa_cons (pv 0) pa_nil)))), (sat_Schema_read h).2⟩
  exact ⟨_, p, f, g.1, g.2.1, ⟨rest, g.2.2⟩, F.kp, (FnR.imp (G.raw (F.binds (fun _ _ _ _ _ _ us hl => match us, hl with | [_], _ => rfl)) .nil) fun vs H Q E h => by rw [List.append_nil]; exact h)⟩
theorem cal_is_list {f : Addr} {fd : FuncData} (F : Fun K "is_list" "is_list" s_is_list f fd) (g : mg "is_list" = some (.ref f)) (C_is_name : C8.Cal P w K mg base 1 "is_name" (sp_is_name K) []) (P_Schema_depth : Prp P w K mg base 18 (cls_at K "Schema") "depth" (sp_Schema_depth K 9)) (m_isinstance : mg "isinstance" = none) (m_tuple : mg "tuple" = none) (m_len : mg "len" = none) (m_bool : mg "bool" = none) (g_MOST_LEVELS : ∃ u, mg "MOST_LEVELS" = some u ∧ RelV v_MOST_LEVELS u) (g_Schema : ∃ u, mg "Schema" = some u ∧ RelV (.ref (cls_at K "Schema")) u) : C8.Cal P w K mg base 20 "is_list" (sp_is_list K) [] := by
  have G : FnOk P w K mg base CX0 (19 + 1) f fd ["pair", "used"] (sp_is_list K) := by
    refine F.ok sc_is_list (fun vs H Q E h => (sat_is_list h).1) (fun cdv A outer s H vs Q E hr h => ?_)
    have nd := sc_is_list.nd
    exact ⟨_, (pss_cons (ps_if (PW.pt (pw_or (pt_not (pt_val (pe_callB cg_isi (by rfl) m_isinstance (by decide +kernel) (pa_cons (pv 0) (pa_cons (pe_bltn (v := .ty "tuple") (u := .type "tuple") (by rfl) m_tuple (by decide +kernel) rfl) pa_nil))))) (pw_or1 (pt_cmpR (og_ne hr.units) (pe_callB cg_len (by rfl) m_len (by decide +kernel) (pa_cons (pv 0) pa_nil)) pe_int (nomark _))))) (pss_one (ps_ret pe_bl)) pss_nil)
  (pss_cons (ps_if (PW.pt (pw_or (pt_not (pt_val (C8.pe_c C_is_name hr (by decide) (by rfl) (pa_cons (pe_ix ix_seq (pv 0) pe_int (fun _ _ => rfl)) pa_nil)))) (pw_or (pt_cmpR og_in (pe_ix ix_seq (pv 0) pe_int (fun _ _ => rfl)) (pv 1) (by rfl)) (pw_or1 (pt_not (pt_val (pe_callB cg_isi (by rfl) m_isinstance (by decide +kernel) (pa_cons (pe_ix ix_seq (pv 0) pe_int (fun _ _ => rfl)) (pa_cons (C8.pe_gc (by rfl) g_Schema) pa_nil))))))))) (pss_one (ps_ret pe_bl)) pss_nil)
  (pss_one (ps_ret (pe_callTy cg_bool (by rfl) m_bool (by decide +kernel) (pa_cons (pe_cmpR (og_lt hr.units) (pe_pr P_Schema_depth hr (by decide) (pe_ix ix_seq (pv 0) pe_int (fun _ _ => rfl)) (by rfl)) (C8.pe_gc (by rfl) g_MOST_LEVELS) (nomark _)) pa_nil)))))), (sat_is_list h).2⟩
  exact cal_mk F G g fun _ _ _ _ _ _ us hl => match us, hl with | [_, _], _ => rfl
theorem cal_read_part {n : Nat} {f : Addr} {fd : FuncData} (F : Fun K "read_part" "read_part" s_read_part f fd) (g : mg "read_part" = some (.ref f)) (C_read_level : C8.Cal P w K mg base (22 + 2 * n) "read_level" (sp_read_level K n) []) : C8.Cal P w K mg base (22 + 2 * n + 1) "read_part" (sp_read_part K n) [] := by
  have G : FnOk P w K mg base CX0 ((22 + 2 * n) + 1) f fd ["text", "deep"] (sp_read_part K n) := by
    refine F.ok sc_read_part (fun vs H Q E h => (sat_read_part (n := n) h).1) (fun cdv A outer s H vs Q E hr h => ?_)
    have nd := sc_read_part.nd
    exact ⟨_, (pss_cons (ps_asg (pe_bm PySem.F.plainAttrs_str PySem.F.slot_str_partition PySem.F.type_str_partition mt_partition (pv 0) (pa_cons pe_str pa_nil)) (pg_tup rfl (pgs_cons (pg_name (i := 2) nd rfl (.inl rfl)) (pgs_cons (pg_name (i := 3) nd rfl (.inl rfl)) (pgs_cons (pg_name (i := 4) nd rfl (.inl rfl)) pgs_nil)))))
  (pss_one (ps_ret (pe_tup (pa_cons (pv 2) (pa_cons (C8.pe_c C_read_level hr (by omega) (by rfl) (pa_cons (pe_slice og_sl (pv 4) po_none (po_some (pe_un un_neg pe_int))) (pa_cons (pe_op og_add (pv 1) pe_int) pa_nil))) pa_nil)))))), (sat_read_part (n := n) h).2⟩
  exact cal_mk F G g fun _ _ _ _ _ _ us hl => match us, hl with | [_, _], _ => rfl
theorem cal_read_level {f : Addr} {fd : FuncData} (F : Fun K "read_level" "read_level" s_read_level f fd) (g : mg "read_level" = some (.ref f)) {f0 : Addr} {fd0 : FuncData} (F0 : Fun K "read_part" "read_part" s_read_part f0 fd0) (g0 : mg "read_part" = some (.ref f0)) (C_top_words : C8.Cal P w K mg base 1 "top_words" (sp_top_words K) []) (N_Schema : MakR P w K mg base 21 "Schema" (cls_at K "Schema") (sp_Schema_init K)) (g_MOST_LEVELS : ∃ u, mg "MOST_LEVELS" = some u ∧ RelV v_MOST_LEVELS u) : ∀ n, C8.Cal P w K mg base (22 + 2 * n) "read_level" (sp_read_level K n) []
  | 0 => ⟨f, fd, ["text", "deep"], [], fnOk_never (never_read_level K), g, F.kp, F.binds fun _ _ _ _ _ _ us hl => match us, hl with | [_, _], _ => rfl, .nil⟩
  | n + 1 => by
    have C_read_level := cal_read_level F g F0 g0 C_top_words N_Schema g_MOST_LEVELS n
    have C_read_part := cal_read_part (n := n) F0 g0 C_read_level
    have G : FnOk P w K mg base CX0 ((22 + 2 * n + 1) + 1) f fd ["text", "deep"] (sp_read_level K (n + 1)) := by
      refine F.ok sc_read_level (fun vs H Q E h => (sat_read_level (n := n) h).1) (fun cdv A outer s H vs Q E hr h => ?_)
      have nd := sc_read_level.nd
      exact ⟨_, (pss_cons (ps_if (pt_cmpR og_gt (pv 1) (C8.pe_gc (by rfl) g_MOST_LEVELS) (nomark _)) (pss_one ps_no) pss_nil)
    (pss_cons (ps_set (i := 2) nd rfl (.inl rfl) (C8.pe_c C_top_words hr (by omega) (by rfl) (pa_cons (pv 0) pa_nil)))
    (pss_cons (ps_setLc (i := 3) (own := [("word", 5)]) (g := (gName 5)) (tt := (tTest (tOp (gNotIn K) (tC (.str "(")) (tVar 5)))) rfl nd rfl rfl (sw_true rfl rfl rfl (by decide +kernel)) (pi_list (pv 2)) (blkOk_by (N := ["text", "deep", "words", "fields", "lists", "word"]) (sc := defScope s_read_level) (by decide +kernel)) (fun _ _ _ _ _ => (pg_name (i := 5) nd rfl (.inl rfl))) (fun _ _ _ _ _ => (pts_one (pt_cmpR og_notIn pe_str (pv 5) (by rfl)))) (fun _ _ _ _ _ => (pv 5)))
    (pss_cons (ps_setLc (i := 4) (own := [("word", 5)]) (g := (gName 5)) (tt := (tTest (tOp (gIn K) (tC (.str "(")) (tVar 5)))) rfl nd rfl rfl (sw_true rfl rfl rfl (by decide +kernel)) (pi_list (pv 2)) (blkOk_by (N := ["text", "deep", "words", "fields", "lists", "word"]) (sc := defScope s_read_level) (by decide +kernel)) (fun _ _ _ _ _ => (pg_name (i := 5) nd rfl (.inl rfl))) (fun _ _ _ _ _ => (pts_one (pt_cmpR og_in pe_str (pv 5) (by rfl)))) (fun _ _ _ _ _ => (C8.pe_c C_read_part hr (by omega) (by rfl) (pa_cons (pv 5) (pa_cons (pv 1) pa_nil)))))
    (pss_one (ps_ret (pe_mkS N_Schema hr (by omega) (by rfl) (pa_cons (pv 3) (StX.pa_star (pv 4) pa_nil))))))))), (sat_read_level (n := n) h).2⟩
    exact cal_mk F G g fun _ _ _ _ _ _ us hl => match us, hl with | [_, _], _ => rfl
theorem cal_read_schema {f : Addr} {fd : FuncData} (F : Fun K "read_schema" "read_schema" s_read_schema f fd) (g : mg "read_schema" = some (.ref f)) (C_read_level : C8.Cal P w K mg base 40 "read_level" (sp_read_level K 9) []) (M_Schema_text : C8.Met P w K mg base 9 (cls_at K "Schema") "text" (sp_Schema_text K 9) []) (m_isinstance : mg "isinstance" = none) (m_str : mg "str" = none) : C8.Cal P w K mg base 41 "read_schema" (sp_read_schema K) [] := by
  have G : FnOk P w K mg base CX0 (40 + 1) f fd ["text"] (sp_read_schema K) := by
    refine F.ok sc_read_schema (fun vs H Q E h => (sat_read_schema h).1) (fun cdv A outer s H vs Q E hr h => ?_)
    have nd := sc_read_schema.nd
    exact ⟨_, (pss_cons (ps_if (pt_not (pt_val (pe_callB cg_isi (by rfl) m_isinstance (by decide +kernel) (pa_cons (pv 0) (pa_cons (pe_bltn (v := .ty "str") (u := .type "str") (by rfl) m_str (by decide +kernel) rfl) pa_nil))))) (pss_one ps_no) pss_nil)
  (pss_cons (ps_try_thru0 (pss_one (ps_set (i := 1) nd rfl (.inl rfl) (C8.pe_c C_read_level hr (by decide) (by rfl) (pa_cons (pv 0) (pa_cons pe_int pa_nil))))))
  (pss_cons (ps_if (pt_cmpR (og_ne hr.units) (C8.pe_mt0 M_Schema_text hr (by decide) (pv 1)) (pv 0) (nomark _)) (pss_one ps_no) pss_nil)
  (pss_one (ps_ret (pv 1)))))), (sat_read_schema h).2⟩
  exact cal_mk F G g fun _ _ _ _ _ _ us hl => match us, hl with | [_], _ => rfl
theorem cal_open {f : Addr} {fd : FuncData} (F : Fun K "_law_open" "_law_open" s_open f fd) (g : mg "_law_open" = some (.ref f)) (m_list : mg "list" = none) : C8.Cal P w K mg base 1 "_law_open" (sp_open K) [] := by
  have G : FnOk P w K mg base CX0 (0 + 1) f fd ["_law_script"] (sp_open K) := by
    refine F.ok sc_open (fun vs H Q E h => (sat_open h).1) (fun cdv A outer s H vs Q E hr h => ?_)
    have nd := sc_open.nd
    exact ⟨_, (pss_one (ps_ret (pe_lst (pa_cons (pe_callTy cg_list (by rfl) m_list (by decide +kernel) (pa_cons (pe_slice og_sl (pv 0) po_none (po_some pe_int)) pa_nil)) (pa_cons pe_int (pa_cons pe_int (pa_cons pe_int (pa_cons pe_int pa_nil)))))))), (sat_open h).2⟩
  exact cal_mk F G g fun _ _ _ _ _ _ us hl => match us, hl with | [_], _ => rfl
theorem cal_draw {f : Addr} {fd : FuncData} (F : Fun K "_law_draw" "_law_draw" s_draw f fd) (g : mg "_law_draw" = some (.ref f)) (m_len : mg "len" = none) (m_int : mg "int" = none) : C8.Cal P w K mg base 1 "_law_draw" (sp_draw K) [] := by
  have G : FnOk P w K mg base CX0 (0 + 1) f fd ["_law_bag", "_law_many"] (sp_draw K) := by
    refine F.ok sc_draw (fun vs H Q E h => (sat_draw h).1) (fun cdv A outer s H vs Q E hr h => ?_)
    have nd := sc_draw.nd
    exact ⟨_, (pss_cons (ps_if (PW.pt (pw_and (pt_cmpR (og_eq hr.units) (pe_ix ix_seq (pv 0) pe_int (fun _ _ => rfl)) pe_int (nomark _)) (pw_and1 (pt_cmpR (og_lt hr.units) (pe_ix ix_seq (pv 0) pe_int (fun _ _ => rfl)) (pe_callB cg_len (by rfl) m_len (by decide +kernel) (pa_cons (pe_ix ix_seq (pv 0) pe_int (fun _ _ => rfl)) pa_nil)) (nomark _))))) (pss_cons (ps_set (i := 2) nd rfl (.inl rfl) (pe_ix ix_seq (pe_ix ix_seq (pv 0) pe_int (fun _ _ => rfl)) (pe_ix ix_seq (pv 0) pe_int (fun _ _ => rfl)) (fun _ _ => rfl)))
  (pss_cons (ps_asg (pe_op og_add (pe_ix ix_seq (pv 0) pe_int (fun _ _ => rfl)) pe_int) (pg_sub (pv 0) pe_int set_list))
  (pss_cons (ps_asg (pe_ifExp (pt_cmpR og_ge (pv 2) (pe_op og_pow pe_int pe_int) (nomark _)) (pv 2) pe_int) (pg_sub (pv 0) pe_int set_list))
  (pss_one (ps_asg (pe_op og_mod (pe_callTy cg_int (by rfl) m_int (by decide +kernel) (pa_cons (pe_op og_add (pe_op og_add (pe_op og_mul (pe_ix ix_seq (pv 0) pe_int (fun _ _ => rfl)) pe_int) (pe_op og_mul (pe_op og_mod (pe_callTy cg_int (by rfl) m_int (by decide +kernel) (pa_cons (pv 2) pa_nil)) pe_int) pe_int)) pe_int) pa_nil)) pe_int) (pg_sub (pv 0) pe_int set_list)))))) pss_nil)
  (pss_cons (ps_if (pt_cmpR og_gt (pe_ix ix_seq (pv 0) pe_int (fun _ _ => rfl)) pe_int (nomark _)) (pss_cons (ps_set (i := 3) nd rfl (.inl rfl) (pe_op og_mod (pe_callTy cg_int (by rfl) m_int (by decide +kernel) (pa_cons (pe_ix ix_seq (pv 0) pe_int (fun _ _ => rfl)) pa_nil)) (pv 1)))
  (pss_cons (ps_asg (pe_op og_fdiv (pe_ix ix_seq (pv 0) pe_int (fun _ _ => rfl)) (pv 1)) (pg_sub (pv 0) pe_int set_list))
  (pss_one (ps_ret (pv 3))))) pss_nil)
  (pss_cons (ps_asg (pe_op og_add (pe_ix ix_seq (pv 0) pe_int (fun _ _ => rfl)) pe_int) (pg_sub (pv 0) pe_int set_list))
  (pss_cons (ps_set (i := 4) nd rfl (.inl rfl) (pe_ix ix_seq (pv 0) pe_int (fun _ _ => rfl)))
  (pss_cons (ps_asg (pe_op og_mod (pe_callTy cg_int (by rfl) m_int (by decide +kernel) (pa_cons (pe_op og_add (pe_op og_add (pe_op og_add (pe_op og_mul (pv 4) (pv 4)) (pe_op og_mul pe_int (pv 4))) (pe_op og_mul pe_int (pe_ix ix_seq (pv 0) pe_int (fun _ _ => rfl)))) pe_int) pa_nil)) pe_int) (pg_sub (pv 0) pe_int set_list))
  (pss_one (ps_ret (pe_op og_mod (pe_callTy cg_int (by rfl) m_int (by decide +kernel) (pa_cons (pe_op og_add (pe_op og_add (pe_op og_fdiv (pe_ix ix_seq (pv 0) pe_int (fun _ _ => rfl)) pe_int) (pe_op og_mul (pv 4) pe_int)) (pe_ix ix_seq (pv 0) pe_int (fun _ _ => rfl))) pa_nil)) (pv 1))))))))), (sat_draw h).2⟩
  exact cal_mk F G g fun _ _ _ _ _ _ us hl => match us, hl with | [_, _], _ => rfl
theorem cal_ofS {f : Addr} {fd : FuncData} (F : Fun K "_law_of" "_law_of" s_ofS f fd) (g : mg "_law_of" = some (.ref f)) (C__law_draw : C8.Cal P w K mg base 1 "_law_draw" (sp_draw K) []) (m_len : mg "len" = none) : C8.Cal P w K mg base 2 "_law_of" (sp_ofS K) [] := by
  have G : FnOk P w K mg base CX0 (1 + 1) f fd ["_law_bag", "_law_things"] (sp_ofS K) := by
    refine F.ok sc_ofS (fun vs H Q E h => (sat_ofS h).1) (fun cdv A outer s H vs Q E hr h => ?_)
    have nd := sc_ofS.nd
    exact ⟨_, (pss_one (ps_ret (pe_ix ix_seq (pv 1) (C8.pe_c C__law_draw hr (by decide) (by rfl) (pa_cons (pv 0) (pa_cons (pe_callB cg_len (by rfl) m_len (by decide +kernel) (pa_cons (pv 1) pa_nil)) pa_nil))) (fun _ _ => rfl)))), (sat_ofS h).2⟩
  exact cal_mk F G g fun _ _ _ _ _ _ us hl => match us, hl with | [_, _], _ => rfl
theorem cal_like {f : Addr} {fd : FuncData} (F : Fun K "_law_like" "_law_like" s_like f fd) (g : mg "_law_like" = some (.ref f)) (m_isinstance : mg "isinstance" = none) (m_tuple : mg "tuple" = none) (m_list : mg "list" = none) (m_len : mg "len" = none) (m_all : mg "all" = none) (m_zip : mg "zip" = none) (m_bool : mg "bool" = none) (m_int : mg "int" = none) (m_str : mg "str" = none) : ∀ n, C8.Cal P w K mg base (0 + 1 * n) "_law_like" (sp_like K n) []
  | 0 => ⟨f, fd, ["_law_found", "_law_due"], [], fnOk_never (never_like K), g, F.kp, F.binds fun _ _ _ _ _ _ us hl => match us, hl with | [_, _], _ => rfl, .nil⟩
  | n + 1 => by
    have C__law_like := cal_like F g m_isinstance m_tuple m_list m_len m_all m_zip m_bool m_int m_str n
    have G : FnOk P w K mg base CX0 ((0 + 1 * n + 0) + 1) f fd ["_law_found", "_law_due"] (sp_like K (n + 1)) := by
      refine F.ok sc_like (fun vs H Q E h => (sat_like (n := n) h).1) (fun cdv A outer s H vs Q E hr h => ?_)
      have nd := sc_like.nd
      exact ⟨_, (pss_cons (ps_if (pt_val (pe_callB cg_isi (by rfl) m_isinstance (by decide +kernel) (pa_cons (pv 1) (pa_cons (pe_tup (pa_cons (pe_bltn (v := .ty "list") (u := .type "list") (by rfl) m_list (by decide +kernel) rfl) (pa_cons (pe_bltn (v := .ty "tuple") (u := .type "tuple") (by rfl) m_tuple (by decide +kernel) rfl) pa_nil))) pa_nil)))) (pss_cons (ps_if (PW.pt (pw_or (pt_cmpR (og_ne hr.units) (pe_callB cg_isi (by rfl) m_isinstance (by decide +kernel) (pa_cons (pv 0) (pa_cons (pe_bltn (v := .ty "list") (u := .type "list") (by rfl) m_list (by decide +kernel) rfl) pa_nil))) (pe_callB cg_isi (by rfl) m_isinstance (by decide +kernel) (pa_cons (pv 1) (pa_cons (pe_bltn (v := .ty "list") (u := .type "list") (by rfl) m_list (by decide +kernel) rfl) pa_nil))) (nomark _)) (pw_or1 (pt_cmpR (og_ne hr.units) (pe_callB cg_isi (by rfl) m_isinstance (by decide +kernel) (pa_cons (pv 0) (pa_cons (pe_bltn (v := .ty "tuple") (u := .type "tuple") (by rfl) m_tuple (by decide +kernel) rfl) pa_nil))) (pe_callB cg_isi (by rfl) m_isinstance (by decide +kernel) (pa_cons (pv 1) (pa_cons (pe_bltn (v := .ty "tuple") (u := .type "tuple") (by rfl) m_tuple (by decide +kernel) rfl) pa_nil))) (nomark _))))) (pss_one (ps_ret pe_bl)) pss_nil)
    (pss_one (ps_ret (pe_and (pe_cmpR (og_eq hr.units) (pe_callB cg_len (by rfl) m_len (by decide +kernel) (pa_cons (pv 0) pa_nil)) (pe_callB cg_len (by rfl) m_len (by decide +kernel) (pa_cons (pv 1) pa_nil)) (nomark _)) (pe_one (pe_callB (cr_all rfl) (by rfl) m_all (by decide +kernel) (pa_cons (pe_lc (own := [("_law_one", 2), ("_law_other", 3)]) (g := (gTup K 2 (gCons (gName 2) (gCons (gName 3) gNil)))) (tt := tYes) rfl nd (pi_zipA (by rfl) m_zip (pa_cons (pv 0) (pa_cons (pv 1) pa_nil))) (blkOk_by (N := ["_law_found", "_law_due", "_law_one", "_law_other"]) (sc := defScope s_like) (by decide +kernel)) (fun _ _ _ _ _ => (pg_tup rfl (pgs_cons (pg_name (i := 2) nd rfl (.inl rfl)) (pgs_cons (pg_name (i := 3) nd rfl (.inl rfl)) pgs_nil)))) (fun _ _ _ _ _ => pts_nil) (fun _ _ _ _ _ => (C8.pe_c C__law_like hr (by omega) (by rfl) (pa_cons (pv 2) (pa_cons (pv 3) pa_nil))))) pa_nil))))))) pss_nil)
    (pss_cons (ps_if (PW.pt (pw_or (pt_cmpR op_isN1 (pv 1) pe_non (nomark _)) (pw_or1 (pt_cmpR op_isN1 (pv 0) pe_non (nomark _))))) (pss_one (ps_ret (pe_and (pe_cmpR op_isN1 (pv 1) pe_non (nomark _)) (pe_one (pe_cmpR op_isN1 (pv 0) pe_non (nomark _)))))) pss_nil)
    (pss_cons (ps_if (PW.pt (pw_or (pt_cmpR (og_ne hr.units) (pe_callB cg_isi (by rfl) m_isinstance (by decide +kernel) (pa_cons (pv 0) (pa_cons (pe_bltn (v := .ty "bool") (u := .type "bool") (by rfl) m_bool (by decide +kernel) rfl) pa_nil))) (pe_callB cg_isi (by rfl) m_isinstance (by decide +kernel) (pa_cons (pv 1) (pa_cons (pe_bltn (v := .ty "bool") (u := .type "bool") (by rfl) m_bool (by decide +kernel) rfl) pa_nil))) (nomark _)) (pw_or1 (pt_cmpR (og_ne hr.units) (pe_callB cg_isi (by rfl) m_isinstance (by decide +kernel) (pa_cons (pv 0) (pa_cons (pe_bltn (v := .ty "int") (u := .type "int") (by rfl) m_int (by decide +kernel) rfl) pa_nil))) (pe_callB cg_isi (by rfl) m_isinstance (by decide +kernel) (pa_cons (pv 1) (pa_cons (pe_bltn (v := .ty "int") (u := .type "int") (by rfl) m_int (by decide +kernel) rfl) pa_nil))) (nomark _))))) (pss_one (ps_ret pe_bl)) pss_nil)
    (pss_one (ps_ret (pe_and (pe_cmpR (og_eq hr.units) (pe_callB cg_isi (by rfl) m_isinstance (by decide +kernel) (pa_cons (pv 0) (pa_cons (pe_bltn (v := .ty "str") (u := .type "str") (by rfl) m_str (by decide +kernel) rfl) pa_nil))) (pe_callB cg_isi (by rfl) m_isinstance (by decide +kernel) (pa_cons (pv 1) (pa_cons (pe_bltn (v := .ty "str") (u := .type "str") (by rfl) m_str (by decide +kernel) rfl) pa_nil))) (nomark _)) (pe_one (pe_cmpR (og_eq hr.units) (pv 0) (pv 1) (nomark _))))))))), (sat_like (n := n) h).2⟩
    exact cal_mk F G g fun _ _ _ _ _ _ us hl => match us, hl with | [_, _], _ => rfl
theorem cal_names {f : Addr} {fd : FuncData} (F : Fun K "_law_names" "_law_names" s_names f fd) (g : mg "_law_names" = some (.ref f)) (C__law_draw : C8.Cal P w K mg base 1 "_law_draw" (sp_draw K) []) (C__law_of : C8.Cal P w K mg base 2 "_law_of" (sp_ofS K) []) (m_list : mg "list" = none) (m_range : mg "range" = none) (m_len : mg "len" = none) : C8.Cal P w K mg base 3 "_law_names" (sp_names K) [] := by
  have G : FnOk P w K mg base CX0 (2 + 1) f fd ["_law_bag", "_law_many"] (sp_names K) := by
    refine F.ok sc_names (fun vs H Q E h => (sat_names h).1) (fun cdv A outer s H vs Q E hr h => ?_)
    have nd := sc_names.nd
    exact ⟨_, (pss_cons (ps_par (i := 2) (j := 3) (by rfl) nd rfl rfl (by decide) rfl rfl (pa_cons (pe_callTy (cg_listS rfl) (by rfl) m_list (by decide +kernel) (pa_cons pe_str pa_nil)) (pa_cons (pe_lst pa_nil) pa_nil)) (by rfl))
  (pss_cons (ps_set (i := 4) nd rfl (.inl rfl) (pe_join0 (pe_lc (own := [("_law_k", 7)]) (g := (gName 7)) (tt := tYes) rfl nd (pi_range1 (by rfl) m_range (pa_cons (C8.pe_c C__law_draw hr (by decide) (by rfl) (pa_cons (pv 0) (pa_cons pe_int pa_nil))) pa_nil)) (blkOk_by (N := ["_law_bag", "_law_many", "_law_marks", "_law_found", "_law_stem", "_law_at", "_law_near", "_law_k", "_law_mark", "_law_tail", "_law_j"]) (sc := defScope s_names) (by decide +kernel)) (fun _ _ _ _ _ => (pg_name (i := 7) nd rfl (.inl rfl))) (fun _ _ _ _ _ => pts_nil) (fun _ _ _ _ _ => (C8.pe_c C__law_of hr (by decide) (by rfl) (pa_cons (pv 0) (pa_cons pe_str pa_nil)))))))
  (pss_cons (ps_par (i := 5) (j := 6) (by rfl) nd rfl rfl (by decide) rfl rfl (pa_cons (C8.pe_c C__law_draw hr (by decide) (by rfl) (pa_cons (pv 0) (pa_cons (pe_op og_add (pe_callB cg_len (by rfl) m_len (by decide +kernel) (pa_cons (pv 4) pa_nil)) pe_int) pa_nil))) (pa_cons (pe_cmpR (og_eq hr.units) (C8.pe_c C__law_draw hr (by decide) (by rfl) (pa_cons (pv 0) (pa_cons pe_int pa_nil))) pe_int (nomark _)) pa_nil)) (by rfl))
  (pss_cons (ps_for PassesOwn.never rfl (pi_range1 (by rfl) m_range (pa_cons (pv 1) pa_nil)) (pg_name (i := 7) nd rfl (.inl rfl)) (pss_cons (ps_set (i := 8) nd rfl (.inl rfl) (pe_bm PySem.F.plainAttrs_list PySem.F.slot_list_pop PySem.F.type_list_pop mt_popAt (pv 2) (pa_cons (C8.pe_c C__law_draw hr (by decide) (by rfl) (pa_cons (pv 0) (pa_cons (pe_callB cg_len (by rfl) m_len (by decide +kernel) (pa_cons (pv 2) pa_nil)) pa_nil))) pa_nil)))
  (pss_cons (ps_set (i := 9) nd rfl (.inl rfl) (pe_join0 (pe_lc (own := [("_law_j", 10)]) (g := (gName 10)) (tt := tYes) rfl nd (pi_range1 (by rfl) m_range (pa_cons (C8.pe_c C__law_draw hr (by decide) (by rfl) (pa_cons (pv 0) (pa_cons pe_int pa_nil))) pa_nil)) (blkOk_by (N := ["_law_bag", "_law_many", "_law_marks", "_law_found", "_law_stem", "_law_at", "_law_near", "_law_k", "_law_mark", "_law_tail", "_law_j"]) (sc := defScope s_names) (by decide +kernel)) (fun _ _ _ _ _ => (pg_name (i := 10) nd rfl (.inl rfl))) (fun _ _ _ _ _ => pts_nil) (fun _ _ _ _ _ => (C8.pe_c C__law_of hr (by decide) (by rfl) (pa_cons (pv 0) (pa_cons pe_str pa_nil)))))))
  (pss_one (ps_expr (pe_bm PySem.F.plainAttrs_list PySem.F.slot_list_append PySem.F.type_list_append mt_append (pv 3) (pa_cons (pe_ifExp (pt_truth (pv 6) (fun _ => rfl)) (pe_op og_add (pe_op og_add (pe_slice og_sl (pv 4) po_none (po_some (pv 5))) (pv 8)) (pe_slice og_sl (pv 4) (po_some (pv 5)) po_none)) (pe_op og_add (pv 8) (pv 9))) pa_nil)))))))
  (pss_one (ps_ret (pv 3))))))), (sat_names h).2⟩
  exact cal_mk F G g fun _ _ _ _ _ _ us hl => match us, hl with | [_, _], _ => rfl
theorem cal_level {f : Addr} {fd : FuncData} (F : Fun K "_law_level" "_law_level" s_level f fd) (g : mg "_law_level" = some (.ref f)) (C__law_names : C8.Cal P w K mg base 3 "_law_names" (sp_names K) []) (C__law_draw : C8.Cal P w K mg base 1 "_law_draw" (sp_draw K) []) (m_len : mg "len" = none) (m_zip : mg "zip" = none) : C8.Cal P w K mg base 4 "_law_level" (sp_level K) [] := by
  have G : FnOk P w K mg base CX0 (3 + 1) f fd ["_law_bag", "_law_fields_z", "_law_inner"] (sp_level K) := by
    refine F.ok sc_level (fun vs H Q E h => (sat_level h).1) (fun cdv A outer s H vs Q E hr h => ?_)
    have nd := sc_level.nd
    exact ⟨_, (pss_cons (ps_set (i := 3) nd rfl (.inl rfl) (C8.pe_c C__law_names hr (by decide) (by rfl) (pa_cons (pv 0) (pa_cons (pe_op og_add (pe_op og_add pe_int (C8.pe_c C__law_draw hr (by decide) (by rfl) (pa_cons (pv 0) (pa_cons (pv 1) pa_nil)))) (pe_callB cg_len (by rfl) m_len (by decide +kernel) (pa_cons (pv 2) pa_nil))) pa_nil))))
  (pss_cons (ps_set (i := 4) nd rfl (.inl rfl) (pe_op og_sub (pe_callB cg_len (by rfl) m_len (by decide +kernel) (pa_cons (pv 3) pa_nil)) (pe_callB cg_len (by rfl) m_len (by decide +kernel) (pa_cons (pv 2) pa_nil))))
  (pss_one (ps_ret (pe_lst (pa_cons (pe_slice og_sl (pv 3) po_none (po_some (pv 4))) (pa_cons (pe_lc (own := [("_law_name", 5), ("_law_level_here", 6)]) (g := (gTup K 2 (gCons (gName 5) (gCons (gName 6) gNil)))) (tt := tYes) rfl nd (pi_zipA (by rfl) m_zip (pa_cons (pe_slice og_sl (pv 3) (po_some (pv 4)) po_none) (pa_cons (pv 2) pa_nil))) (blkOk_by (N := ["_law_bag", "_law_fields_z", "_law_inner", "_law_names_here", "_law_many", "_law_name", "_law_level_here"]) (sc := defScope s_level) (by decide +kernel)) (fun _ _ _ _ _ => (pg_tup rfl (pgs_cons (pg_name (i := 5) nd rfl (.inl rfl)) (pgs_cons (pg_name (i := 6) nd rfl (.inl rfl)) pgs_nil)))) (fun _ _ _ _ _ => pts_nil) (fun _ _ _ _ _ => (pe_tup (pa_cons (pv 5) (pa_cons (pv 6) pa_nil))))) pa_nil))))))), (sat_level h).2⟩
  exact cal_mk F G g fun _ _ _ _ _ _ us hl => match us, hl with | [_, _, _], _ => rfl
theorem cal_some_level {f : Addr} {fd : FuncData} (F : Fun K "_law_some_level" "_law_some_level" s_some_level f fd) (g : mg "_law_some_level" = some (.ref f)) (C__law_level : C8.Cal P w K mg base 4 "_law_level" (sp_level K) []) : C8.Cal P w K mg base 5 "_law_some_level" (sp_some_level K) [] := by
  have G : FnOk P w K mg base CX0 (4 + 1) f fd ["_law_bag", "_law_shape", "_law_fields_z"] (sp_some_level K) := by
    refine F.ok sc_some_level (fun vs H Q E h => (sat_some_level h).1) (fun cdv A outer s H vs Q E hr h => ?_)
    have nd := sc_some_level.nd
    exact ⟨_, (pss_cons (ps_set (i := 3) nd rfl (.inl rfl) (C8.pe_c C__law_level hr (by decide) (by rfl) (pa_cons (pv 0) (pa_cons (pv 2) (pa_cons (pe_lst (pa_cons (C8.pe_c C__law_level hr (by decide) (by rfl) (pa_cons (pv 0) (pa_cons (pv 2) (pa_cons (pe_lst pa_nil) pa_nil)))) pa_nil)) pa_nil)))))
  (pss_cons (ps_set (i := 4) nd rfl (.inl rfl) (C8.pe_c C__law_level hr (by decide) (by rfl) (pa_cons (pv 0) (pa_cons (pv 2) (pa_cons (pe_lst pa_nil) pa_nil)))))
  (pss_cons (ps_set (i := 5) nd rfl (.inl rfl) (pe_ix ix_seq (pe_lst (pa_cons (pe_lst pa_nil) (pa_cons (pe_lst (pa_cons (pv 4) pa_nil)) (pa_cons (pe_lst (pa_cons (pv 3) pa_nil)) (pa_cons (pe_lst (pa_cons (pv 4) (pa_cons (C8.pe_c C__law_level hr (by decide) (by rfl) (pa_cons (pv 0) (pa_cons (pv 2) (pa_cons (pe_lst pa_nil) pa_nil)))) pa_nil))) (pa_cons (pe_lst (pa_cons (pv 3) (pa_cons (pv 4) pa_nil))) pa_nil)))))) (pv 1) (fun _ _ => rfl)))
  (pss_one (ps_ret (C8.pe_c C__law_level hr (by decide) (by rfl) (pa_cons (pv 0) (pa_cons (pv 2) (pa_cons (pv 5) pa_nil))))))))), (sat_some_level h).2⟩
  exact cal_mk F G g fun _ _ _ _ _ _ us hl => match us, hl with | [_, _, _], _ => rfl
theorem cal_level_text {f : Addr} {fd : FuncData} (F : Fun K "_law_level_text" "_law_level_text" s_level_text f fd) (g : mg "_law_level_text" = some (.ref f)) (m_list : mg "list" = none) : ∀ n, C8.Cal P w K mg base (0 + 1 * n) "_law_level_text" (sp_level_text K n) []
  | 0 => ⟨f, fd, ["_law_level_here"], [], fnOk_never (never_level_text K), g, F.kp, F.binds fun _ _ _ _ _ _ us hl => match us, hl with | [_], _ => rfl, .nil⟩
  | n + 1 => by
    have C__law_level_text := cal_level_text F g m_list n
    have G : FnOk P w K mg base CX0 ((0 + 1 * n + 0) + 1) f fd ["_law_level_here"] (sp_level_text K (n + 1)) := by
      refine F.ok sc_level_text (fun vs H Q E h => (sat_level_text (n := n) h).1) (fun cdv A outer s H vs Q E hr h => ?_)
      have nd := sc_level_text.nd
      exact ⟨_, (pss_cons (ps_set (i := 1) nd rfl (.inl rfl) (pe_op og_add (pe_callTy cg_list (by rfl) m_list (by decide +kernel) (pa_cons (pe_ix ix_seq (pv 0) pe_int (fun _ _ => rfl)) pa_nil)) (pe_lc (own := [("_law_name", 2), ("_law_inner", 3)]) (g := (gTup K 2 (gCons (gName 2) (gCons (gName 3) gNil)))) (tt := tYes) rfl nd (pi_list (pe_ix ix_seq (pv 0) pe_int (fun _ _ => rfl))) (blkOk_by (N := ["_law_level_here", "_law_words", "_law_name", "_law_inner"]) (sc := defScope s_level_text) (by decide +kernel)) (fun _ _ _ _ _ => (pg_tup rfl (pgs_cons (pg_name (i := 2) nd rfl (.inl rfl)) (pgs_cons (pg_name (i := 3) nd rfl (.inl rfl)) pgs_nil)))) (fun _ _ _ _ _ => pts_nil) (fun _ _ _ _ _ => (pe_op og_add (pe_op og_add (pe_op og_add (pv 2) pe_str) (C8.pe_c C__law_level_text hr (by omega) (by rfl) (pa_cons (pv 3) pa_nil))) pe_str)))))
    (pss_one (ps_ret (pe_joinS (pv 1))))), (sat_level_text (n := n) h).2⟩
    exact cal_mk F G g fun _ _ _ _ _ _ us hl => match us, hl with | [_], _ => rfl
theorem cal_schema {f : Addr} {fd : FuncData} (F : Fun K "_law_schema" "_law_schema" s_schema f fd) (g : mg "_law_schema" = some (.ref f)) (C__law_level_text : C8.Cal P w K mg base 9 "_law_level_text" (sp_level_text K 9) []) (S_Schema_read : Sta P w K mg base 42 (cls_at K "Schema") "read" (sp_Schema_read K)) (g_Schema : ∃ u, mg "Schema" = some u ∧ RelV (.ref (cls_at K "Schema")) u) : C8.Cal P w K mg base 43 "_law_schema" (sp_schema K) [] := by
  have G : FnOk P w K mg base CX0 (42 + 1) f fd ["_law_level_here"] (sp_schema K) := by
    refine F.ok sc_schema (fun vs H Q E h => (sat_schema h).1) (fun cdv A outer s H vs Q E hr h => ?_)
    have nd := sc_schema.nd
    exact ⟨_, (pss_one (ps_ret (pe_st S_Schema_read hr (by decide) (C8.pe_gc (by rfl) g_Schema) (pa_cons (C8.pe_c C__law_level_text hr (by decide) (by rfl) (pa_cons (pv 0) pa_nil)) pa_nil)))), (sat_schema h).2⟩
  exact cal_mk F G g fun _ _ _ _ _ _ us hl => match us, hl with | [_], _ => rfl
theorem cal_made {f : Addr} {fd : FuncData} (F : Fun K "_law_made" "_law_made" s_made f fd) (g : mg "_law_made" = some (.ref f)) (N_Schema : MakR P w K mg base 21 "Schema" (cls_at K "Schema") (sp_Schema_init K)) (m_len : mg "len" = none) (m_list : mg "list" = none) (m_tuple : mg "tuple" = none) : ∀ n, C8.Cal P w K mg base (22 + 1 * n) "_law_made" (sp_made K n) []
  | 0 => ⟨f, fd, ["_law_level_here"], [], fnOk_never (never_made K), g, F.kp, F.binds fun _ _ _ _ _ _ us hl => match us, hl with | [_], _ => rfl, .nil⟩
  | n + 1 => by
    have C__law_made := cal_made F g N_Schema m_len m_list m_tuple n
    have G : FnOk P w K mg base CX0 ((22 + 1 * n + 0) + 1) f fd ["_law_level_here"] (sp_made K (n + 1)) := by
      refine F.ok sc_made (fun vs H Q E h => (sat_made (n := n) h).1) (fun cdv A outer s H vs Q E hr h => ?_)
      have nd := sc_made.nd
      exact ⟨_, (pss_cons (ps_setLc (i := 1) (own := [("_law_name", 2), ("_law_inner", 3)]) (g := (gTup K 2 (gCons (gName 2) (gCons (gName 3) gNil)))) (tt := tYes) rfl nd rfl rfl (sw_true rfl rfl rfl (by decide +kernel)) (pi_list (pe_ix ix_seq (pv 0) pe_int (fun _ _ => rfl))) (blkOk_by (N := ["_law_level_here", "_law_some", "_law_name", "_law_inner"]) (sc := defScope s_made) (by decide +kernel)) (fun _ _ _ _ _ => (pg_tup rfl (pgs_cons (pg_name (i := 2) nd rfl (.inl rfl)) (pgs_cons (pg_name (i := 3) nd rfl (.inl rfl)) pgs_nil)))) (fun _ _ _ _ _ => pts_nil) (fun _ _ _ _ _ => (pe_tup (pa_cons (pv 2) (pa_cons (C8.pe_c C__law_made hr (by omega) (by rfl) (pa_cons (pv 3) pa_nil)) pa_nil)))))
    (pss_cons (ps_if (pt_cmpR (og_eq hr.units) (pe_callB cg_len (by rfl) m_len (by decide +kernel) (pa_cons (pv 1) pa_nil)) pe_int (nomark _)) (pss_one (ps_ret (pe_mkR N_Schema hr (by omega) (by rfl) (pa_cons (pe_callTy cg_list (by rfl) m_list (by decide +kernel) (pa_cons (pe_ix ix_seq (pv 0) pe_int (fun _ _ => rfl)) pa_nil)) pa_nil)))) pss_nil)
    (pss_one (ps_ret (pe_ifExp (pt_cmpR (og_eq hr.units) (pe_callB cg_len (by rfl) m_len (by decide +kernel) (pa_cons (pv 1) pa_nil)) pe_int (nomark _)) (pe_mkR N_Schema hr (by omega) (by rfl) (pa_cons (pe_callTy cg_list (by rfl) m_list (by decide +kernel) (pa_cons (pe_ix ix_seq (pv 0) pe_int (fun _ _ => rfl)) pa_nil)) (pa_cons (pe_ix ix_seq (pv 1) pe_int (fun _ _ => rfl)) pa_nil))) (pe_mkR N_Schema hr (by omega) (by rfl) (pa_cons (pe_callTy cg_tuple (by rfl) m_tuple (by decide +kernel) (pa_cons (pe_ix ix_seq (pv 0) pe_int (fun _ _ => rfl)) pa_nil)) (pa_cons (pe_ix ix_seq (pv 1) pe_int (fun _ _ => rfl)) (pa_cons (pe_ix ix_seq (pv 1) pe_int (fun _ _ => rfl)) pa_nil))))))))), (sat_made (n := n) h).2⟩
    exact cal_mk F G g fun _ _ _ _ _ _ us hl => match us, hl with | [_], _ => rfl
theorem cal_depth {f : Addr} {fd : FuncData} (F : Fun K "_law_depth" "_law_depth" s_depth f fd) (g : mg "_law_depth" = some (.ref f)) (m_max : mg "max" = none) : ∀ n, C8.Cal P w K mg base (0 + 1 * n) "_law_depth" (sp_depth K n) []
  | 0 => ⟨f, fd, ["_law_level_here"], [], fnOk_never (never_depth K), g, F.kp, F.binds fun _ _ _ _ _ _ us hl => match us, hl with | [_], _ => rfl, .nil⟩
  | n + 1 => by
    have C__law_depth := cal_depth F g m_max n
    have G : FnOk P w K mg base CX0 ((0 + 1 * n + 0) + 1) f fd ["_law_level_here"] (sp_depth K (n + 1)) := by
      refine F.ok sc_depth (fun vs H Q E h => (sat_depth (n := n) h).1) (fun cdv A outer s H vs Q E hr h => ?_)
      have nd := sc_depth.nd
      exact ⟨_, (pss_one (ps_ret (pe_op og_add pe_int (pe_callB (cr_max rfl) (by rfl) m_max (by decide +kernel) (pa_cons (pe_op og_add (pe_lst (pa_cons pe_int pa_nil)) (pe_lc (own := [("_law_name", 1), ("_law_inner", 2)]) (g := (gTup K 2 (gCons (gName 1) (gCons (gName 2) gNil)))) (tt := tYes) rfl nd (pi_list (pe_ix ix_seq (pv 0) pe_int (fun _ _ => rfl))) (blkOk_by (N := ["_law_level_here", "_law_name", "_law_inner"]) (sc := defScope s_depth) (by decide +kernel)) (fun _ _ _ _ _ => (pg_tup rfl (pgs_cons (pg_name (i := 1) nd rfl (.inl rfl)) (pgs_cons (pg_name (i := 2) nd rfl (.inl rfl)) pgs_nil)))) (fun _ _ _ _ _ => pts_nil) (fun _ _ _ _ _ => (C8.pe_c C__law_depth hr (by omega) (by rfl) (pa_cons (pv 2) pa_nil))))) pa_nil))))), (sat_depth (n := n) h).2⟩
    exact cal_mk F G g fun _ _ _ _ _ _ us hl => match us, hl with | [_], _ => rfl
theorem cal_others {f : Addr} {fd : FuncData} (F : Fun K "_law_others" "_law_others" s_others f fd) (g : mg "_law_others" = some (.ref f)) (m_len : mg "len" = none) : C8.Cal P w K mg base 1 "_law_others" (sp_others K) [] := by
  have G : FnOk P w K mg base CX0 (0 + 1) f fd ["_law_level_here"] (sp_others K) := by
    refine F.ok sc_others (fun vs H Q E h => (sat_others h).1) (fun cdv A outer s H vs Q E hr h => ?_)
    have nd := sc_others.nd
    exact ⟨_, (pss_cons (ps_set (i := 1) nd rfl (.inl rfl) (pe_lst (pa_cons (pe_lst (pa_cons (pe_op op_catS (pe_ix ix_seq (pv 0) pe_int (fun _ _ => rfl)) (pe_lst (pa_cons pe_str pa_nil))) (pa_cons (pe_ix ix_seq (pv 0) pe_int (fun _ _ => rfl)) pa_nil))) (pa_cons (pe_lst (pa_cons (pe_op op_catS (pe_lst (pa_cons pe_str pa_nil)) (pe_slice og_sl (pe_ix ix_seq (pv 0) pe_int (fun _ _ => rfl)) (po_some pe_int) po_none)) (pa_cons (pe_ix ix_seq (pv 0) pe_int (fun _ _ => rfl)) pa_nil))) pa_nil))))
  (pss_cons (ps_if (pt_cmpR og_gt (pe_callB cg_len (by rfl) m_len (by decide +kernel) (pa_cons (pe_ix ix_seq (pv 0) pe_int (fun _ _ => rfl)) pa_nil)) pe_int (nomark _)) (pss_one (ps_set (i := 1) nd rfl (.inl rfl) (pe_op op_catS (pv 1) (pe_lst (pa_cons (pe_lst (pa_cons (pe_revL (pe_ix ix_seq (pv 0) pe_int (fun _ _ => rfl))) (pa_cons (pe_ix ix_seq (pv 0) pe_int (fun _ _ => rfl)) pa_nil))) (pa_cons (pe_lst (pa_cons (pe_slice og_sl (pe_ix ix_seq (pv 0) pe_int (fun _ _ => rfl)) (po_some pe_int) po_none) (pa_cons (pe_ix ix_seq (pv 0) pe_int (fun _ _ => rfl)) pa_nil))) pa_nil)))))) pss_nil)
  (pss_cons (ps_if (pt_cmpR (og_ne hr.units) (pe_ix ix_seq (pv 0) pe_int (fun _ _ => rfl)) (pe_lst pa_nil) (nomark _)) (pss_cons (ps_asg (pe_ix ix_seq (pe_ix ix_seq (pv 0) pe_int (fun _ _ => rfl)) pe_int (fun _ _ => rfl)) (pg_tup rfl (pgs_cons (pg_name (i := 2) nd rfl (.inl rfl)) (pgs_cons (pg_name (i := 3) nd rfl (.inl rfl)) pgs_nil))))
  (pss_cons (ps_set (i := 1) nd rfl (.inl rfl) (pe_op op_catS (pv 1) (pe_lst (pa_cons (pe_lst (pa_cons (pe_ix ix_seq (pv 0) pe_int (fun _ _ => rfl)) (pa_cons (pe_slice og_sl (pe_ix ix_seq (pv 0) pe_int (fun _ _ => rfl)) (po_some pe_int) po_none) pa_nil))) (pa_cons (pe_lst (pa_cons (pe_ix ix_seq (pv 0) pe_int (fun _ _ => rfl)) (pa_cons (pe_op op_catS (pe_lst (pa_cons (pe_tup (pa_cons pe_str (pa_cons (pv 3) pa_nil))) pa_nil)) (pe_slice og_sl (pe_ix ix_seq (pv 0) pe_int (fun _ _ => rfl)) (po_some pe_int) po_none)) pa_nil))) pa_nil)))))
  (pss_one (ps_expr (pe_bm PySem.F.plainAttrs_list PySem.F.slot_list_append PySem.F.type_list_append mt_append (pv 1) (pa_cons (pe_lst (pa_cons (pe_ix ix_seq (pv 0) pe_int (fun _ _ => rfl)) (pa_cons (pe_op op_catS (pe_lst (pa_cons (pe_tup (pa_cons (pv 2) (pa_cons (pe_lst (pa_cons (pe_op op_catS (pe_op op_catS (pe_slice og_sl (pe_ix ix_seq (pv 3) pe_int (fun _ _ => rfl)) po_none (po_some pe_int)) (pe_lst (pa_cons pe_str pa_nil))) (pe_slice og_sl (pe_ix ix_seq (pv 3) pe_int (fun _ _ => rfl)) (po_some pe_int) po_none)) (pa_cons (pe_ix ix_seq (pv 3) pe_int (fun _ _ => rfl)) pa_nil))) pa_nil))) pa_nil)) (pe_slice og_sl (pe_ix ix_seq (pv 0) pe_int (fun _ _ => rfl)) (po_some pe_int) po_none)) pa_nil))) pa_nil)))))) pss_nil)
  (pss_cons (ps_if (pt_cmpR og_gt (pe_callB cg_len (by rfl) m_len (by decide +kernel) (pa_cons (pe_ix ix_seq (pv 0) pe_int (fun _ _ => rfl)) pa_nil)) pe_int (nomark _)) (pss_one (ps_expr (pe_bm PySem.F.plainAttrs_list PySem.F.slot_list_append PySem.F.type_list_append mt_append (pv 1) (pa_cons (pe_lst (pa_cons (pe_ix ix_seq (pv 0) pe_int (fun _ _ => rfl)) (pa_cons (pe_revL (pe_ix ix_seq (pv 0) pe_int (fun _ _ => rfl))) pa_nil))) pa_nil)))) pss_nil)
  (pss_one (ps_ret (pe_lc (own := [("_law_one", 4)]) (g := (gName 4)) (tt := (tTest (tOp (gLt K) (tCB (gLen K) (tCons (tOp (rIx K) (tVar 4) (tC (.int 0))) tNil)) (tC (.int 4))))) rfl nd (pi_list (pv 1)) (blkOk_by (N := ["_law_level_here", "_law_found", "_law_name", "_law_inner", "_law_one"]) (sc := defScope s_others) (by decide +kernel)) (fun _ _ _ _ _ => (pg_name (i := 4) nd rfl (.inl rfl))) (fun _ _ _ _ _ => (pts_one (pt_cmpR (og_lt hr.units) (pe_callB cg_len (by rfl) m_len (by decide +kernel) (pa_cons (pe_ix ix_seq (pv 4) pe_int (fun _ _ => rfl)) pa_nil)) pe_int (nomark _)))) (fun _ _ _ _ _ => (pv 4))))))))), (sat_others h).2⟩
  exact cal_mk F G g fun _ _ _ _ _ _ us hl => match us, hl with | [_], _ => rfl
theorem ok_law {f : Addr} {fd : FuncData} (F : Fun K "law" "law" s_law f fd) (C__law_open : C8.Cal P w K mg base 1 "_law_open" (sp_open K) []) (C__law_some_level : C8.Cal P w K mg base 5 "_law_some_level" (sp_some_level K) []) (C__law_draw : C8.Cal P w K mg base 1 "_law_draw" (sp_draw K) []) (C__law_made : C8.Cal P w K mg base 31 "_law_made" (sp_made K 9) []) (C__law_like : C8.Cal P w K mg base 9 "_law_like" (sp_like K 9) []) (C__law_level_text : C8.Cal P w K mg base 9 "_law_level_text" (sp_level_text K 9) []) (C__law_depth : C8.Cal P w K mg base 9 "_law_depth" (sp_depth K 9) []) (C__law_schema : C8.Cal P w K mg base 43 "_law_schema" (sp_schema K) []) (C__law_others : C8.Cal P w K mg base 1 "_law_others" (sp_others K) []) (M_Schema_lists : C8.Met P w K mg base 1 (cls_at K "Schema") "lists" (sp_Schema_lists K) []) (M_Schema_repr : C8.Met P w K mg base 10 (cls_at K "Schema") "__repr__" (sp_Schema_repr K) []) (M_Schema_text : C8.Met P w K mg base 9 (cls_at K "Schema") "text" (sp_Schema_text K 9) []) (M_Schema_eq : C8.Met P w K mg base 27 (cls_at K "Schema") "__eq__" (sp_Schema_eq K 9) []) (P_Schema_depth : Prp P w K mg base 18 (cls_at K "Schema") "depth" (sp_Schema_depth K 9)) (N_Schema : MakR P w K mg base 21 "Schema" (cls_at K "Schema") (sp_Schema_init K)) (N1_Schema_fields : MakK1 P w K mg base 21 "Schema" (cls_at K "Schema") "fields" (sp_Schema_init K)) (m_range : mg "range" = none) (m_list : mg "list" = none) (m_tuple : mg "tuple" = none) (m_bool : mg "bool" = none) (m_repr : mg "repr" = none) (m_isinstance : mg "isinstance" = none) (m_all : mg "all" = none) (m_any : mg "any" = none) : FnOk P w K mg base CX0 44 f fd ["_law_script"] (sp_law K) := by
  have G : FnOk P w K mg base CX0 (43 + 1) f fd ["_law_script"] (sp_law K) := by
    refine F.ok sc_law (fun vs H Q E h => (sat_law h).1) (fun cdv A outer s H vs Q E hr h => ?_)
    have nd := sc_law.nd
    exact ⟨_, (pss_cons (ps_set (i := 1) nd rfl (.inl rfl) (C8.pe_c C__law_open hr (by decide) (by rfl) (pa_cons (pv 0) pa_nil)))
  (pss_cons (ps_for PassesOwn.never rfl (pi_range1 (by rfl) m_range (pa_cons pe_int pa_nil)) (pg_name (i := 2) nd rfl (.inl rfl)) (pss_cons (ps_set (i := 3) nd rfl (.inl rfl) (C8.pe_c C__law_some_level hr (by decide) (by rfl) (pa_cons (pv 1) (pa_cons (C8.pe_c C__law_draw hr (by decide) (by rfl) (pa_cons (pv 1) (pa_cons pe_int pa_nil))) (pa_cons pe_int pa_nil)))))
  (pss_cons (ps_set (i := 4) nd rfl (.inl rfl) (pe_callTy cg_list (by rfl) m_list (by decide +kernel) (pa_cons (pe_ix ix_seq (pv 3) pe_int (fun _ _ => rfl)) pa_nil)))
  (pss_cons (ps_asg (pe_tup (pa_cons (C8.pe_c C__law_made hr (by decide) (by rfl) (pa_cons (pv 3) pa_nil)) (pa_cons (pe_mkR N_Schema hr (by decide) (by rfl) (pa_cons (pv 4) pa_nil)) pa_nil))) (pg_tup rfl (pgs_cons (pg_name (i := 5) nd rfl (.inr rfl)) (pgs_cons (pg_name (i := 6) nd rfl (.inl rfl)) pgs_nil))))
  (pss_cons (ps_expr (pe_bm PySem.F.plainAttrs_list PySem.F.slot_list_append PySem.F.type_list_append mt_append (pv 4) (pa_cons pe_str pa_nil)))
  (pss_cons (ps_if (pt_not (pt_val (C8.pe_c C__law_like hr (by decide) (by rfl) (pa_cons (pe_fld (pv 6) rfl) (pa_cons (pe_callTy cg_tuple (by rfl) m_tuple (by decide +kernel) (pa_cons (pe_ix ix_seq (pv 3) pe_int (fun _ _ => rfl)) pa_nil)) pa_nil))))) (pss_one (ps_ret pe_bl)) pss_nil)
  (pss_cons (ps_set (i := 7) nd rfl (.inl rfl) (C8.pe_c C__law_level_text hr (by decide) (by rfl) (pa_cons (pv 3) pa_nil)))
  (pss_cons (ps_for PassesOwn.never rfl (pi_range1 (by rfl) m_range (pa_cons pe_int pa_nil)) (pg_name (i := 8) nd rfl (.inl rfl)) (pss_cons (ps_set (i := 9) nd rfl (.inl rfl) (C8.pe_mt0 M_Schema_lists hr (by decide) (pv 5)))
  (pss_cons (ps_set (i := 10) nd rfl (.inl rfl) (pe_lst (pa_cons (pe_fld (pv 5) rfl) (pa_cons (pe_lc (own := [("_law_name", 14), ("_law_inner", 15)]) (g := (gTup K 2 (gCons (gName 14) (gCons (gName 15) gNil)))) (tt := tYes) rfl nd (pi_list (pv 9)) (blkOk_by (N := ["_law_script", "_law_bag", "_law_turn", "_law_level_here", "_law_mine", "_law_schema_here", "_law_twin", "_law_text", "_law_again", "_law_told", "_law_found", "_law_due", "_law_one", "_law_two", "_law_name", "_law_inner", "_law_pair", "_law_other"]) (sc := defScope s_law) (by decide +kernel)) (fun _ _ _ _ _ => (pg_tup rfl (pgs_cons (pg_name (i := 14) nd rfl (.inl rfl)) (pgs_cons (pg_name (i := 15) nd rfl (.inl rfl)) pgs_nil)))) (fun _ _ _ _ _ => pts_nil) (fun _ _ _ _ _ => (pv 14))) (pa_cons (pe_lc (own := [("_law_name", 14), ("_law_inner", 15)]) (g := (gTup K 2 (gCons (gName 14) (gCons (gName 15) gNil)))) (tt := tYes) rfl nd (pi_list (pv 9)) (blkOk_by (N := ["_law_script", "_law_bag", "_law_turn", "_law_level_here", "_law_mine", "_law_schema_here", "_law_twin", "_law_text", "_law_again", "_law_told", "_law_found", "_law_due", "_law_one", "_law_two", "_law_name", "_law_inner", "_law_pair", "_law_other"]) (sc := defScope s_law) (by decide +kernel)) (fun _ _ _ _ _ => (pg_tup rfl (pgs_cons (pg_name (i := 14) nd rfl (.inl rfl)) (pgs_cons (pg_name (i := 15) nd rfl (.inl rfl)) pgs_nil)))) (fun _ _ _ _ _ => pts_nil) (fun _ _ _ _ _ => (C8.pe_mt0 M_Schema_text hr (by decide) (pv 15)))) (pa_cons (pe_pr P_Schema_depth hr (by decide) (pv 5) (by rfl)) (pa_cons (C8.pe_mt0 M_Schema_text hr (by decide) (pv 5)) (pa_cons (pe_callB (cr_reprO M_Schema_repr hr (by decide)) (by rfl) m_repr (by decide +kernel) (pa_cons (pv 5) pa_nil)) (pa_cons (pe_callTy (cg_boolO NK_Schema.bo NK_Schema.le) (by rfl) m_bool (by decide +kernel) (pa_cons (pv 5) pa_nil)) pa_nil)))))))))
  (pss_cons (ps_set (i := 11) nd rfl (.inl rfl) (pe_lst (pa_cons (pe_callTy cg_tuple (by rfl) m_tuple (by decide +kernel) (pa_cons (pe_ix ix_seq (pv 3) pe_int (fun _ _ => rfl)) pa_nil)) (pa_cons (pe_lc (own := [("_law_name", 14), ("_law_inner", 15)]) (g := (gTup K 2 (gCons (gName 14) (gCons (gName 15) gNil)))) (tt := tYes) rfl nd (pi_list (pe_ix ix_seq (pv 3) pe_int (fun _ _ => rfl))) (blkOk_by (N := ["_law_script", "_law_bag", "_law_turn", "_law_level_here", "_law_mine", "_law_schema_here", "_law_twin", "_law_text", "_law_again", "_law_told", "_law_found", "_law_due", "_law_one", "_law_two", "_law_name", "_law_inner", "_law_pair", "_law_other"]) (sc := defScope s_law) (by decide +kernel)) (fun _ _ _ _ _ => (pg_tup rfl (pgs_cons (pg_name (i := 14) nd rfl (.inl rfl)) (pgs_cons (pg_name (i := 15) nd rfl (.inl rfl)) pgs_nil)))) (fun _ _ _ _ _ => pts_nil) (fun _ _ _ _ _ => (pv 14))) (pa_cons (pe_lc (own := [("_law_name", 14), ("_law_inner", 15)]) (g := (gTup K 2 (gCons (gName 14) (gCons (gName 15) gNil)))) (tt := tYes) rfl nd (pi_list (pe_ix ix_seq (pv 3) pe_int (fun _ _ => rfl))) (blkOk_by (N := ["_law_script", "_law_bag", "_law_turn", "_law_level_here", "_law_mine", "_law_schema_here", "_law_twin", "_law_text", "_law_again", "_law_told", "_law_found", "_law_due", "_law_one", "_law_two", "_law_name", "_law_inner", "_law_pair", "_law_other"]) (sc := defScope s_law) (by decide +kernel)) (fun _ _ _ _ _ => (pg_tup rfl (pgs_cons (pg_name (i := 14) nd rfl (.inl rfl)) (pgs_cons (pg_name (i := 15) nd rfl (.inl rfl)) pgs_nil)))) (fun _ _ _ _ _ => pts_nil) (fun _ _ _ _ _ => (C8.pe_c C__law_level_text hr (by decide) (by rfl) (pa_cons (pv 15) pa_nil)))) (pa_cons (C8.pe_c C__law_depth hr (by decide) (by rfl) (pa_cons (pv 3) pa_nil)) (pa_cons (pv 7) (pa_cons (pe_op og_add (pe_op og_add pe_str (pv 7)) pe_str) (pa_cons pe_bl pa_nil)))))))))
  (pss_cons (ps_if (PW.pt (pw_or (pt_not (pt_val (C8.pe_c C__law_like hr (by decide) (by rfl) (pa_cons (pv 10) (pa_cons (pv 11) pa_nil))))) (pw_or (pt_not (pt_val (pe_callB cg_isi (by rfl) m_isinstance (by decide +kernel) (pa_cons (pv 9) (pa_cons (pe_bltn (v := .ty "list") (u := .type "list") (by rfl) m_list (by decide +kernel) rfl) pa_nil))))) (pw_or1 (pt_not (pt_val (pe_callB (cr_all rfl) (by rfl) m_all (by decide +kernel) (pa_cons (pe_lc (own := [("_law_pair", 16)]) (g := (gName 16)) (tt := tYes) rfl nd (pi_list (pv 9)) (blkOk_by (N := ["_law_script", "_law_bag", "_law_turn", "_law_level_here", "_law_mine", "_law_schema_here", "_law_twin", "_law_text", "_law_again", "_law_told", "_law_found", "_law_due", "_law_one", "_law_two", "_law_name", "_law_inner", "_law_pair", "_law_other"]) (sc := defScope s_law) (by decide +kernel)) (fun _ _ _ _ _ => (pg_name (i := 16) nd rfl (.inl rfl))) (fun _ _ _ _ _ => pts_nil) (fun _ _ _ _ _ => (pe_callB cg_isi (by rfl) m_isinstance (by decide +kernel) (pa_cons (pv 16) (pa_cons (pe_bltn (v := .ty "tuple") (u := .type "tuple") (by rfl) m_tuple (by decide +kernel) rfl) pa_nil))))) pa_nil)))))))) (pss_one (ps_ret pe_bl)) pss_nil)
  (pss_one (ps_expr (pe_bm PySem.F.plainAttrs_list PySem.F.slot_list_append PySem.F.type_list_append mt_append (pv 9) (pa_cons pe_str pa_nil)))))))))
  (pss_cons (ps_if (PW.pt (pw_or (pt_cmpR (op_neO M_Schema_eq NK_Schema.ne SK_Schema.ins.hm hr (by decide)) (pv 5) (C8.pe_c C__law_made hr (by decide) (by rfl) (pa_cons (pv 3) pa_nil)) (nomark _)) (pw_or (pt_not (pt_cmpR (op_eqO M_Schema_eq hr (by decide)) (pv 5) (C8.pe_c C__law_schema hr (by decide) (by rfl) (pa_cons (pv 3) pa_nil)) (nomark _))) (pw_or (pt_cmpR (op_eqO M_Schema_eq hr (by decide)) (pv 5) (pv 7) (nomark _)) (pw_or1 (pt_cmpR (op_eqO M_Schema_eq hr (by decide)) (pv 5) pe_non (nomark _))))))) (pss_one (ps_ret pe_bl)) pss_nil)
  (pss_one (ps_if (pt_val (pe_callB (cr_any rfl) (by rfl) m_any (by decide +kernel) (pa_cons (pe_lc (own := [("_law_other", 17)]) (g := (gName 17)) (tt := tYes) rfl nd (pi_list (C8.pe_c C__law_others hr (by decide) (by rfl) (pa_cons (pv 3) pa_nil))) (blkOk_by (N := ["_law_script", "_law_bag", "_law_turn", "_law_level_here", "_law_mine", "_law_schema_here", "_law_twin", "_law_text", "_law_again", "_law_told", "_law_found", "_law_due", "_law_one", "_law_two", "_law_name", "_law_inner", "_law_pair", "_law_other"]) (sc := defScope s_law) (by decide +kernel)) (fun _ _ _ _ _ => (pg_name (i := 17) nd rfl (.inl rfl))) (fun _ _ _ _ _ => pts_nil) (fun _ _ _ _ _ => (pe_or (pe_cmpR (op_eqO M_Schema_eq hr (by decide)) (C8.pe_c C__law_made hr (by decide) (by rfl) (pa_cons (pv 17) pa_nil)) (pv 5) (nomark _)) (pe_one (pe_cmpR (op_eqO M_Schema_eq hr (by decide)) (pv 5) (C8.pe_c C__law_made hr (by decide) (by rfl) (pa_cons (pv 17) pa_nil)) (nomark _)))))) pa_nil))) (pss_one (ps_ret pe_bl)) pss_nil)))))))))))
  (pss_cons (ps_set (i := 12) nd rfl (.inl rfl) (pe_mkK1 N1_Schema_fields hr (by decide) (by rfl) (pk_cons (pe_tup (pa_cons pe_str (pa_cons pe_str (pa_cons pe_str pa_nil)))) pk_nil)))
  (pss_cons (ps_set (i := 13) nd rfl (.inl rfl) (pe_mkR N_Schema hr (by decide) (by rfl) (pa_cons (pe_tup (pa_cons pe_str pa_nil)) (pa_cons (pe_tup (pa_cons pe_str (pa_cons (pe_mkR N_Schema hr (by decide) (by rfl) (pa_cons (pe_tup (pa_cons pe_str (pa_cons pe_str pa_nil))) (pa_cons (pe_tup (pa_cons pe_str (pa_cons (pe_mkR N_Schema hr (by decide) (by rfl) (pa_cons (pe_tup (pa_cons pe_str pa_nil)) pa_nil)) pa_nil))) pa_nil))) pa_nil))) pa_nil))))
  (pss_one (ps_ret (C8.pe_c C__law_like hr (by decide) (by rfl) (pa_cons (pe_lst (pa_cons (pe_fld (pv 12) rfl) (pa_cons (pe_pr P_Schema_depth hr (by decide) (pv 12) (by rfl)) (pa_cons (pe_pr P_Schema_depth hr (by decide) (pv 13) (by rfl)) (pa_cons (C8.pe_mt0 M_Schema_text hr (by decide) (pv 13)) pa_nil))))) (pa_cons (pe_lst (pa_cons (pe_tup (pa_cons pe_str (pa_cons pe_str (pa_cons pe_str pa_nil)))) (pa_cons pe_int (pa_cons pe_int (pa_cons pe_str pa_nil))))) pa_nil))))))))), (sat_law h).2⟩
  exact G
theorem mak1_Schema_init_fields {f : Addr} {fd : FuncData} (F : Fun K "__init__" "Schema.__init__" s_Schema_init f fd) (g : Mk K (cls_at K "Schema") f ∧ mg "Schema" = some (.ref (cls_at K "Schema"))) (C_is_fields : C8.Cal P w K mg base 2 "is_fields" (sp_is_fields K) []) (C_is_list : C8.Cal P w K mg base 20 "is_list" (sp_is_list K) []) (m_list : mg "list" = none) (m_enumerate : mg "enumerate" = none) (m_tuple : mg "tuple" = none) (g_MOST_LISTS : ∃ u, mg "MOST_LISTS" = some u ∧ RelV v_MOST_LISTS u) : MakK1 P w K mg base 21 "Schema" (cls_at K "Schema") "fields" (sp_Schema_init K) := by
  have nd := sc_Schema_init.nd
  obtain ⟨oc, od, kV, doc, pm, an, cdv, ct, osl, rfl, lk, hcode⟩ := F.ex
  have G : FnK1 P w K mg base CX0 (20 + 1) f "fields" (sp_Schema_init K) := by
    refine FnK1.imp (fn_starK1 (self := "self") (kn := "fields") (pv := "lists") (sp := fun vs H Q E => vs.length = 3 ∧ t_Schema_init K { nx := fun _ H' => Q .non H', rt := Q } (vs.map some ++ List.replicate (6 - vs.length) none) H) lk hcode sc_Schema_init StX.cxUp_none ?_ fun A outer s H vs Q E hr h => ?_) fun vs H Q E h => sat_Schema_init h
    · intro a b; rfl
    · obtain ⟨hl, h⟩ := h
      have hr := hr
      refine ⟨_, (PSs.nox (pss_cons (ps_if (pt_not (pt_val (C8.pe_c C_is_fields hr (by decide) (by rfl) (pa_cons (pv 1) pa_nil)))) (pss_one ps_no) pss_nil)
  (pss_cons (ps_set (i := 3) nd rfl (.inl rfl) (pe_callTy cg_list (by rfl) m_list (by decide +kernel) (pa_cons (pv 1) pa_nil)))
  (pss_cons (ps_for PassesOwn.never rfl (pi_enumT (by rfl) m_enumerate (pa_cons (pv 2) pa_nil)) (pg_tup rfl (pgs_cons (pg_name (i := 4) nd rfl (.inl rfl)) (pgs_cons (pg_name (i := 5) nd rfl (.inl rfl)) pgs_nil))) (pss_cons (ps_if (PW.pt (pw_or (pt_cmpR og_ge (pv 4) (C8.pe_gc (by rfl) g_MOST_LISTS) (nomark _)) (pw_or1 (pt_not (pt_val (C8.pe_c C_is_list hr (by decide) (by rfl) (pa_cons (pv 5) (pa_cons (pv 3) pa_nil)))))))) (pss_one ps_no) pss_nil)
  (pss_one (ps_expr (pe_bm PySem.F.plainAttrs_list PySem.F.slot_list_append PySem.F.type_list_append mt_append (pv 3) (pa_cons (pe_ix ix_seq (pv 5) pe_int (fun _ _ => rfl)) pa_nil))))))
  (pss_cons (ps_fld (pv 0) (pe_callTy cg_tuple (by rfl) m_tuple (by decide +kernel) (pa_cons (pv 1) pa_nil)) rfl)
  (pss_one (ps_fld (pv 0) (pe_callTy cg_tuple (by rfl) m_tuple (by decide +kernel) (pa_cons (pv 2) pa_nil)) rfl))))))), ?_⟩
      exact h
  exact ⟨f, g.1, G, g.2⟩
end
/-! ### the end -/
theorem all_mk {l : PySem.W.OpenLaw} {w : World} {K : PySem.W.Frag} {h : Heap} {mg : Str → Option Value} {fa : Addr} (X : K.In h) (G : h.Ns mainGlobals mg) (hfa : mg "law" = some (.ref fa))
    {h_Schema : Addr}
    {f0 : Addr} {od0 an0 : Option Addr} {sl0 : Array (Option Value)} {oc0 kV0 dc0 pm0 cd0 ct0 : Value}
    {f1 : Addr} {od1 an1 : Option Addr} {sl1 : Array (Option Value)} {oc1 kV1 dc1 pm1 cd1 ct1 : Value}
    {f2 : Addr} {od2 an2 : Option Addr} {sl2 : Array (Option Value)} {oc2 kV2 dc2 pm2 cd2 ct2 : Value}
    {f3 : Addr} {od3 an3 : Option Addr} {sl3 : Array (Option Value)} {oc3 kV3 dc3 pm3 cd3 ct3 : Value}
    {f4 : Addr} {od4 an4 : Option Addr} {sl4 : Array (Option Value)} {oc4 kV4 dc4 pm4 cd4 ct4 : Value}
    {f5 : Addr} {od5 an5 : Option Addr} {sl5 : Array (Option Value)} {oc5 kV5 dc5 pm5 cd5 ct5 : Value}
    {f6 : Addr} {od6 an6 : Option Addr} {sl6 : Array (Option Value)} {oc6 kV6 dc6 pm6 cd6 ct6 : Value}
    {p6 : Addr} {r6 : List Value}
    {f7 : Addr} {od7 an7 : Option Addr} {sl7 : Array (Option Value)} {oc7 kV7 dc7 pm7 cd7 ct7 : Value}
    {f8 : Addr} {od8 an8 : Option Addr} {sl8 : Array (Option Value)} {oc8 kV8 dc8 pm8 cd8 ct8 : Value}
    {f9 : Addr} {od9 an9 : Option Addr} {sl9 : Array (Option Value)} {oc9 kV9 dc9 pm9 cd9 ct9 : Value}
    {p9 : Addr} {r9 : List Value}
    {f10 : Addr} {od10 an10 : Option Addr} {sl10 : Array (Option Value)} {oc10 kV10 dc10 pm10 cd10 ct10 : Value}
    {f11 : Addr} {od11 an11 : Option Addr} {sl11 : Array (Option Value)} {oc11 kV11 dc11 pm11 cd11 ct11 : Value}
    {f12 : Addr} {od12 an12 : Option Addr} {sl12 : Array (Option Value)} {oc12 kV12 dc12 pm12 cd12 ct12 : Value}
    {f13 : Addr} {od13 an13 : Option Addr} {sl13 : Array (Option Value)} {oc13 kV13 dc13 pm13 cd13 ct13 : Value}
    {f14 : Addr} {od14 an14 : Option Addr} {sl14 : Array (Option Value)} {oc14 kV14 dc14 pm14 cd14 ct14 : Value}
    {f15 : Addr} {od15 an15 : Option Addr} {sl15 : Array (Option Value)} {oc15 kV15 dc15 pm15 cd15 ct15 : Value}
    {f16 : Addr} {od16 an16 : Option Addr} {sl16 : Array (Option Value)} {oc16 kV16 dc16 pm16 cd16 ct16 : Value}
    {f17 : Addr} {od17 an17 : Option Addr} {sl17 : Array (Option Value)} {oc17 kV17 dc17 pm17 cd17 ct17 : Value}
    {f18 : Addr} {od18 an18 : Option Addr} {sl18 : Array (Option Value)} {oc18 kV18 dc18 pm18 cd18 ct18 : Value}
    {f19 : Addr} {od19 an19 : Option Addr} {sl19 : Array (Option Value)} {oc19 kV19 dc19 pm19 cd19 ct19 : Value}
    {f20 : Addr} {od20 an20 : Option Addr} {sl20 : Array (Option Value)} {oc20 kV20 dc20 pm20 cd20 ct20 : Value}
    {f21 : Addr} {od21 an21 : Option Addr} {sl21 : Array (Option Value)} {oc21 kV21 dc21 pm21 cd21 ct21 : Value}
    {f22 : Addr} {od22 an22 : Option Addr} {sl22 : Array (Option Value)} {oc22 kV22 dc22 pm22 cd22 ct22 : Value}
    {f23 : Addr} {od23 an23 : Option Addr} {sl23 : Array (Option Value)} {oc23 kV23 dc23 pm23 cd23 ct23 : Value}
    {f24 : Addr} {od24 an24 : Option Addr} {sl24 : Array (Option Value)} {oc24 kV24 dc24 pm24 cd24 ct24 : Value}
    {f25 : Addr} {od25 an25 : Option Addr} {sl25 : Array (Option Value)} {oc25 kV25 dc25 pm25 cd25 ct25 : Value}
    {f26 : Addr} {od26 an26 : Option Addr} {sl26 : Array (Option Value)} {oc26 kV26 dc26 pm26 cd26 ct26 : Value}
    {t_LETTERS : Tok}
    {t_MOST_FIELDS : Tok}
    {t_MOST_LETTERS : Tok}
    {t_MOST_LEVELS : Tok}
    {t_MOST_LISTS : Tok}
    {h_WORDS : Addr} {od_WORDS : Option Addr} {sl_WORDS : Array (Option Value)} {its_WORDS : Array Value} {n_WORDS : Nat}
    (aC_Schema : PySem.W.nsIn K mainGlobals "Schema" = some (some (.ref h_Schema)))
    (pg_Schema : PySem.W.plainGet K h_Schema Str.empty = true) (hd_Schema : PySem.W.hasDictIn K h_Schema = true) (po_Schema : PySem.W.plainOver K h_Schema = true) (sa_Schema : PySem.W.findIn K (.ref h_Schema) "__setattr__" = some (some (.builtin "object.__setattr__"))) (mk_Schema : PySem.W.makesIn K h_Schema = true) (kc_Schema : PySem.W.keepIn K (.ref h_Schema) = true)
    (ha_Schema : PySem.W.findIn K (.ref h_Schema) "__class__" = some (some (.builtin "object.__class__"))) (hn_Schema : PySem.W.specialIn K (.builtin "object.__class__") "__get__" = some (some (.builtin "getset_descriptor.__get__"))) (ht_Schema : PySem.W.takesIn K (.builtin "object.__class__") = some true) (hm_Schema : PySem.W.mroIn K h_Schema (.type "object") = some true)
    (n_Schema_fields : PySem.W.findIn K (.ref h_Schema) "fields" = some none)
    (n_Schema__lists : PySem.W.findIn K (.ref h_Schema) "_lists" = some none)
    (rd_Schema : PySem.W.readsIn K h_Schema (.type "type") = true) (ga_Schema : PySem.W.specialIn K (.ref h_Schema) "__getattribute__" = some (some (.builtin "type.__getattribute__")))
    (a0 : PySem.W.nsIn K mainGlobals "is_name" = some (some (.ref f0))) (l0 : K.lookup f0 = some ⟨oc0, od0, .func (PySem.W.fnOf "is_name" "is_name" (defArgs s_is_name) (defBody s_is_name) (defScope s_is_name) .none kV0 dc0 pm0 an0 cd0 ct0), sl0⟩) (c0 : PySem.W.codeIn K cd0 "is_name" = true) (k0 : PySem.W.keepIn K (.ref f0) = true)
    (a1 : PySem.W.nsIn K mainGlobals "top_words" = some (some (.ref f1))) (l1 : K.lookup f1 = some ⟨oc1, od1, .func (PySem.W.fnOf "top_words" "top_words" (defArgs s_top_words) (defBody s_top_words) (defScope s_top_words) .none kV1 dc1 pm1 an1 cd1 ct1), sl1⟩) (c1 : PySem.W.codeIn K cd1 "top_words" = true) (k1 : PySem.W.keepIn K (.ref f1) = true)
    (a2 : PySem.W.nsIn K mainGlobals "is_fields" = some (some (.ref f2))) (l2 : K.lookup f2 = some ⟨oc2, od2, .func (PySem.W.fnOf "is_fields" "is_fields" (defArgs s_is_fields) (defBody s_is_fields) (defScope s_is_fields) .none kV2 dc2 pm2 an2 cd2 ct2), sl2⟩) (c2 : PySem.W.codeIn K cd2 "is_fields" = true) (k2 : PySem.W.keepIn K (.ref f2) = true)
    (a3 : PySem.W.findIn K (.ref h_Schema) "__init__" = some (some (.ref f3))) (i3 : PySem.W.isFn K (.ref f3) = true) (l3 : K.lookup f3 = some ⟨oc3, od3, .func (PySem.W.fnOf "__init__" "Schema.__init__" (defArgs s_Schema_init) (defBody s_Schema_init) (defScope s_Schema_init) .none kV3 dc3 pm3 an3 cd3 ct3), sl3⟩) (c3 : PySem.W.codeIn K cd3 "Schema.__init__" = true) (k3 : PySem.W.keepIn K (.ref f3) = true)
    (a4 : PySem.W.findIn K (.ref h_Schema) "__eq__" = some (some (.ref f4))) (i4 : PySem.W.isFn K (.ref f4) = true) (l4 : K.lookup f4 = some ⟨oc4, od4, .func (PySem.W.fnOf "__eq__" "Schema.__eq__" (defArgs s_Schema_eq) (defBody s_Schema_eq) (defScope s_Schema_eq) .none kV4 dc4 pm4 an4 cd4 ct4), sl4⟩) (c4 : PySem.W.codeIn K cd4 "Schema.__eq__" = true) (k4 : PySem.W.keepIn K (.ref f4) = true)
    (a5 : PySem.W.findIn K (.ref h_Schema) "__repr__" = some (some (.ref f5))) (i5 : PySem.W.isFn K (.ref f5) = true) (l5 : K.lookup f5 = some ⟨oc5, od5, .func (PySem.W.fnOf "__repr__" "Schema.__repr__" (defArgs s_Schema_repr) (defBody s_Schema_repr) (defScope s_Schema_repr) .none kV5 dc5 pm5 an5 cd5 ct5), sl5⟩) (c5 : PySem.W.codeIn K cd5 "Schema.__repr__" = true) (k5 : PySem.W.keepIn K (.ref f5) = true)
    (a6 : PySem.W.findIn K (.ref h_Schema) "depth" = some (some (.ref p6))) (b6 : PySem.W.specialIn K (.ref p6) "__get__" = some (some (.builtin "property.__get__"))) (d6 : PySem.W.takesIn K (.ref p6) = some true) (e6 : PySem.W.recIn K p6 "property" = some (.ref f6 :: r6)) (l6 : K.lookup f6 = some ⟨oc6, od6, .func (PySem.W.fnOf "depth" "Schema.depth" (defArgs s_Schema_depth) (defBody s_Schema_depth) (defScope s_Schema_depth) .none kV6 dc6 pm6 an6 cd6 ct6), sl6⟩) (c6 : PySem.W.codeIn K cd6 "Schema.depth" = true) (k6 : PySem.W.keepIn K (.ref f6) = true)
    (a7 : PySem.W.findIn K (.ref h_Schema) "lists" = some (some (.ref f7))) (i7 : PySem.W.isFn K (.ref f7) = true) (l7 : K.lookup f7 = some ⟨oc7, od7, .func (PySem.W.fnOf "lists" "Schema.lists" (defArgs s_Schema_lists) (defBody s_Schema_lists) (defScope s_Schema_lists) .none kV7 dc7 pm7 an7 cd7 ct7), sl7⟩) (c7 : PySem.W.codeIn K cd7 "Schema.lists" = true) (k7 : PySem.W.keepIn K (.ref f7) = true)
    (a8 : PySem.W.findIn K (.ref h_Schema) "text" = some (some (.ref f8))) (i8 : PySem.W.isFn K (.ref f8) = true) (l8 : K.lookup f8 = some ⟨oc8, od8, .func (PySem.W.fnOf "text" "Schema.text" (defArgs s_Schema_text) (defBody s_Schema_text) (defScope s_Schema_text) .none kV8 dc8 pm8 an8 cd8 ct8), sl8⟩) (c8 : PySem.W.codeIn K cd8 "Schema.text" = true) (k8 : PySem.W.keepIn K (.ref f8) = true)
    (a9 : PySem.W.findCls K (.ref h_Schema) (.type "type") "read" = some (.get (.builtin "staticmethod.__get__") (.ref p9) .none (.ref h_Schema))) (e9 : PySem.W.recIn K p9 "staticmethod" = some (.ref f9 :: r9)) (l9 : K.lookup f9 = some ⟨oc9, od9, .func (PySem.W.fnOf "read" "Schema.read" (defArgs s_Schema_read) (defBody s_Schema_read) (defScope s_Schema_read) .none kV9 dc9 pm9 an9 cd9 ct9), sl9⟩) (c9 : PySem.W.codeIn K cd9 "Schema.read" = true) (k9 : PySem.W.keepIn K (.ref f9) = true)
    (a10 : PySem.W.nsIn K mainGlobals "is_list" = some (some (.ref f10))) (l10 : K.lookup f10 = some ⟨oc10, od10, .func (PySem.W.fnOf "is_list" "is_list" (defArgs s_is_list) (defBody s_is_list) (defScope s_is_list) .none kV10 dc10 pm10 an10 cd10 ct10), sl10⟩) (c10 : PySem.W.codeIn K cd10 "is_list" = true) (k10 : PySem.W.keepIn K (.ref f10) = true)
    (a11 : PySem.W.nsIn K mainGlobals "read_part" = some (some (.ref f11))) (l11 : K.lookup f11 = some ⟨oc11, od11, .func (PySem.W.fnOf "read_part" "read_part" (defArgs s_read_part) (defBody s_read_part) (defScope s_read_part) .none kV11 dc11 pm11 an11 cd11 ct11), sl11⟩) (c11 : PySem.W.codeIn K cd11 "read_part" = true) (k11 : PySem.W.keepIn K (.ref f11) = true)
    (a12 : PySem.W.nsIn K mainGlobals "read_level" = some (some (.ref f12))) (l12 : K.lookup f12 = some ⟨oc12, od12, .func (PySem.W.fnOf "read_level" "read_level" (defArgs s_read_level) (defBody s_read_level) (defScope s_read_level) .none kV12 dc12 pm12 an12 cd12 ct12), sl12⟩) (c12 : PySem.W.codeIn K cd12 "read_level" = true) (k12 : PySem.W.keepIn K (.ref f12) = true)
    (a13 : PySem.W.nsIn K mainGlobals "read_schema" = some (some (.ref f13))) (l13 : K.lookup f13 = some ⟨oc13, od13, .func (PySem.W.fnOf "read_schema" "read_schema" (defArgs s_read_schema) (defBody s_read_schema) (defScope s_read_schema) .none kV13 dc13 pm13 an13 cd13 ct13), sl13⟩) (c13 : PySem.W.codeIn K cd13 "read_schema" = true) (k13 : PySem.W.keepIn K (.ref f13) = true)
    (a14 : PySem.W.nsIn K mainGlobals "_law_open" = some (some (.ref f14))) (l14 : K.lookup f14 = some ⟨oc14, od14, .func (PySem.W.fnOf "_law_open" "_law_open" (defArgs s_open) (defBody s_open) (defScope s_open) .none kV14 dc14 pm14 an14 cd14 ct14), sl14⟩) (c14 : PySem.W.codeIn K cd14 "_law_open" = true) (k14 : PySem.W.keepIn K (.ref f14) = true)
    (a15 : PySem.W.nsIn K mainGlobals "_law_draw" = some (some (.ref f15))) (l15 : K.lookup f15 = some ⟨oc15, od15, .func (PySem.W.fnOf "_law_draw" "_law_draw" (defArgs s_draw) (defBody s_draw) (defScope s_draw) .none kV15 dc15 pm15 an15 cd15 ct15), sl15⟩) (c15 : PySem.W.codeIn K cd15 "_law_draw" = true) (k15 : PySem.W.keepIn K (.ref f15) = true)
    (a16 : PySem.W.nsIn K mainGlobals "_law_of" = some (some (.ref f16))) (l16 : K.lookup f16 = some ⟨oc16, od16, .func (PySem.W.fnOf "_law_of" "_law_of" (defArgs s_ofS) (defBody s_ofS) (defScope s_ofS) .none kV16 dc16 pm16 an16 cd16 ct16), sl16⟩) (c16 : PySem.W.codeIn K cd16 "_law_of" = true) (k16 : PySem.W.keepIn K (.ref f16) = true)
    (a17 : PySem.W.nsIn K mainGlobals "_law_like" = some (some (.ref f17))) (l17 : K.lookup f17 = some ⟨oc17, od17, .func (PySem.W.fnOf "_law_like" "_law_like" (defArgs s_like) (defBody s_like) (defScope s_like) .none kV17 dc17 pm17 an17 cd17 ct17), sl17⟩) (c17 : PySem.W.codeIn K cd17 "_law_like" = true) (k17 : PySem.W.keepIn K (.ref f17) = true)
    (a18 : PySem.W.nsIn K mainGlobals "_law_names" = some (some (.ref f18))) (l18 : K.lookup f18 = some ⟨oc18, od18, .func (PySem.W.fnOf "_law_names" "_law_names" (defArgs s_names) (defBody s_names) (defScope s_names) .none kV18 dc18 pm18 an18 cd18 ct18), sl18⟩) (c18 : PySem.W.codeIn K cd18 "_law_names" = true) (k18 : PySem.W.keepIn K (.ref f18) = true)
    (a19 : PySem.W.nsIn K mainGlobals "_law_level" = some (some (.ref f19))) (l19 : K.lookup f19 = some ⟨oc19, od19, .func (PySem.W.fnOf "_law_level" "_law_level" (defArgs s_level) (defBody s_level) (defScope s_level) .none kV19 dc19 pm19 an19 cd19 ct19), sl19⟩) (c19 : PySem.W.codeIn K cd19 "_law_level" = true) (k19 : PySem.W.keepIn K (.ref f19) = true)
    (a20 : PySem.W.nsIn K mainGlobals "_law_some_level" = some (some (.ref f20))) (l20 : K.lookup f20 = some ⟨oc20, od20, .func (PySem.W.fnOf "_law_some_level" "_law_some_level" (defArgs s_some_level) (defBody s_some_level) (defScope s_some_level) .none kV20 dc20 pm20 an20 cd20 ct20), sl20⟩) (c20 : PySem.W.codeIn K cd20 "_law_some_level" = true) (k20 : PySem.W.keepIn K (.ref f20) = true)
    (a21 : PySem.W.nsIn K mainGlobals "_law_level_text" = some (some (.ref f21))) (l21 : K.lookup f21 = some ⟨oc21, od21, .func (PySem.W.fnOf "_law_level_text" "_law_level_text" (defArgs s_level_text) (defBody s_level_text) (defScope s_level_text) .none kV21 dc21 pm21 an21 cd21 ct21), sl21⟩) (c21 : PySem.W.codeIn K cd21 "_law_level_text" = true) (k21 : PySem.W.keepIn K (.ref f21) = true)
    (a22 : PySem.W.nsIn K mainGlobals "_law_schema" = some (some (.ref f22))) (l22 : K.lookup f22 = some ⟨oc22, od22, .func (PySem.W.fnOf "_law_schema" "_law_schema" (defArgs s_schema) (defBody s_schema) (defScope s_schema) .none kV22 dc22 pm22 an22 cd22 ct22), sl22⟩) (c22 : PySem.W.codeIn K cd22 "_law_schema" = true) (k22 : PySem.W.keepIn K (.ref f22) = true)
    (a23 : PySem.W.nsIn K mainGlobals "_law_made" = some (some (.ref f23))) (l23 : K.lookup f23 = some ⟨oc23, od23, .func (PySem.W.fnOf "_law_made" "_law_made" (defArgs s_made) (defBody s_made) (defScope s_made) .none kV23 dc23 pm23 an23 cd23 ct23), sl23⟩) (c23 : PySem.W.codeIn K cd23 "_law_made" = true) (k23 : PySem.W.keepIn K (.ref f23) = true)
    (a24 : PySem.W.nsIn K mainGlobals "_law_depth" = some (some (.ref f24))) (l24 : K.lookup f24 = some ⟨oc24, od24, .func (PySem.W.fnOf "_law_depth" "_law_depth" (defArgs s_depth) (defBody s_depth) (defScope s_depth) .none kV24 dc24 pm24 an24 cd24 ct24), sl24⟩) (c24 : PySem.W.codeIn K cd24 "_law_depth" = true) (k24 : PySem.W.keepIn K (.ref f24) = true)
    (a25 : PySem.W.nsIn K mainGlobals "_law_others" = some (some (.ref f25))) (l25 : K.lookup f25 = some ⟨oc25, od25, .func (PySem.W.fnOf "_law_others" "_law_others" (defArgs s_others) (defBody s_others) (defScope s_others) .none kV25 dc25 pm25 an25 cd25 ct25), sl25⟩) (c25 : PySem.W.codeIn K cd25 "_law_others" = true) (k25 : PySem.W.keepIn K (.ref f25) = true)
    (a26 : PySem.W.nsIn K mainGlobals "law" = some (some (.ref f26))) (l26 : K.lookup f26 = some ⟨oc26, od26, .func (PySem.W.fnOf "law" "law" (defArgs s_law) (defBody s_law) (defScope s_law) .none kV26 dc26 pm26 an26 cd26 ct26), sl26⟩) (c26 : PySem.W.codeIn K cd26 "law" = true) (k26 : PySem.W.keepIn K (.ref f26) = true)
    (kn_non : PySem.W.kitOne K (.type "NoneType") (.ref h_Schema) = some false) (kn_str : PySem.W.kitOne K (.type "str") (.ref h_Schema) = some false) (kn_ne : PySem.W.findIn K (.ref h_Schema) "__ne__" = some (some (.builtin "object.__ne__"))) (kn_bo : PySem.W.findIn K (.ref h_Schema) "__bool__" = some none) (kn_le : PySem.W.findIn K (.ref h_Schema) "__len__" = some none)
    (z_all : PySem.W.nsIn K mainGlobals "all" = some none)
    (z_any : PySem.W.nsIn K mainGlobals "any" = some none)
    (z_bool : PySem.W.nsIn K mainGlobals "bool" = some none)
    (z_enumerate : PySem.W.nsIn K mainGlobals "enumerate" = some none)
    (z_int : PySem.W.nsIn K mainGlobals "int" = some none)
    (z_isinstance : PySem.W.nsIn K mainGlobals "isinstance" = some none)
    (z_len : PySem.W.nsIn K mainGlobals "len" = some none)
    (z_list : PySem.W.nsIn K mainGlobals "list" = some none)
    (z_max : PySem.W.nsIn K mainGlobals "max" = some none)
    (z_range : PySem.W.nsIn K mainGlobals "range" = some none)
    (z_repr : PySem.W.nsIn K mainGlobals "repr" = some none)
    (z_set : PySem.W.nsIn K mainGlobals "set" = some none)
    (z_str : PySem.W.nsIn K mainGlobals "str" = some none)
    (z_tuple : PySem.W.nsIn K mainGlobals "tuple" = some none)
    (z_zip : PySem.W.nsIn K mainGlobals "zip" = some none)
    (w_LETTERS : PySem.W.nsIn K mainGlobals "LETTERS" = some (some (.str "abcdefghijklmnopqrstuvwxyz" t_LETTERS)))
    (w_MOST_FIELDS : PySem.W.nsIn K mainGlobals "MOST_FIELDS" = some (some (.int 3 t_MOST_FIELDS)))
    (w_MOST_LETTERS : PySem.W.nsIn K mainGlobals "MOST_LETTERS" = some (some (.int 8 t_MOST_LETTERS)))
    (w_MOST_LEVELS : PySem.W.nsIn K mainGlobals "MOST_LEVELS" = some (some (.int 3 t_MOST_LEVELS)))
    (w_MOST_LISTS : PySem.W.nsIn K mainGlobals "MOST_LISTS" = some (some (.int 2 t_MOST_LISTS)))
    (w_WORDS : PySem.W.nsIn K mainGlobals "WORDS" = some (some (.ref h_WORDS))) (o_WORDS : K.lookup h_WORDS = some ⟨.type "tuple", od_WORDS, .seq its_WORDS n_WORDS, sl_WORDS⟩) (i_WORDS : its_WORDS.size ≤ sizeLine ∧ Vals (c_WORDS.map V.str) its_WORDS.toList) :
    ∃ fd : FuncData, (∀ (s : Shared) (v : Value), BindsTo s fd ⟨[v], []⟩ [("_law_script", v)]) ∧ ∀ base : Heap, K.In base → base.Ns mainGlobals mg → FnOk l.prog w K mg base CX0 44 fa fd ["_law_script"] (sp_law K) := by
  obtain rfl := cls_at_of aC_Schema
  have cl_Schema : Cls K (cls_at K "Schema") := ⟨pg_Schema, hd_Schema, po_Schema, sa_Schema⟩
  haveI SK_Schema : SchK K := ⟨⟨cl_Schema, ha_Schema, hn_Schema, ht_Schema, hm_Schema⟩, n_Schema_fields, n_Schema__lists⟩
  have g_Schema : ∃ u, mg "Schema" = some u ∧ RelV (.ref (cls_at K "Schema")) u := ⟨_, PySem.W.mg_of X G aC_Schema, rfl⟩
  haveI NK_Schema : KitN K := ⟨kn_non, kn_str, kn_ne, kn_bo, kn_le⟩
  have F0 := fun_mk (st := s_is_name) l0 c0 k0
  have g0 := PySem.W.mg_of X G a0
  have F1 := fun_mk (st := s_top_words) l1 c1 k1
  have g1 := PySem.W.mg_of X G a1
  have F2 := fun_mk (st := s_is_fields) l2 c2 k2
  have g2 := PySem.W.mg_of X G a2
  have F3 := fun_mk (st := s_Schema_init) l3 c3 k3
  have g3 : Mk K (cls_at K "Schema") f3 ∧ mg "Schema" = some (.ref (cls_at K "Schema")) := ⟨⟨mk_Schema, a3, i3, kc_Schema⟩, PySem.W.mg_of X G aC_Schema⟩
  have F4 := fun_mk (st := s_Schema_eq) l4 c4 k4
  have g4 : Cls K (cls_at K "Schema") ∧ Meth K (cls_at K "Schema") "__eq__" f4 := ⟨cl_Schema, a4, i4, k4⟩
  have F5 := fun_mk (st := s_Schema_repr) l5 c5 k5
  have g5 : Cls K (cls_at K "Schema") ∧ Meth K (cls_at K "Schema") "__repr__" f5 := ⟨cl_Schema, a5, i5, k5⟩
  have F6 := fun_mk (st := s_Schema_depth) l6 c6 k6
  have g6 : Cls K (cls_at K "Schema") ∧ PropOf K (cls_at K "Schema") "depth" p6 f6 := ⟨cl_Schema, a6, b6, d6, r6, e6⟩
  have F7 := fun_mk (st := s_Schema_lists) l7 c7 k7
  have g7 : Cls K (cls_at K "Schema") ∧ Meth K (cls_at K "Schema") "lists" f7 := ⟨cl_Schema, a7, i7, k7⟩
  have F8 := fun_mk (st := s_Schema_text) l8 c8 k8
  have g8 : Cls K (cls_at K "Schema") ∧ Meth K (cls_at K "Schema") "text" f8 := ⟨cl_Schema, a8, i8, k8⟩
  have F9 := fun_mk (st := s_Schema_read) l9 c9 k9
  have g9 : ClX.CRead K (cls_at K "Schema") (.type "type") ∧ _ ∧ _ := ⟨⟨rd_Schema, ga_Schema⟩, a9, e9⟩
  have F10 := fun_mk (st := s_is_list) l10 c10 k10
  have g10 := PySem.W.mg_of X G a10
  have F11 := fun_mk (st := s_read_part) l11 c11 k11
  have g11 := PySem.W.mg_of X G a11
  have F12 := fun_mk (st := s_read_level) l12 c12 k12
  have g12 := PySem.W.mg_of X G a12
  have F13 := fun_mk (st := s_read_schema) l13 c13 k13
  have g13 := PySem.W.mg_of X G a13
  have F14 := fun_mk (st := s_open) l14 c14 k14
  have g14 := PySem.W.mg_of X G a14
  have F15 := fun_mk (st := s_draw) l15 c15 k15
  have g15 := PySem.W.mg_of X G a15
  have F16 := fun_mk (st := s_ofS) l16 c16 k16
  have g16 := PySem.W.mg_of X G a16
  have F17 := fun_mk (st := s_like) l17 c17 k17
  have g17 := PySem.W.mg_of X G a17
  have F18 := fun_mk (st := s_names) l18 c18 k18
  have g18 := PySem.W.mg_of X G a18
  have F19 := fun_mk (st := s_level) l19 c19 k19
  have g19 := PySem.W.mg_of X G a19
  have F20 := fun_mk (st := s_some_level) l20 c20 k20
  have g20 := PySem.W.mg_of X G a20
  have F21 := fun_mk (st := s_level_text) l21 c21 k21
  have g21 := PySem.W.mg_of X G a21
  have F22 := fun_mk (st := s_schema) l22 c22 k22
  have g22 := PySem.W.mg_of X G a22
  have F23 := fun_mk (st := s_made) l23 c23 k23
  have g23 := PySem.W.mg_of X G a23
  have F24 := fun_mk (st := s_depth) l24 c24 k24
  have g24 := PySem.W.mg_of X G a24
  have F25 := fun_mk (st := s_others) l25 c25 k25
  have g25 := PySem.W.mg_of X G a25
  have F26 := fun_mk (st := s_law) l26 c26 k26
  have g26 := PySem.W.mg_of X G a26
  have m_all := PySem.W.mg_none_of X G z_all
  have m_any := PySem.W.mg_none_of X G z_any
  have m_bool := PySem.W.mg_none_of X G z_bool
  have m_enumerate := PySem.W.mg_none_of X G z_enumerate
  have m_int := PySem.W.mg_none_of X G z_int
  have m_isinstance := PySem.W.mg_none_of X G z_isinstance
  have m_len := PySem.W.mg_none_of X G z_len
  have m_list := PySem.W.mg_none_of X G z_list
  have m_max := PySem.W.mg_none_of X G z_max
  have m_range := PySem.W.mg_none_of X G z_range
  have m_repr := PySem.W.mg_none_of X G z_repr
  have m_set := PySem.W.mg_none_of X G z_set
  have m_str := PySem.W.mg_none_of X G z_str
  have m_tuple := PySem.W.mg_none_of X G z_tuple
  have m_zip := PySem.W.mg_none_of X G z_zip
  have r_WORDS : v_WORDS K = .ref h_WORDS := by unfold v_WORDS; rw [w_WORDS]
  haveI CK_WORDS : Consts K := ⟨h_WORDS, r_WORDS, fun _ => .inr ⟨_, _, _, o_WORDS, rfl, rfl, i_WORDS.1, i_WORDS.2⟩⟩
  have g_LETTERS : ∃ u, mg "LETTERS" = some u ∧ RelV v_LETTERS u := ⟨_, PySem.W.mg_of X G w_LETTERS, _, rfl⟩
  have g_MOST_FIELDS : ∃ u, mg "MOST_FIELDS" = some u ∧ RelV v_MOST_FIELDS u := ⟨_, PySem.W.mg_of X G w_MOST_FIELDS, _, rfl⟩
  have g_MOST_LETTERS : ∃ u, mg "MOST_LETTERS" = some u ∧ RelV v_MOST_LETTERS u := ⟨_, PySem.W.mg_of X G w_MOST_LETTERS, _, rfl⟩
  have g_MOST_LEVELS : ∃ u, mg "MOST_LEVELS" = some u ∧ RelV v_MOST_LEVELS u := ⟨_, PySem.W.mg_of X G w_MOST_LEVELS, _, rfl⟩
  have g_MOST_LISTS : ∃ u, mg "MOST_LISTS" = some u ∧ RelV v_MOST_LISTS u := ⟨_, PySem.W.mg_of X G w_MOST_LISTS, _, rfl⟩
  have g_WORDS : ∃ u, mg "WORDS" = some u ∧ RelV (v_WORDS K) u := ⟨_, PySem.W.mg_of X G w_WORDS, by rw [r_WORDS]; rfl⟩
  have e := hfa.symm.trans g26
  cases e
  refine ⟨PySem.W.fnOf "law" "law" (defArgs s_law) (defBody s_law) (defScope s_law) .none kV26 dc26 pm26 an26 cd26 ct26, fun s v => .of_eq rfl, fun base _ _ => ?_⟩
  have C_is_name := cal_is_name (P := l.prog) (w := w) (base := base) F0 g0 m_isinstance m_str m_len m_all g_MOST_LETTERS g_WORDS g_LETTERS
  have C_top_words := cal_top_words (P := l.prog) (w := w) (base := base) F1 g1 
  have C_is_fields := cal_is_fields (P := l.prog) (w := w) (base := base) F2 g2 C_is_name m_isinstance m_tuple m_list m_len m_all m_set g_MOST_FIELDS
  have M_Schema_eq := met_Schema_eq (P := l.prog) (w := w) (base := base) F4 g4 m_isinstance g_Schema 9
  have P_Schema_depth := prp_Schema_depth (P := l.prog) (w := w) (base := base) F6 g6 m_max 9
  have M_Schema_lists := met_Schema_lists (P := l.prog) (w := w) (base := base) F7 g7 m_list
  have M_Schema_text := met_Schema_text (P := l.prog) (w := w) (base := base) F8 g8 m_list 9
  have M_Schema_repr := met_Schema_repr (P := l.prog) (w := w) (base := base) F5 g5 M_Schema_text
  have C_is_list := cal_is_list (P := l.prog) (w := w) (base := base) F10 g10 C_is_name P_Schema_depth m_isinstance m_tuple m_len m_bool g_MOST_LEVELS g_Schema
  have N_Schema := mak_Schema_init (P := l.prog) (w := w) (base := base) F3 g3 C_is_fields C_is_list m_list m_enumerate m_tuple g_MOST_LISTS
  have N1_Schema_fields := mak1_Schema_init_fields (P := l.prog) (w := w) (base := base) F3 g3 C_is_fields C_is_list m_list m_enumerate m_tuple g_MOST_LISTS
  have C_read_level := cal_read_level (P := l.prog) (w := w) (base := base) F12 g12 F11 g11 C_top_words N_Schema g_MOST_LEVELS 9
  have C_read_schema := cal_read_schema (P := l.prog) (w := w) (base := base) F13 g13 C_read_level M_Schema_text m_isinstance m_str
  have S_Schema_read := sta_Schema_read (P := l.prog) (w := w) (base := base) F9 g9 C_read_schema
  have C__law_open := cal_open (P := l.prog) (w := w) (base := base) F14 g14 m_list
  have C__law_draw := cal_draw (P := l.prog) (w := w) (base := base) F15 g15 m_len m_int
  have C__law_of := cal_ofS (P := l.prog) (w := w) (base := base) F16 g16 C__law_draw m_len
  have C__law_like := cal_like (P := l.prog) (w := w) (base := base) F17 g17 m_isinstance m_tuple m_list m_len m_all m_zip m_bool m_int m_str 9
  have C__law_names := cal_names (P := l.prog) (w := w) (base := base) F18 g18 C__law_draw C__law_of m_list m_range m_len
  have C__law_level := cal_level (P := l.prog) (w := w) (base := base) F19 g19 C__law_names C__law_draw m_len m_zip
  have C__law_some_level := cal_some_level (P := l.prog) (w := w) (base := base) F20 g20 C__law_level
  have C__law_level_text := cal_level_text (P := l.prog) (w := w) (base := base) F21 g21 m_list 9
  have C__law_schema := cal_schema (P := l.prog) (w := w) (base := base) F22 g22 C__law_level_text S_Schema_read g_Schema
  have C__law_made := cal_made (P := l.prog) (w := w) (base := base) F23 g23 N_Schema m_len m_list m_tuple 9
  have C__law_depth := cal_depth (P := l.prog) (w := w) (base := base) F24 g24 m_max 9
  have C__law_others := cal_others (P := l.prog) (w := w) (base := base) F25 g25 m_len
  exact ok_law F26 C__law_open C__law_some_level C__law_draw C__law_made C__law_like C__law_level_text C__law_depth C__law_schema C__law_others M_Schema_lists M_Schema_repr M_Schema_text M_Schema_eq P_Schema_depth N_Schema N1_Schema_fields m_range m_list m_tuple m_bool m_repr m_isinstance m_all m_any
end Q07
open PySem PySem.W PyProof.Rows
set_option maxRecDepth 100000 in
set_option maxHeartbeats 0 in
theorem PySem.Challenge.cw_eachentry_k07_schemas_told_holds : PySem.Challenge.rw_eachentry_k07_schemas_told.Holds := by
  w_on; o_law; k_head; (case hw => w_witness2)
  k_fill
  refine L2.walk_of (l := PySem.Challenge.rw_eachentry_k07_schemas_told) (n := 63) (k := 44) (x := "_law_script") (CX := fun _ => L2.CX0) (sp := fun w => EE.sp_law _) rfl (by decide) rfl ⟨rfl, by decide, by decide⟩ (fun w h Y => PySem.W.kIn_of Y) ?F (fun _ _ a ns hl _ hS => ⟨a, ns, rfl, hS, fun _ => rfl⟩) (fun _ _ _ _ _ h => h)
  case F =>
    intro w mg fa h KX G hmg
    refine' Q07.all_mk KX G hmg ?aC_Schema ?pg_Schema ?hd_Schema ?po_Schema ?sa_Schema ?mk_Schema ?kc_Schema ?ha_Schema ?hn_Schema ?ht_Schema ?hm_Schema ?n_Schema_fields ?n_Schema__lists ?rd_Schema ?ga_Schema ?a0 ?l0 ?c0 ?k0 ?a1 ?l1 ?c1 ?k1 ?a2 ?l2 ?c2 ?k2 ?a3 ?i3 ?l3 ?c3 ?k3 ?a4 ?i4 ?l4 ?c4 ?k4 ?a5 ?i5 ?l5 ?c5 ?k5 ?a6 ?b6 ?d6 ?e6 ?l6 ?c6 ?k6 ?a7 ?i7 ?l7 ?c7 ?k7 ?a8 ?i8 ?l8 ?c8 ?k8 ?a9 ?e9 ?l9 ?c9 ?k9 ?a10 ?l10 ?c10 ?k10 ?a11 ?l11 ?c11 ?k11 ?a12 ?l12 ?c12 ?k12 ?a13 ?l13 ?c13 ?k13 ?a14 ?l14 ?c14 ?k14 ?a15 ?l15 ?c15 ?k15 ?a16 ?l16 ?c16 ?k16 ?a17 ?l17 ?c17 ?k17 ?a18 ?l18 ?c18 ?k18 ?a19 ?l19 ?c19 ?k19 ?a20 ?l20 ?c20 ?k20 ?a21 ?l21 ?c21 ?k21 ?a22 ?l22 ?c22 ?k22 ?a23 ?l23 ?c23 ?k23 ?a24 ?l24 ?c24 ?k24 ?a25 ?l25 ?c25 ?k25 ?a26 ?l26 ?c26 ?k26 ?kn_non ?kn_str ?kn_ne ?kn_bo ?kn_le ?z_all ?z_any ?z_bool ?z_enumerate ?z_int ?z_isinstance ?z_len ?z_list ?z_max ?z_range ?z_repr ?z_set ?z_str ?z_tuple ?z_zip ?w_LETTERS ?w_MOST_FIELDS ?w_MOST_LETTERS ?w_MOST_LEVELS ?w_MOST_LISTS ?w_WORDS ?o_WORDS ?i_WORDS
    (case aC_Schema => k_is); (case pg_Schema => k_is); (case hd_Schema => k_is); (case po_Schema => k_is); (case sa_Schema => k_is); (case mk_Schema => k_is); (case kc_Schema => k_is); (case ha_Schema => k_is); (case hn_Schema => k_is); (case ht_Schema => k_is); (case hm_Schema => k_is); (case n_Schema_fields => k_is); (case n_Schema__lists => k_is); (case rd_Schema => k_is); (case ga_Schema => k_is); (case a0 => k_is); (case l0 => k_is); (case c0 => k_is); (case k0 => k_is); (case a1 => k_is); (case l1 => k_is); (case c1 => k_is); (case k1 => k_is); (case a2 => k_is); (case l2 => k_is); (case c2 => k_is); (case k2 => k_is); (case a3 => k_is); (case i3 => k_is); (case l3 => k_is); (case c3 => k_is); (case k3 => k_is); (case a4 => k_is); (case i4 => k_is); (case l4 => k_is); (case c4 => k_is); (case k4 => k_is); (case a5 => k_is); (case i5 => k_is); (case l5 => k_is); (case c5 => k_is); (case k5 => k_is); (case a6 => k_is); (case b6 => k_is); (case d6 => k_is); (case e6 => k_is); (case l6 => k_is); (case c6 => k_is); (case k6 => k_is); (case a7 => k_is); (case i7 => k_is); (case l7 => k_is); (case c7 => k_is); (case k7 => k_is); (case a8 => k_is); (case i8 => k_is); (case l8 => k_is); (case c8 => k_is); (case k8 => k_is); (case a9 => k_is); (case e9 => k_is); (case l9 => k_is); (case c9 => k_is); (case k9 => k_is); (case a10 => k_is); (case l10 => k_is); (case c10 => k_is); (case k10 => k_is); (case a11 => k_is); (case l11 => k_is); (case c11 => k_is); (case k11 => k_is); (case a12 => k_is); (case l12 => k_is); (case c12 => k_is); (case k12 => k_is); (case a13 => k_is); (case l13 => k_is); (case c13 => k_is); (case k13 => k_is); (case a14 => k_is); (case l14 => k_is); (case c14 => k_is); (case k14 => k_is); (case a15 => k_is); (case l15 => k_is); (case c15 => k_is); (case k15 => k_is); (case a16 => k_is); (case l16 => k_is); (case c16 => k_is); (case k16 => k_is); (case a17 => k_is); (case l17 => k_is); (case c17 => k_is); (case k17 => k_is); (case a18 => k_is); (case l18 => k_is); (case c18 => k_is); (case k18 => k_is); (case a19 => k_is); (case l19 => k_is); (case c19 => k_is); (case k19 => k_is); (case a20 => k_is); (case l20 => k_is); (case c20 => k_is); (case k20 => k_is); (case a21 => k_is); (case l21 => k_is); (case c21 => k_is); (case k21 => k_is); (case a22 => k_is); (case l22 => k_is); (case c22 => k_is); (case k22 => k_is); (case a23 => k_is); (case l23 => k_is); (case c23 => k_is); (case k23 => k_is); (case a24 => k_is); (case l24 => k_is); (case c24 => k_is); (case k24 => k_is); (case a25 => k_is); (case l25 => k_is); (case c25 => k_is); (case k25 => k_is); (case a26 => k_is); (case l26 => k_is); (case c26 => k_is); (case k26 => k_is); (case kn_non => kernel_rfl); (case kn_str => kernel_rfl); (case kn_ne => k_is); (case kn_bo => k_is); (case kn_le => k_is); (case z_all => k_is); (case z_any => k_is); (case z_bool => k_is); (case z_enumerate => k_is); (case z_int => k_is); (case z_isinstance => k_is); (case z_len => k_is); (case z_list => k_is); (case z_max => k_is); (case z_range => k_is); (case z_repr => k_is); (case z_set => k_is); (case z_str => k_is); (case z_tuple => k_is); (case z_zip => k_is); (case w_LETTERS => k_is); (case w_MOST_FIELDS => k_is); (case w_MOST_LETTERS => k_is); (case w_MOST_LEVELS => k_is); (case w_MOST_LISTS => k_is); (case w_WORDS => k_is); (case o_WORDS => k_is); (case i_WORDS => exact ⟨by decide, by repeat first | exact .nil | refine .cons ⟨_, rfl⟩ ?_⟩)
