import PyProof.Rows.All
import Wide.All
import OpenK.AllK
import Wide.FinOn
import HandS.ForMost
import HandS.Walk
import HandS.Steps
import HandS.Evl
import HandS.Zip
import HandS.IsInst
import HandS.Wide
import HandS.TupAny
import HandS.SortInts
import KE.LtData
import KE.DataEq
import HandS.Codes
import KE.DataMinMax
import HandS.Conv
import HandS.Style
import PySem.Challenge.RW_eachentry_k04_stretches_judged
set_option Elab.async false
set_option linter.all false
set_option maxRecDepth 100000
set_option maxHeartbeats 3000000
/-! The unchanging heap G under the heap H, with a list L of the objects that may change. -/
namespace EE
open PySem PySem.Spec PyProof.Rows L2 Evl RZ

/-- G: what stays; L: what may change; both stand in H -/
structure Stt (G H : Hp) (L : List (Addr × HO)) : Prop where
  ex : Ex G H
  has : ∀ p, p ∈ L → H p.1 = some p.2
  out : ∀ p, p ∈ L → G p.1 = none
  nd : (L.map (·.1)).Nodup

theorem Ex.upd2 {G H : Hp} {p : Addr} {o : HO} (e : Ex G H) : Ex (upd G p o) (upd H p o) := fun a u h => by
  unfold upd at h ⊢
  by_cases c : a = p
  · rw [if_pos c] at h ⊢; exact h
  · rw [if_neg c] at h ⊢; exact e a u h
section
variable {G H : Hp} {L : List (Addr × HO)} {p b : Addr} {o o' : HO}
theorem Stt.free (S : Stt G H L) (h : H p = none) : G p = none := fresh_back S.ex h
theorem Stt.ne (S : Stt G H L) (h : H p = none) : ∀ q, q ∈ L → q.1 ≠ p := fun q hq z => by
  have := S.has q hq
  rw [z, h] at this
  cases this
theorem Stt.new (S : Stt G H L) (h : H p = none) : Stt (upd G p o) (upd H p o) L :=
  ⟨Ex.upd2 S.ex, fun q hq => by rw [upd_ne (S.ne h q hq)]; exact S.has q hq, fun q hq => by rw [upd_ne (S.ne h q hq)]; exact S.out q hq, S.nd⟩
theorem Stt.newE (S : Stt G H L) (h : H p = none) : Ex G (upd G p o) := Ex.new (S.free h)
theorem Stt.mkL (S : Stt G H L) (h : H p = none) : Stt G (upd H p o) ((p, o) :: L) := by
  refine ⟨S.ex.trans (Ex.new h), fun q hq => ?_, fun q hq => ?_, ?_⟩
  · cases hq with
    | head => exact upd_same
    | tail _ hq => rw [upd_ne (S.ne h q hq)]; exact S.has q hq
  · cases hq with
    | head => exact S.free h
    | tail _ hq => exact S.out q hq
  · rw [List.map_cons, List.nodup_cons]
    refine ⟨fun hm => ?_, S.nd⟩
    obtain ⟨q, hq, e⟩ := List.mem_map.mp hm
    exact S.ne h q hq e
theorem Stt.at (S : Stt G H L) (i : Nat) (h : L[i]? = some (b, o)) : H b = some o := S.has (b, o) (List.mem_of_getElem? h)
theorem Stt.drop (S : Stt G H ((p, o) :: L)) : Stt G H L :=
  ⟨S.ex, fun q hq => S.has q (List.mem_cons_of_mem _ hq), fun q hq => S.out q (List.mem_cons_of_mem _ hq), (List.nodup_cons.mp S.nd).2⟩
/-- what changed no longer will -/
theorem Stt.frz (S : Stt G H ((p, o) :: L)) : Stt (upd G p o) H L := by
  have hp : H p = some o := S.has (p, o) (List.mem_cons_self ..)
  refine ⟨fun a u h => ?_, S.drop.has, fun q hq => ?_, S.drop.nd⟩
  · unfold upd at h
    by_cases c : a = p
    · rw [if_pos c] at h
      cases h
      rw [c]; exact hp
    · rw [if_neg c] at h; exact S.ex a u h
  · have hne : q.1 ≠ p := fun z => (List.nodup_cons.mp S.nd).1 (List.mem_map.mpr ⟨q, hq, z⟩)
    rw [upd_ne hne]
    exact S.out q (List.mem_cons_of_mem _ hq)
theorem Stt.frzE (S : Stt G H ((p, o) :: L)) : Ex G (upd G p o) := Ex.new (S.out (p, o) (List.mem_cons_self ..))
theorem Stt.wr (S : Stt G H L) (i : Nat) (h : L[i]? = some (b, o)) : Stt G (upd H b o') (L.set i (b, o')) := by
  have hi : i < L.length := (List.getElem?_eq_some_iff.mp h).1
  have hb : (b, o) ∈ L := List.mem_of_getElem? h
  have hmap : (L.set i (b, o')).map (·.1) = L.map (·.1) := by
    rw [List.map_set]
    apply List.ext_getElem?
    intro j
    rw [List.getElem?_set]
    by_cases c : i = j
    · subst c
      rw [if_pos rfl, if_pos (by rw [List.length_map]; exact hi), List.getElem?_map, h]
      rfl
    · rw [if_neg c]
  have key : ∀ q, q ∈ L.set i (b, o') → q = (b, o') ∨ (q ∈ L ∧ q.1 ≠ b) := fun q hq => by
    obtain ⟨j, hj⟩ := List.getElem?_of_mem hq
    rw [List.getElem?_set] at hj
    by_cases c : i = j
    · subst c
      rw [if_pos rfl, if_pos hi] at hj
      exact .inl (Option.some.inj hj).symm
    · rw [if_neg c] at hj
      refine .inr ⟨List.mem_of_getElem? hj, fun z => c ?_⟩
      have h1 : (L.map (·.1))[i]? = some b := by rw [List.getElem?_map, h]; rfl
      have h2 : (L.map (·.1))[j]? = some b := by rw [List.getElem?_map, hj, ← z]; rfl
      have hi' : i < (L.map (·.1)).length := by rw [List.length_map]; exact hi
      exact (List.getElem?_inj hi' S.nd).mp (h1.trans h2.symm)
  refine ⟨fun a u ha => ?_, fun q hq => ?_, fun q hq => ?_, by rw [hmap]; exact S.nd⟩
  · rw [upd_ne (ne_of_none ha (S.out (b, o) hb))]
    exact S.ex a u ha
  · rcases key q hq with rfl | ⟨hq, hne⟩
    · exact upd_same
    · rw [upd_ne hne]; exact S.has q hq
  · rcases key q hq with rfl | ⟨hq, hne⟩
    · exact S.out (b, o) hb
    · exact S.out q hq
theorem Stt.nil (H : Hp) : Stt H H [] := ⟨Ex.refl H, (fun _ h => nomatch h), (fun _ h => nomatch h), List.nodup_nil⟩
theorem Stt.out_nil {G H : Hp} (S : Stt G H []) : Stt H H [] := Stt.nil H
end

/-! ### data -/
mutual
theorem Dp.ex {K : PySem.W.Frag} {H H' : Hp} (e : Ex H H') : ∀ (d : PyData) (v : V), Dp K H v d → Dp K H' v d
  | .none, _, h => by cases h; exact .non
  | .bool b, _, h => by cases h; exact .bl b
  | .int i, _, h => by cases h; exact .int i
  | .str x, _, h => by cases h; exact .str x
  | .list ds, _, h => by
    cases h with
    | lst hs ha => exact .lst (ex_l e hs) (DpAll.ex e ds _ ha)
  | .tuple ds, _, h => by
    cases h with
    | tup hs ha => exact .tup (ex_t e hs) (DpAll.ex e ds _ ha)
  | .dict _, _, h => by cases h
theorem DpAll.ex {K : PySem.W.Frag} {H H' : Hp} (e : Ex H H') : ∀ (ds : List PyData) (vs : List V), DpAll K H vs ds → DpAll K H' vs ds
  | [], _, h => by cases h; exact .nil
  | d :: ds, _, h => by
    cases h with
    | cons h1 h2 => exact .cons (Dp.ex e d _ h1) (DpAll.ex e ds _ h2)
end
theorem DpAll.length {K : PySem.W.Frag} {H : Hp} : ∀ {vs : List V} {ds : List PyData}, DpAll K H vs ds → vs.length = ds.length
  | _, _, .nil => rfl
  | _, _, .cons _ h => by rw [List.length_cons, List.length_cons, DpAll.length h]
theorem DpAll.get {K : PySem.W.Frag} {H : Hp} : ∀ {vs : List V} {ds : List PyData} {i : Nat} {v : V}, DpAll K H vs ds → vs[i]? = some v → ∃ d, ds[i]? = some d ∧ Dp K H v d
  | _, _, _, _, .nil, h => by simp at h
  | _, _, 0, _, .cons h1 _, h => by
    cases (Option.some.inj h)
    exact ⟨_, rfl, h1⟩
  | _, _, i + 1, _, .cons _ h2, h => DpAll.get (i := i) h2 h
theorem DpAll.append {K : PySem.W.Frag} {H : Hp} : ∀ {vs ws : List V} {ds es : List PyData}, DpAll K H vs ds → DpAll K H ws es → DpAll K H (vs ++ ws) (ds ++ es)
  | _, _, _, _, .nil, h => h
  | _, _, _, _, .cons h1 h2, h => .cons h1 (DpAll.append h2 h)
theorem DpAll.snoc {K : PySem.W.Frag} {H : Hp} {vs : List V} {ds : List PyData} {v : V} {d : PyData} (h : DpAll K H vs ds) (h1 : Dp K H v d) : DpAll K H (vs ++ [v]) (ds ++ [d]) := DpAll.append h (.cons h1 .nil)
theorem DpAll.take {K : PySem.W.Frag} {H : Hp} : ∀ {vs : List V} {ds : List PyData} (n : Nat), DpAll K H vs ds → DpAll K H (vs.take n) (ds.take n)
  | _, _, 0, _ => .nil
  | _, _, _ + 1, .nil => .nil
  | _, _, n + 1, .cons h1 h2 => .cons h1 (DpAll.take n h2)
theorem DpAll.drop {K : PySem.W.Frag} {H : Hp} : ∀ {vs : List V} {ds : List PyData} (n : Nat), DpAll K H vs ds → DpAll K H (vs.drop n) (ds.drop n)
  | _, _, 0, h => h
  | _, _, _ + 1, .nil => .nil
  | _, _, n + 1, .cons _ h2 => DpAll.drop n h2
theorem DpAll.ints {K : PySem.W.Frag} {H : Hp} : ∀ (ns : List Int), DpAll K H (ns.map V.int) (ns.map PyData.int)
  | [] => .nil
  | n :: ns => .cons (.int n) (DpAll.ints ns)
theorem DpAll.bools {K : PySem.W.Frag} {H : Hp} : ∀ (ns : List Bool), DpAll K H (ns.map V.bl) (ns.map PyData.bool)
  | [] => .nil
  | n :: ns => .cons (.bl n) (DpAll.bools ns)

/-! Readings by the head of what is read; rules that serve several kinds of values. -/
section
variable {K : PySem.W.Frag} {σ : L2.St} {H : Hp} {v x y : V} {ta tb tc te : TE} {t u : TT} {Q : VK} {QT : Bool → Hp → Prop} {QA : List V → Hp → Prop} {D : Ends} {tr : TA} {t1 t2 : TS} {i : Nat}
theorem rd_var (h : σ[i]? = some (some v)) (q : Q v H) : tVar i σ H Q := ⟨v, h, q⟩
theorem rd_c (q : Q v H) : tC v σ H Q := q
theorem rd_op {r : R2} (q : ta σ H fun x H1 => tb σ H1 fun y H2 => r x y H2 Q) : tOp r ta tb σ H Q := q
theorem rd_un {r : V → Hp → VK → Prop} (q : ta σ H fun x H1 => r x H1 Q) : tUn r ta σ H Q := q
theorem rd_test (q : te σ H fun x H1 => ∃ k, x = .bl k ∧ QT k H1) : tTest te σ H QT := q
theorem rd_B (q : te σ H fun x H1 => ∃ k, x = .bl k ∧ QT k H1) : tB te σ H QT := q
theorem rd_bl {P : Bool → Prop} {k : Bool} (q : P k) : ∃ c, V.bl k = V.bl c ∧ P c := ⟨k, rfl, q⟩
theorem rd_and (q : t σ H fun c H1 => if c = true then u σ H1 QT else QT false H1) : tAnd t u σ H QT := q
theorem rd_or (q : t σ H fun c H1 => if c = true then QT true H1 else u σ H1 QT) : tOr t u σ H QT := q
theorem rd_not (q : t σ H fun c H1 => QT (!c) H1) : tNot t σ H QT := q
theorem rd_andV (q : ta σ H fun x H1 => ∃ c, x = .bl c ∧ if c = true then tb σ H1 Q else Q (.bl false) H1) : tAndV ta tb σ H Q := q
theorem rd_orV (q : ta σ H fun x H1 => ∃ c, x = .bl c ∧ if c = true then Q (.bl true) H1 else tb σ H1 Q) : tOrV ta tb σ H Q := q
theorem rd_notV (q : ta σ H fun x H1 => ∃ c, x = .bl c ∧ Q (.bl (!c)) H1) : tNotV ta σ H Q := q
theorem rd_if (q : t σ H fun c H1 => if c = true then ta σ H1 Q else tb σ H1 Q) : tIf t ta tb σ H Q := q
theorem rd_nil (q : QA [] H) : tNil σ H QA := q
theorem rd_cons (q : ta σ H fun x H1 => tr σ H1 fun xs H2 => QA (x :: xs) H2) : tCons ta tr σ H QA := q
theorem rd_cb {r : List V → Hp → VK → Prop} (q : tr σ H fun vs H1 => r vs H1 Q) : tCB r tr σ H Q := q
theorem rd_call {sp : Sp} {E : XK} (q : tr σ H fun vs H1 => sp (vs ++ []) H1 Q E) : tCall sp [] E tr σ H Q := q
theorem rd_callK {sp : Sp} {gV : List V → List V → List V} {E : XK} {tk : TA} (q : tr σ H fun vs H1 => tk σ H1 fun zs H2 => sp (gV vs zs) H2 Q E) : tCallK sp gV E tr tk σ H Q := q
theorem rd_seq (q : t1 { D with nx := t2 D } σ H) : tSeq t1 t2 D σ H := q
theorem rd_ifs (q : t σ H fun b H1 => if b = true then t1 D σ H1 else t2 D σ H1) : tIfS t t1 t2 D σ H := q
theorem rd_next (q : D.nx σ H) : tNext D σ H := q
theorem rd_ret (q : te σ H D.rt) : tRet te D σ H := q
theorem rd_drop (q : te σ H fun _ H1 => D.nx σ H1) : tDrop te D σ H := q
theorem rd_asg {g : TG} (q : te σ H fun x H1 => g x σ H1 D.nx) : tAsg te g D σ H := q
theorem rd_name {N : L2.St → Hp → Prop} (q : N (σ.set i (some v)) H) : gName i v σ H N := q
theorem rd_tup (q : tr σ H fun xs H1 => xs.length ≤ sizeLine ∧ ∀ p, H1 p = none → Q (.ref p) (upd H1 p (.tup xs))) : tTup tr σ H Q := q
theorem rd_lst (q : tr σ H fun xs H1 => xs.length ≤ sizeLine ∧ ∀ p, H1 p = none → Q (.ref p) (upd H1 p (.lst xs))) : tLst tr σ H Q := q
theorem rd_par {i j : Nat} (q : tr σ H fun vs H1 => ∃ v w, vs = [v, w] ∧ D.nx ((σ.set i (some v)).set j (some w)) H1) : tPar i j tr D σ H := q
theorem rd_two {P : V → V → Prop} {a b : V} (q : P a b) : ∃ v w, [a, b] = [v, w] ∧ P v w := ⟨a, b, rfl, q⟩
theorem rd_bm {T : String} {r : V → List V → Hp → VK → Prop} (q : te σ H fun x H1 => tyV K T x H1 ∧ tr σ H1 fun xs H2 => r x xs H2 Q) : tBM K T r te tr σ H Q := q
theorem rd_app {a : Addr} {xs : List V} (h : H a = some (.lst xs)) (z : xs.length < 1000000) (q : Q .non (upd H a (.lst (xs ++ [v])))) : rAppend (.ref a) [v] H Q := ⟨a, xs, v, rfl, rfl, h, Nat.lt_of_lt_of_le z (by decide), q⟩
theorem ty_list {a : Addr} {xs : List V} (h : SqL K H a xs) : tyV K "list" (.ref a) H := .inl ⟨rfl, _, h⟩
theorem rd_sl {r : V → Option Int → Option Int → Hp → VK → Prop} {tl th : TO} (q : te σ H fun x H1 => tl σ H1 fun l H2 => th σ H2 fun u H3 => r x l u H3 Q) : tSl r te tl th σ H Q := q
theorem rd_noPart {QO : Option Int → Hp → Prop} (q : QO none H) : tNoPart σ H QO := q
theorem rd_part {QO : Option Int → Hp → Prop} (q : te σ H fun x H1 => ∃ i, x = .int i ∧ QO (some i) H1) : tPart te σ H QO := q
theorem rd_int {P : Int → Prop} {k : Int} (q : P k) : ∃ i, V.int k = V.int i ∧ P i := ⟨k, rfl, q⟩
theorem rd_dec {A B p : Prop} [Decidable p] (h1 : p → A) (h2 : ¬ p → B) : if decide p = true then A else B := by
  by_cases h : p
  · rw [decide_eq_true h, if_pos rfl]; exact h1 h
  · rw [decide_eq_false h, if_neg Bool.false_ne_true]; exact h2 h
theorem rd_decN {A B p : Prop} [Decidable p] (h1 : p → B) (h2 : ¬ p → A) : if (!decide p) = true then A else B := by
  by_cases h : p
  · rw [decide_eq_true h, if_neg (show ¬ (!true) = true by decide)]; exact h1 h
  · rw [decide_eq_false h, if_pos (show (!false) = true by decide)]; exact h2 h
theorem rd_nT {A B : Prop} (h : B) : if (!true) = true then A else B := by rw [if_neg (show ¬ (!true) = true by decide)]; exact h
theorem rd_nF {A B : Prop} (h : A) : if (!false) = true then A else B := by rw [if_pos (show (!false) = true by decide)]; exact h
theorem rd_iT {A B : Prop} (h : A) : if true = true then A else B := h
theorem rd_iF {A B : Prop} (h : B) : if false = true then A else B := by rw [if_neg Bool.false_ne_true]; exact h
/-! operators of ints -/
theorem rd_I0 {g : Int → Int → V} {a b : Int} (q : Q (g a b) H) : rI0 g (.int a) (.int b) H Q := ⟨a, b, rfl, rfl, q⟩
theorem rd_I {C : Int → Int → Prop} {g : Int → Int → V} {a b : Int} (c : C a b) (q : Q (g a b) H) : rI C g (.int a) (.int b) H Q := ⟨a, b, rfl, rfl, c, q⟩
theorem rd_U {g : Int → V} {a : Int} (q : Q (g a) H) : rU g (.int a) H Q := ⟨a, rfl, q⟩
/-! is None -/
theorem rd_isN (q : Q (.bl (decide (x = .non))) H) : rIsN x .non H Q := ⟨rfl, q⟩
theorem rd_notN (q : Q (.bl (!decide (x = .non))) H) : rNotN x .non H Q := ⟨rfl, q⟩
theorem int_non {a : Int} : decide (V.int a = V.non) = false := decide_eq_false (fun z => nomatch z)
theorem str_non {a : Str} : decide (V.str a = V.non) = false := decide_eq_false (fun z => nomatch z)
theorem bl_non {a : Bool} : decide (V.bl a = V.non) = false := decide_eq_false (fun z => nomatch z)
theorem ref_non {a : Addr} : decide (V.ref a = V.non) = false := decide_eq_false (fun z => nomatch z)
theorem non_non : decide (V.non = V.non) = true := decide_eq_true rfl
theorem int_eq {a b : Int} : decide (V.int a = V.int b) = decide (a = b) := by
  by_cases h : a = b
  · subst h; rw [decide_eq_true rfl, decide_eq_true rfl]
  · rw [decide_eq_false h, decide_eq_false (fun z => h (V.int.inj z))]
theorem bl_eq {a b : Bool} : decide (V.bl a = V.bl b) = decide (a = b) := by
  by_cases h : a = b
  · subst h; rw [decide_eq_true rfl, decide_eq_true rfl]
  · rw [decide_eq_false h, decide_eq_false (fun z => h (V.bl.inj z))]
theorem str_eq {a b : Str} : decide (V.str a = V.str b) = decide (a = b) := by
  by_cases h : a = b
  · subst h; rw [decide_eq_true rfl, decide_eq_true rfl]
  · rw [decide_eq_false h, decide_eq_false (fun z => h (V.str.inj z))]
end

/-! ### rules of several kinds -/
/-- a + b -/
def rStrAdd : R2 := fun x y H Q => ∃ i j, x = .str i ∧ y = .str j ∧ i.length + j.length ≤ sizeLine ∧ Q (.str (i ++ j)) H
def gAdd (K : PySem.W.Frag) : R2 := fun x y H Q => rI0 (fun i j => .int (i + j)) x y H Q ∨ rStrAdd x y H Q ∨ rCat x y H Q ∨ rCatA K x y H Q
/-- a == b: scalars; data -/
def gEq (K : PySem.W.Frag) : R2 := fun x y H Q => rEq x y H Q ∨ rEqD K x y H Q
def gNe (K : PySem.W.Frag) : R2 := fun x y H Q => rNe x y H Q ∨ rNeD K x y H Q
/-- a * b: ints; a list's copies -/
def gMul : R2 := fun x y H Q => rI CMul (fun i j => .int (i * j)) x y H Q ∨ rRep x y H Q
/-- a < b -/
def rStrLt : R2 := fun x y H Q => ∃ i j, x = .str i ∧ y = .str j ∧ Q (.bl (decide (i.cps.toList < j.cps.toList))) H
/-- a < b of data that can be compared place by place -/
def rLtD (K : PySem.W.Frag) : R2 := fun x y H Q => ∃ d e, Dp K H x d ∧ Dp K H y e ∧ PySem.W.alike d e = true ∧ d ≠ .none ∧ PyData.depth d ≤ 64 ∧ Q (.bl (PySem.W.dataLt d e)) H
theorem op_ltD {X : Cx} (hu : X.A.units + 64 < cLine) : OpR X (compareOp .Lt) (rLtD X.K) := by
  rintro pins s σ H x y v u Q hI hv hu' ⟨d, e, hd, he, hal, hno, hdep, hQ⟩
  have ⟨l1, hr1⟩ := Dp.reads hI d x v hd hv
  have ⟨l2, hr2⟩ := Dp.reads hI e y u he hu'
  have room : X.A.units + min d.depth e.depth < cLine := by
    have hm := Nat.min_le_left d.depth e.depth
    omega
  exact PySem.W.rcLt_alike d e X.A s v u l1 l2 hr1 hr2 hal hno room _ _ _ _ ⟨.bl _, H, hI, rfl, hQ⟩
def gLt (K : PySem.W.Frag) : R2 := fun x y H Q => rI0 (fun i j => .bl (decide (i < j))) x y H Q ∨ rStrLt x y H Q ∨ rLtD K x y H Q
/-- x in y: a sign of a text; of a list or tuple of flat things; data in a list -/
def gIn (K : PySem.W.Frag) : R2 := fun x y H Q => rInS x y H Q ∨ rIn K false x y H Q
def gNotIn (K : PySem.W.Frag) : R2 := fun x y H Q => rNotInS x y H Q ∨ rIn K true x y H Q
def gSl (K : PySem.W.Frag) : V → Option Int → Option Int → Hp → VK → Prop := fun x lo hi H Q => rSlL K x lo hi H Q ∨ rSlS x lo hi H Q ∨ rSlT K x lo hi H Q
def rSeqOf (K : PySem.W.Frag) (x : V) (H : Hp) (xs : List V) : Prop := ∃ p, x = .ref p ∧ (SqL K H p xs ∨ SqT K H p xs)
def gLen (K : PySem.W.Frag) : List V → Hp → VK → Prop := fun xs H Q => ∃ x n, xs = [x] ∧ LenV K x H n ∧ Q (.int n) H
def gInt : List V → Hp → VK → Prop := fun xs H Q => ((∃ i, xs = [.int i] ∧ Q (.int i) H) ∨ ∃ k, xs = [.bl k] ∧ Q (.int (if k then 1 else 0)) H) ∨ (∃ a n, xs = [.str a] ∧ PySem.intText? a = some n ∧ a.length ≤ 640 ∧ Q (.int n) H)
def gBool : List V → Hp → VK → Prop := fun xs H Q => (∃ i, xs = [.int i] ∧ Q (.bl (i != 0)) H) ∨ ∃ k, xs = [.bl k] ∧ Q (.bl k) H
def gList (K : PySem.W.Frag) : List V → Hp → VK → Prop := fun xs H Q => ∃ p ys, xs = [.ref p] ∧ (SqL K H p ys ∨ SqT K H p ys) ∧ ∀ l, H l = none → Q (.ref l) (upd H l (.lst ys))
def gTuple (K : PySem.W.Frag) : List V → Hp → VK → Prop := fun xs H Q => ∃ p ys, xs = [.ref p] ∧ ((SqL K H p ys ∧ ∀ l, H l = none → Q (.ref l) (upd H l (.tup ys))) ∨ (SqT K H p ys ∧ Q (.ref p) H))
def gIsi (K : PySem.W.Frag) : List V → Hp → VK → Prop := fun xs H Q => rIsi K xs H Q ∨ rIsiT K xs H Q
def gRange1 : Nat := 0
section
variable {X : Cx}
theorem og_add : OpR X (binaryOp .Add) (gAdd X.K) := op_add.or (op_add_str.or (op_cat.or op_catA))
theorem og_sub : OpR X (binaryOp .Sub) (rI0 fun i j => .int (i - j)) := op_sub
theorem og_mul : OpR X (binaryOp .Mult) gMul := op_mul.or op_rep
theorem og_mod : OpR X (binaryOp .Mod) (rI (fun _ j => j ≠ 0) fun i j => .int (i.fmod j)) := op_modN
theorem og_fdiv : OpR X (binaryOp .FloorDiv) (rI CDivN fun i j => .int (i.fdiv j)) := op_fdivN
theorem og_pow : OpR X (binaryOp .Pow) (rI CPow fun i j => .int (i ^ j.toNat)) := op_pow
theorem og_eq (hu : X.A.units + 64 < cLine) : OpR X (compareOp .Eq) (gEq X.K) := op_eq.or (op_eqD hu)
theorem og_ne (hu : X.A.units + 64 < cLine) : OpR X (compareOp .NotEq) (gNe X.K) := op_ne.or (op_neD hu)
theorem og_lt (hu : X.A.units + 64 < cLine) : OpR X (compareOp .Lt) (gLt X.K) := op_lt.or (op_lt_str.or (op_ltD hu))
theorem og_le : OpR X (compareOp .LtE) (rI0 fun i j => .bl (decide (i ≤ j))) := op_le
theorem og_gt : OpR X (compareOp .Gt) (rI0 fun i j => .bl (decide (j < i))) := op_gt
theorem og_ge : OpR X (compareOp .GtE) (rI0 fun i j => .bl (decide (j ≤ i))) := op_ge
theorem og_in : OpR X (compareOp .In) (gIn X.K) := op_inS.or op_in_seq
theorem og_notIn : OpR X (compareOp .NotIn) (gNotIn X.K) := op_notInS.or op_notIn_seq
theorem og_sl : SlR X (gSl X.K) := sl_list.or (sl_str.or sl_tup)
theorem cg_len : CallR X (.builtin "len") (gLen X.K) := call_len
theorem cg_int : CallR X (.type "int") gInt := call_int1.or call_int_str
theorem cg_bool : CallR X (.type "bool") gBool := call_bool1
theorem cg_list : CallR X (.type "list") (gList X.K) := call_list_of
theorem cg_tuple : CallR X (.type "tuple") (gTuple X.K) := call_tuple_of
theorem cg_isi : CallR X (.builtin "isinstance") (gIsi X.K) := call_isi.or call_isiT
end
section
variable {K : PySem.W.Frag} {σ : L2.St} {H : Hp} {v x y : V} {Q : VK}
theorem rd_addI {a b : Int} (q : Q (.int (a + b)) H) : gAdd K (.int a) (.int b) H Q := .inl ⟨a, b, rfl, rfl, q⟩
theorem rd_addS {a b : Str} (h : a.length + b.length ≤ sizeLine) (q : Q (.str (a ++ b)) H) : gAdd K (.str a) (.str b) H Q := .inr (.inl ⟨a, b, rfl, rfl, h, q⟩)
theorem rd_addL {a b : Addr} {xs ys : List V} (h1 : H a = some (.lst xs)) (h2 : H b = some (.lst ys)) (h : xs.length + ys.length ≤ sizeLine) (q : ∀ p, H p = none → Q (.ref p) (upd H p (.lst (xs ++ ys)))) : gAdd K (.ref a) (.ref b) H Q := .inr (.inr (.inl ⟨a, b, xs, ys, rfl, rfl, h1, h2, h, q⟩))
theorem rd_mulI {a b : Int} (h : CMul a b) (q : Q (.int (a * b)) H) : gMul (.int a) (.int b) H Q := .inl ⟨a, b, rfl, rfl, h, q⟩
theorem rd_eqI {a b : Int} (q : Q (.bl (decide (a = b))) H) : gEq K (.int a) (.int b) H Q := .inl ⟨rfl, by rw [int_eq]; exact q⟩
theorem rd_neI {a b : Int} (q : Q (.bl (!decide (a = b))) H) : gNe K (.int a) (.int b) H Q := .inl ⟨rfl, by rw [int_eq]; exact q⟩
theorem rd_eqB {a b : Bool} (q : Q (.bl (decide (a = b))) H) : gEq K (.bl a) (.bl b) H Q := .inl ⟨rfl, by rw [bl_eq]; exact q⟩
theorem rd_neB {a b : Bool} (q : Q (.bl (!decide (a = b))) H) : gNe K (.bl a) (.bl b) H Q := .inl ⟨rfl, by rw [bl_eq]; exact q⟩
theorem rd_eqS {a b : Str} (q : Q (.bl (decide (a = b))) H) : gEq K (.str a) (.str b) H Q := .inl ⟨rfl, by rw [str_eq]; exact q⟩
theorem rd_neS {a b : Str} (q : Q (.bl (!decide (a = b))) H) : gNe K (.str a) (.str b) H Q := .inl ⟨rfl, by rw [str_eq]; exact q⟩
theorem rd_eqD {d e : PyData} (h1 : Dp K H x d) (h2 : Dp K H y e) (s1 : SeqAt.shaped d = true) (s2 : SeqAt.shaped e = true) (q : Q (.bl (PyData.eqv d e)) H) : gEq K x y H Q := .inr ⟨d, e, h1, h2, s1, s2, q⟩
theorem rd_neD {d e : PyData} (h1 : Dp K H x d) (h2 : Dp K H y e) (s1 : SeqAt.shaped d = true) (s2 : SeqAt.shaped e = true) (q : Q (.bl (!PyData.eqv d e)) H) : gNe K x y H Q := .inr ⟨d, e, h1, h2, s1, s2, q⟩
theorem rd_ltI {a b : Int} (q : Q (.bl (decide (a < b))) H) : gLt K (.int a) (.int b) H Q := .inl ⟨a, b, rfl, rfl, q⟩
theorem rd_ltD {d e : PyData} (h1 : Dp K H x d) (h2 : Dp K H y e) (a : PySem.W.alike d e = true) (n : d ≠ .none) (z : PyData.depth d ≤ 64) (q : Q (.bl (PySem.W.dataLt d e)) H) : gLt K x y H Q := .inr (.inr ⟨d, e, h1, h2, a, n, z, q⟩)
theorem rd_intI {a : Int} (q : Q (.int a) H) : gInt [.int a] H Q := .inl (.inl ⟨a, rfl, q⟩)
theorem rd_intB {k : Bool} (q : Q (.int (if k then 1 else 0)) H) : gInt [.bl k] H Q := .inl (.inr ⟨k, rfl, q⟩)
theorem rd_boolB {k : Bool} (q : Q (.bl k) H) : gBool [.bl k] H Q := .inr ⟨k, rfl, q⟩
theorem rd_boolI {k : Int} (q : Q (.bl (k != 0)) H) : gBool [.int k] H Q := .inl ⟨k, rfl, q⟩
theorem rd_lenL {a : Addr} {xs : List V} (h : SqL K H a xs) (q : Q (.int xs.length) H) : gLen K [.ref a] H Q := ⟨.ref a, xs.length, rfl, .inl ⟨xs, h, rfl⟩, q⟩
theorem rd_lenT {a : Addr} {xs : List V} (h : SqT K H a xs) (q : Q (.int xs.length) H) : gLen K [.ref a] H Q := ⟨.ref a, xs.length, rfl, .inr ⟨xs, h, rfl⟩, q⟩
theorem rd_lenS {z : Str} (h : z.length ≤ sizeLine) (q : Q (.int z.length) H) : gLen K [.str z] H Q := ⟨.str z, z.length, rfl, ⟨h, rfl⟩, q⟩
theorem rd_ixL {a : Addr} {xs : List V} {i : Int} (h : SqL K H a xs) (e : atI xs i = some v) (q : Q v H) : rIx K (.ref a) (.int i) H Q := .inl ⟨a, xs, i, v, rfl, rfl, h, e, q⟩
theorem rd_ixT {a : Addr} {xs : List V} {i : Int} (h : SqT K H a xs) (e : atI xs i = some v) (q : Q v H) : rIx K (.ref a) (.int i) H Q := .inr (.inl ⟨a, xs, i, v, rfl, rfl, h, e, q⟩)
theorem rd_ixS {z : Str} {c : Nat} {i : Int} (h : z.length ≤ sizeLine) (e : atI z.cps.toList i = some c) (q : Q (.str ⟨#[c]⟩) H) : rIx K (.str z) (.int i) H Q := .inr (.inr ⟨z, i, c, rfl, rfl, h, e, q⟩)
theorem rd_all {a : Addr} {bs : List Bool} (h : SqL K H a (bs.map V.bl)) (q : Q (.bl (bs.all id)) H) : rAll K [.ref a] H Q := ⟨a, bs, rfl, h, q⟩
theorem rd_any {a : Addr} {bs : List Bool} (h : SqL K H a (bs.map V.bl)) (q : Q (.bl (bs.any id)) H) : rAny K [.ref a] H Q := ⟨a, bs, rfl, h, q⟩
theorem rd_slL {a : Addr} {xs : List V} {lo hi : Option Int} (h : SqL K H a xs) (q : ∀ p, H p = none → Q (.ref p) (upd H p (.lst (cutV xs lo hi)))) : gSl K (.ref a) lo hi H Q := .inl ⟨a, xs, rfl, h, q⟩
end

/-! The law's bag of draws. -/
theorem rd_sub {to ti : TE} {t : TSet} {v : V} {σ : L2.St} {H : Hp} {N : L2.St → Hp → Prop} (q : to σ H fun o H1 => ti σ H1 fun i H2 => t o i v H2 fun H3 => N σ H3) : gSub to ti t v σ H N := q
theorem rd_setL {p : Addr} {xs : List V} {k : Int} {j : Nat} {v : V} {H : Hp} {Q : Hp → Prop} (h : H p = some (.lst xs)) (e : ixN xs.length k = some j) (q : Q (upd H p (.lst (xs.set j v)))) : rSetL (.ref p) (.int k) v H Q := ⟨p, xs, k, j, rfl, rfl, h, e, q⟩
local macro_rules | `(tactic| walk_at "sql") => `(tactic| first
  | exact sq_of (by assumption)
  | assumption
  | exact ex_l (Stt.ex (by assumption)) (by assumption)
  | exact sq_of upd_same)
local macro_rules | `(tactic| walk_at "sqt") => `(tactic| first
  | exact st_of (by assumption)
  | assumption
  | exact ex_t (Stt.ex (by assumption)) (by assumption)
  | exact st_of upd_same)
local macro_rules | `(tactic| walk_at "ix") => `(tactic| first
  | ((with_reducible refine' rd_ixL ?h1 ?h2 ?_); (case h1 => walk_at "sql"); (case h2 => exact rfl))
  | ((with_reducible refine' rd_ixT ?h1 ?h2 ?_); (case h1 => walk_at "sqt"); (case h2 => exact rfl)))
local macro_rules | `(tactic| walk_at "go1") => `(tactic| first
  | with_reducible refine rd_seq ?_
  | with_reducible refine rd_op ?_
  | with_reducible refine rd_c ?_
  | ((with_reducible refine' rd_var ?hv ?_); (case hv => exact rfl))
  | with_reducible refine rd_cons ?_
  | with_reducible refine rd_nil ?_
  | with_reducible refine rd_asg ?_
  | with_reducible refine rd_name ?_
  | with_reducible refine rd_ret ?_
  | with_reducible refine rd_ifs ?_
  | with_reducible refine rd_test ?_
  | with_reducible refine rd_B ?_
  | with_reducible refine rd_bl ?_
  | with_reducible refine rd_and ?_
  | with_reducible refine rd_or ?_
  | with_reducible refine rd_not ?_
  | with_reducible refine rd_andV ?_
  | with_reducible refine rd_orV ?_
  | with_reducible refine rd_notV ?_
  | with_reducible refine rd_if ?_
  | with_reducible refine rd_iT ?_
  | with_reducible refine rd_iF ?_
  | with_reducible refine rd_nT ?_
  | with_reducible refine rd_nF ?_
  | with_reducible refine rd_cb ?_
  | with_reducible refine rd_call ?_
  | with_reducible refine rd_callK ?_
  | with_reducible refine rd_next ?_
  | with_reducible refine rd_drop ?_
  | with_reducible refine rd_par ?_
  | with_reducible refine rd_two ?_
  | with_reducible refine rd_bm ?_
  | with_reducible refine rd_tup ?_
  | with_reducible refine rd_lst ?_
  | with_reducible refine rd_sl ?_
  | with_reducible refine rd_noPart ?_
  | with_reducible refine rd_part ?_
  | with_reducible refine rd_int ?_
  | with_reducible refine rd_un ?_
  | with_reducible refine rd_I0 ?_
  | with_reducible refine rd_U ?_
  | with_reducible refine rd_isN ?_
  | with_reducible refine rd_notN ?_
  | with_reducible refine rd_addI ?_
  | with_reducible refine rd_eqI ?_
  | with_reducible refine rd_neI ?_
  | with_reducible refine rd_eqB ?_
  | with_reducible refine rd_neB ?_
  | with_reducible refine rd_eqS ?_
  | with_reducible refine rd_neS ?_
  | with_reducible refine rd_ltI ?_
  | with_reducible refine rd_intI ?_
  | with_reducible refine rd_intB ?_
  | with_reducible refine rd_boolB ?_
  | with_reducible refine rd_boolI ?_
  | with_reducible refine rd_sub ?_
  | walk_at "ix")
local macro_rules | `(tactic| walk_at "go") => `(tactic| (repeat walk_at "go1"); (try dsimp only))
local macro_rules | `(tactic| walk_at "dec") => `(tactic| first
  | ((with_reducible refine rd_dec (fun e => ?_) (fun e => ?_)) <;> first | (exfalso; revert e; decide) | (exfalso; cases e; done) | exact absurd rfl e | skip)
  | ((with_reducible refine rd_decN (fun e => ?_) (fun e => ?_)) <;> first | (exfalso; revert e; decide) | (exfalso; cases e; done) | exact absurd rfl e | skip))

def bagO (c : Addr) (i r x n : Int) : HO := .lst [.ref c, .int i, .int r, .int x, .int n]
def Bag (K : PySem.W.Frag) (G H : Hp) (b : Addr) (L : List (Addr × HO)) : Prop :=
  ∃ (c : Addr) (i r x n : Int) (ns : List Int), Stt G H ((b, .lst [.ref c, .int i, .int r, .int x, .int n]) :: L) ∧ SqL K G c (ns.map V.int) ∧ 0 ≤ i ∧ 0 ≤ r ∧ 0 ≤ x ∧ x < 2147483587 ∧ 0 ≤ n
def sp_draw (K : PySem.W.Frag) : Sp := fun vs H Q _ => ∃ (b : Addr) (m : Int) (G : Hp) (L : List (Addr × HO)), vs = [.ref b, .int m] ∧ 0 < m ∧ m < 1073741824 ∧ Bag K G H b L ∧
  ∀ d H', 0 ≤ d → d < m → Bag K G H' b L → Q (.int d) H'
def t_draw_0a_3 (K : PySem.W.Frag) : TS :=
  (tAsg (tOp (rI (fun _ j => j ≠ 0) fun i j => .int (i.fmod j)) (tCB gInt (tCons (tOp (gAdd K) (tOp (gAdd K) (tOp gMul (tOp (rIx K) (tVar 0) (tC (.int 3))) (tC (.int 40039))) (tOp gMul (tOp (rI (fun _ j => j ≠ 0) fun i j => .int (i.fmod j)) (tCB gInt (tCons (tVar 2) tNil)) (tC (.int 2147483549))) (tC (.int 337)))) (tC (.int 2017))) tNil)) (tC (.int 2147483587))) (gSub (tVar 0) (tC (.int 3)) rSetL))
def t_draw_0a_2 (K : PySem.W.Frag) : TS :=
  (tSeq (tAsg (tIf (tTest (tOp (rI0 fun i j => .bl (decide (j ≤ i))) (tVar 2) (tOp (rI CPow fun i j => .int (i ^ j.toNat)) (tC (.int 10)) (tC (.int 18))))) (tVar 2) (tC (.int 0))) (gSub (tVar 0) (tC (.int 2)) rSetL))
  (t_draw_0a_3 K))
def t_draw_0a_1 (K : PySem.W.Frag) : TS :=
  (tSeq (tAsg (tOp (gAdd K) (tOp (rIx K) (tVar 0) (tC (.int 1))) (tC (.int 1))) (gSub (tVar 0) (tC (.int 1)) rSetL))
  (t_draw_0a_2 K))
def t_draw_1a_2 (K : PySem.W.Frag) : TS :=
  (tRet (tVar 3))
def t_draw_1a_1 (K : PySem.W.Frag) : TS :=
  (tSeq (tAsg (tOp (rI CDivN fun i j => .int (i.fdiv j)) (tOp (rIx K) (tVar 0) (tC (.int 2))) (tVar 1)) (gSub (tVar 0) (tC (.int 2)) rSetL))
  (t_draw_1a_2 K))
def t_draw_5 (K : PySem.W.Frag) : TS :=
  (tRet (tOp (rI (fun _ j => j ≠ 0) fun i j => .int (i.fmod j)) (tCB gInt (tCons (tOp (gAdd K) (tOp (gAdd K) (tOp (rI CDivN fun i j => .int (i.fdiv j)) (tOp (rIx K) (tVar 0) (tC (.int 3))) (tC (.int 61))) (tOp gMul (tVar 4) (tC (.int 32003)))) (tOp (rIx K) (tVar 0) (tC (.int 4)))) tNil)) (tVar 1)))
def t_draw_4 (K : PySem.W.Frag) : TS :=
  (tSeq (tAsg (tOp (rI (fun _ j => j ≠ 0) fun i j => .int (i.fmod j)) (tCB gInt (tCons (tOp (gAdd K) (tOp (gAdd K) (tOp (gAdd K) (tOp gMul (tVar 4) (tVar 4)) (tOp gMul (tC (.int 65063)) (tVar 4))) (tOp gMul (tC (.int 6679)) (tOp (rIx K) (tVar 0) (tC (.int 4))))) (tC (.int 40009))) tNil)) (tC (.int 2147483587))) (gSub (tVar 0) (tC (.int 3)) rSetL))
  (t_draw_5 K))
def t_draw_3 (K : PySem.W.Frag) : TS :=
  (tSeq (tAsg (tOp (rIx K) (tVar 0) (tC (.int 3))) (gName 4))
  (t_draw_4 K))
def t_draw_2 (K : PySem.W.Frag) : TS :=
  (tSeq (tAsg (tOp (gAdd K) (tOp (rIx K) (tVar 0) (tC (.int 4))) (tC (.int 1))) (gSub (tVar 0) (tC (.int 4)) rSetL))
  (t_draw_3 K))
def t_draw_1 (K : PySem.W.Frag) : TS :=
  (tSeq (tIfS (tTest (tOp (rI0 fun i j => .bl (decide (j < i))) (tOp (rIx K) (tVar 0) (tC (.int 2))) (tC (.int 0)))) (tSeq (tAsg (tOp (rI (fun _ j => j ≠ 0) fun i j => .int (i.fmod j)) (tCB gInt (tCons (tOp (rIx K) (tVar 0) (tC (.int 2))) tNil)) (tVar 1)) (gName 3))
  (t_draw_1a_1 K)) tNext)
  (t_draw_2 K))
def t_draw (K : PySem.W.Frag) : TS :=
  (tSeq (tIfS (tAnd (tTest (tOp (gEq K) (tOp (rIx K) (tVar 0) (tC (.int 2))) (tC (.int 0)))) (tTest (tOp (gLt K) (tOp (rIx K) (tVar 0) (tC (.int 1))) (tCB (gLen K) (tCons (tOp (rIx K) (tVar 0) (tC (.int 0))) tNil))))) (tSeq (tAsg (tOp (rIx K) (tOp (rIx K) (tVar 0) (tC (.int 0))) (tOp (rIx K) (tVar 0) (tC (.int 1)))) (gName 2))
  (t_draw_0a_1 K)) tNext)
  (t_draw_1 K))
theorem fmod_lo (a : Int) {b : Int} (h : 0 < b) : 0 ≤ a.fmod b := by rw [Int.fmod_eq_emod_of_nonneg a (by omega)]; exact Int.emod_nonneg a (by omega)
theorem fmod_hi (a : Int) {b : Int} (h : 0 < b) : a.fmod b < b := by rw [Int.fmod_eq_emod_of_nonneg a (by omega)]; exact Int.emod_lt_of_pos a h
theorem fdiv_lo {a b : Int} (ha : 0 ≤ a) (h : 0 < b) : 0 ≤ a.fdiv b := by rw [Int.fdiv_eq_ediv_of_nonneg a (by omega)]; exact Int.ediv_nonneg ha (by omega)
theorem read_draw_1 {K : PySem.W.Frag} {b c : Addr} {m i r x n : Int} {ns : List Int} {G H : Hp} {L : List (Addr × HO)} {D : Ends} {s2 s3 s4 : Option V} (m0 : 0 < m) (m1 : m < 1073741824)
    (S : Stt G H ((b, .lst [.ref c, .int i, .int r, .int x, .int n]) :: L)) (hc : SqL K G c (ns.map V.int)) (hi : 0 ≤ i) (hr : 0 ≤ r) (hx : 0 ≤ x) (hx2 : x < 2147483587) (hn : 0 ≤ n)
    (q : ∀ d H', 0 ≤ d → d < m → Bag K G H' b L → D.rt (.int d) H') : t_draw_1 K D [some (.ref b), some (.int m), s2, s3, s4] H := by
  have hb := S.at 0 rfl
  unfold t_draw_1
  walk_at "go"
  refine rd_dec (fun e => ?_) (fun e => ?_)
  · walk_at "go"
    refine rd_I (by omega) ?_
    walk_at "go"
    unfold t_draw_1a_1
    walk_at "go"
    refine rd_I ⟨by omega, by omega⟩ ?_
    walk_at "go"
    refine rd_setL hb rfl ?_
    unfold t_draw_1a_2
    walk_at "go"
    exact q _ _ (fmod_lo _ m0) (fmod_hi _ m0) ⟨c, i, r.fdiv m, x, n, ns, S.wr 0 rfl, hc, hi, fdiv_lo hr m0, hx, hx2, hn⟩
  · walk_at "go"
    unfold t_draw_2
    walk_at "go"
    refine rd_setL hb rfl ?_
    have S2 : Stt G (upd H b _) ((b, .lst [.ref c, .int i, .int r, .int x, .int (n + 1)]) :: L) := S.wr 0 rfl
    have hb2 := S2.at 0 rfl
    unfold t_draw_3
    walk_at "go"
    unfold t_draw_4
    walk_at "go"
    refine rd_mulI (.inl ⟨by omega, by omega⟩) ?_
    walk_at "go"
    refine rd_mulI (.inl ⟨by omega, by omega⟩) ?_
    walk_at "go"
    refine rd_mulI (.inl ⟨by omega, by omega⟩) ?_
    walk_at "go"
    refine rd_I (by decide) ?_
    walk_at "go"
    refine rd_setL hb2 rfl ?_
    have S3 : Stt G _ ((b, .lst [.ref c, .int i, .int r, .int ((x * x + 65063 * x + 6679 * (n + 1) + 40009).fmod 2147483587), .int (n + 1)]) :: L) := S2.wr 0 rfl
    have hb3 := S3.at 0 rfl
    unfold t_draw_5
    walk_at "go"
    refine rd_I ⟨by decide, by decide⟩ ?_
    walk_at "go"
    refine rd_mulI (.inl ⟨by omega, by omega⟩) ?_
    walk_at "go"
    refine rd_I (by omega) ?_
    exact q _ _ (fmod_lo _ m0) (fmod_hi _ m0) ⟨c, i, r, _, n + 1, ns, S3, hc, hi, hr, fmod_lo _ (by decide), fmod_hi _ (by decide), by omega⟩
theorem read_draw {K : PySem.W.Frag} {b : Addr} {m : Int} {G H : Hp} {L : List (Addr × HO)} {D : Ends} {s2 s3 s4 : Option V} (m0 : 0 < m) (m1 : m < 1073741824)
    (B : Bag K G H b L) (q : ∀ d H', 0 ≤ d → d < m → Bag K G H' b L → D.rt (.int d) H') : t_draw K D [some (.ref b), some (.int m), s2, s3, s4] H := by
  obtain ⟨c, i, r, x, n, ns, S, hc, hi, hr, hx, hx2, hn⟩ := B
  obtain ⟨j, rfl⟩ : ∃ j : Nat, i = (j : Int) := ⟨i.toNat, by omega⟩
  have hb := S.at 0 rfl
  unfold t_draw
  walk_at "go"
  refine rd_dec (fun e => ?_) (fun e => ?_)
  · walk_at "go"
    refine rd_lenL (ex_l S.ex hc) ?_
    walk_at "go"
    refine rd_dec (fun e2 => ?_) (fun e2 => ?_)
    · walk_at "go"
      rw [List.length_map] at e2
      have hi2 : j < ns.length := by omega
      refine rd_ixL (ex_l S.ex hc) (v := .int ns[j]) ?_ ?_
      · refine atI_nat ?_
        rw [List.getElem?_map, List.getElem?_eq_getElem hi2]
        rfl
      walk_at "go"
      unfold t_draw_0a_1
      walk_at "go"
      refine rd_setL hb rfl ?_
      have S2 : Stt G _ ((b, .lst [.ref c, .int ((j : Int) + 1), .int r, .int x, .int n]) :: L) := S.wr 0 rfl
      have hb2 := S2.at 0 rfl
      unfold t_draw_0a_2
      walk_at "go"
      refine rd_I ⟨by decide, by decide, by decide⟩ ?_
      walk_at "go"
      have key : ∀ r', 0 ≤ r' → t_draw_0a_3 K { D with nx := t_draw_1 K D } [some (.ref b), some (.int m), some (.int ns[j]), s3, s4] (upd (upd H b (.lst [.ref c, .int ((j : Int) + 1), .int r, .int x, .int n])) b (.lst [.ref c, .int ((j : Int) + 1), .int r', .int x, .int n])) := by
        intro r' hr'
        have S3 : Stt G _ ((b, .lst [.ref c, .int ((j : Int) + 1), .int r', .int x, .int n]) :: L) := S2.wr 0 rfl
        have hb3 := S3.at 0 rfl
        unfold t_draw_0a_3
        walk_at "go"
        refine rd_mulI (.inr ⟨by decide, by decide⟩) ?_
        walk_at "go"
        refine rd_I (by decide) ?_
        walk_at "go"
        refine rd_mulI (.inr ⟨by decide, by decide⟩) ?_
        walk_at "go"
        refine rd_I (by decide) ?_
        walk_at "go"
        refine rd_setL hb3 rfl ?_
        refine read_draw_1 m0 m1 (S3.wr 0 rfl) hc (by omega) hr' (fmod_lo _ (by decide)) (fmod_hi _ (by decide)) hn q
      refine rd_dec (fun e3 => ?_) (fun e3 => ?_)
      · walk_at "go"
        refine rd_setL hb2 rfl ?_
        exact key _ (by have e3' : (10 : Int) ^ (18 : Int).toNat ≤ ns[j] := e3; have : (0 : Int) < 10 ^ (18 : Int).toNat := by decide
                        omega)
      · walk_at "go"
        refine rd_setL hb2 rfl ?_
        exact key 0 (by decide)
    · walk_at "go"
      exact read_draw_1 m0 m1 S hc hi hr hx hx2 hn q
  · walk_at "go"
    exact read_draw_1 m0 m1 S hc hi hr hx hx2 hn q

/-! Comprehensions and loops over the unchanging heap. -/
/-- what may be said of the heaps: it stays behind a new object, a list at its head may be written -/
structure Wd (W : Hp → Hp → List (Addr × HO) → Prop) : Prop where
  ex : ∀ {G H L}, W G H L → Ex G H
  new : ∀ {G H L p o}, W G H L → H p = none → W (upd G p o) (upd H p o) L
  mk2 : ∀ {G H L p o}, W G H L → H p = none → W G (upd H p o) ((p, o) :: L)
  get : ∀ {G H L p o}, W G H ((p, o) :: L) → H p = some o
  set : ∀ {G H L p o o'}, W G H ((p, o) :: L) → W G (upd H p o') ((p, o') :: L)
  free : ∀ {G H L p}, W G H L → H p = none → G p = none
  drop : ∀ {G H L p o}, W G H ((p, o) :: L) → W G H L
  frz : ∀ {G H L p o}, W G H ((p, o) :: L) → W (upd G p o) H L ∧ Ex G (upd G p o)
theorem stt_world : Wd Stt := ⟨Stt.ex, Stt.new, Stt.mkL, fun S => S.at 0 rfl, fun S => S.wr 0 rfl, Stt.free, Stt.drop, fun S => ⟨S.frz, S.frzE⟩⟩
theorem Wd.newE {W : Hp → Hp → List (Addr × HO) → Prop} (hW : Wd W) {G H : Hp} {L : List (Addr × HO)} {p : Addr} {o : HO} (S : W G H L) (h : H p = none) : Ex G (upd G p o) := Ex.new (hW.free S h)
section
variable {W : Hp → Hp → List (Addr × HO) → Prop} {K : PySem.W.Frag} {J : It} {n : Nat} {Gw : Hp → Prop} {Y : Nat → Hp → V → Hp → Prop} {G H : Hp} {L : List (Addr × HO)} {σ : L2.St} {g : TG} {tt : TT} {te : TE} {vs : List Nat} {Q : VK}
/-- what is read of a comprehension behind its source -/
def LcG (J : It) (g : TG) (tt : TT) (te : TE) (vs : List Nat) (σ : L2.St) (H : Hp) (Q : VK) : Prop := tLc (fun _ H R => R J H) g tt te vs σ H Q
theorem rd_lc {wi : TI} (q : wi σ H fun J H1 => LcG J g tt te vs σ H1 Q) : tLc wi g tt te vs σ H Q := q
theorem rd_yes {QT : Bool → Hp → Prop} (q : QT true H) : tYes σ H QT := q
/-- a comprehension over a walk -/
theorem lc_go (hW : Wd W) (w : Walk J n Gw Y) (S : W G H L) (hn : n < 1000000) (It : Nat → V → Hp → Prop) (Inv : Nat → List V → Hp → Prop)
    (hG : ∀ H', Ex G H' → Gw H')
    (hY : ∀ i x G1 H1 H2 L1, i < n → Ex G G1 → W G1 H1 L1 → Y i H1 x H2 → ∃ G2, Ex G1 G2 ∧ W G2 H2 L1 ∧ It i x G2)
    (h0 : Inv 0 [] G) (hM : ∀ i acc G1 G2, Ex G1 G2 → Inv i acc G1 → Inv i acc G2)
    (hS : ∀ D i x acc G1 H1, i < n → acc.length ≤ i → Ex G G1 → W G1 H1 ((D, .lst acc) :: L) → Inv i acc G1 → It i x G1 → ∀ (Kp : VK) (Sk : Hp → Prop),
      (∀ v G2 H2, Ex G1 G2 → W G2 H2 ((D, .lst acc) :: L) → Inv (i + 1) (acc ++ [v]) G2 → Kp v H2) →
      (∀ G2 H2, Ex G1 G2 → W G2 H2 ((D, .lst acc) :: L) → Inv (i + 1) acc G2 → Sk H2) →
      g x (wipe σ vs) H1 fun σ2 H2 => wipe σ2 vs = wipe σ vs ∧ tt σ2 H2 fun b H3 => if b = true then te σ2 H3 Kp else Sk H3)
    (q : ∀ D acc G2 H2, Ex G G2 → W G2 H2 ((D, .lst acc) :: L) → Inv n acc G2 → acc.length ≤ n → Q (.ref D) H2) :
    LcG J g tt te vs σ H Q := by
  intro D hD
  refine lc_it w (fun i H' => ∃ G1 acc, Ex G G1 ∧ W G1 H' ((D, .lst acc) :: L) ∧ Inv i acc G1 ∧ acc.length ≤ i) ⟨G, [], Ex.refl G, hW.mk2 S hD, h0, Nat.le_refl _⟩
    (fun i H' _ ⟨G1, acc, e1, S1, _, _⟩ => hG H' (e1.trans (hW.ex S1))) (fun i x H1 H2 hi ⟨G1, acc, e1, S1, I1, l1⟩ y => ?_) (fun H' ⟨G1, acc, e1, S1, I1, l1⟩ => q D acc G1 H' e1 S1 I1 l1)
  obtain ⟨G2, e2, S2, it2⟩ := hY i x G1 H1 H2 _ hi e1 S1 y
  have hsz : sizeLine = 16777216 := sizeLine_eq
  refine hS D i x acc G2 H2 hi l1 (e1.trans e2) S2 (hM i acc G1 G2 e2 I1) it2 _ _ (fun v G3 H3 e3 S3 I3 => ?_) (fun G3 H3 e3 S3 I3 => ?_)
  · exact ⟨acc, hW.get S3, by omega, G3, acc ++ [v], e1.trans (e2.trans e3), hW.set S3, I3, by rw [List.length_append, List.length_singleton]; omega⟩
  · exact ⟨G3, acc, e1.trans (e2.trans e3), S3, I3, by omega⟩
end
/-! ### new objects -/
section
variable {W : Hp → Hp → List (Addr × HO) → Prop} {G H : Hp} {L : List (Addr × HO)} {o : HO} {Q : Addr → Prop} {xs : List V}
theorem mk_im (hW : Wd W) (S : W G H L) (q : ∀ p G', Ex G G' → W G' (upd H p o) L → G' p = some o → Q p) : ∀ p, H p = none → Q p := fun p hp =>
  q p _ (hW.newE S hp) (hW.new S hp) upd_same
theorem mk_mu (hW : Wd W) (S : W G H L) (q : ∀ p, W G (upd H p o) ((p, o) :: L) → Q p) : ∀ p, H p = none → Q p := fun p hp =>
  q p (hW.mk2 S hp)
theorem mk_lst (hW : Wd W) (S : W G H L) (hz : xs.length ≤ 100000) (q : ∀ p G', Ex G G' → W G' (upd H p (.lst xs)) L → G' p = some (.lst xs) → Q p) : xs.length ≤ sizeLine ∧ ∀ p, H p = none → Q p := ⟨sz_of hz, mk_im hW S q⟩
theorem mk_tup (hW : Wd W) (S : W G H L) (hz : xs.length ≤ 100000) (q : ∀ p G', Ex G G' → W G' (upd H p (.tup xs)) L → G' p = some (.tup xs) → Q p) : xs.length ≤ sizeLine ∧ ∀ p, H p = none → Q p := ⟨sz_of hz, mk_im hW S q⟩
theorem mk_lstM (hW : Wd W) (S : W G H L) (hz : xs.length ≤ 100000) (q : ∀ p, W G (upd H p (.lst xs)) ((p, .lst xs) :: L) → Q p) : xs.length ≤ sizeLine ∧ ∀ p, H p = none → Q p := ⟨sz_of hz, mk_mu hW S q⟩
end
/-! ### a for -/
section
variable {J : It} {n : Nat} {Gw : Hp → Prop} {Y : Nat → Hp → V → Hp → Prop} {G H : Hp} {σ : L2.St} {g : TG} {tb : TS} {D : Ends}
def ForG (J : It) (g : TG) (tb : TS) (D : Ends) (σ : L2.St) (H : Hp) : Prop := tFor (fun _ H R => R J H) g tb D σ H
theorem rd_for {wi : TI} (q : wi σ H fun J H1 => ForG J g tb D σ H1) : tFor wi g tb D σ H := q
theorem for_go (w : Walk J n Gw Y) (Inv : Nat → L2.St → Hp → Hp → Prop) (h0 : Inv 0 σ G H) (hG : ∀ i σ1 G1 H1, i ≤ n → Inv i σ1 G1 H1 → Gw H1)
    (hS : ∀ i x σ1 G1 H1 H2, i < n → Inv i σ1 G1 H1 → Y i H1 x H2 → ∀ N : L2.St → Hp → Prop, (∀ σ2 G2 H2, Inv (i + 1) σ2 G2 H2 → N σ2 H2) → g x σ1 H2 fun σ2 H3 => tb { D with nx := N, ct := N, bk := D.nx } σ2 H3)
    (hd : ∀ σ1 G1 H1, Inv n σ1 G1 H1 → D.nx σ1 H1) : ForG J g tb D σ H := by
  refine for_it w (fun i σ1 H1 => ∃ G1, Inv i σ1 G1 H1) ⟨G, h0⟩ (fun i σ1 H1 hi ⟨G1, h1⟩ => hG i σ1 G1 H1 hi h1) (fun i x σ1 H1 H2 hi ⟨G1, h1⟩ y => ?_) (fun σ1 H1 ⟨G1, h1⟩ => hd σ1 G1 H1 h1)
  exact hS i x σ1 G1 H1 H2 hi h1 y _ fun σ2 G2 H3 h2 => ⟨G2, h2⟩
end
/-! ### the sources -/
section
variable {K : PySem.W.Frag} {σ : L2.St} {H G : Hp} {a b : Addr} {xs ys : List V} {ta : TA} {te : TE} {R : It → Hp → Prop}
theorem rd_zipA (q : ta σ H fun vs H1 => ∃ a b xs ys, vs = [.ref a, .ref b] ∧ ((SqL K H1 a xs ∧ SqL K H1 b ys ∧ R (Itz K a b) H1) ∨ (SqT K H1 a xs ∧ SqT K H1 b ys ∧ R (ItzT K a b) H1))) : iZipA K ta σ H R := q
theorem rd_zipL {P : It → Prop} (h1 : SqL K H a xs) (h2 : SqL K H b ys) (q : P (Itz K a b)) : ∃ a' b' xs ys, [V.ref a, V.ref b] = [V.ref a', V.ref b'] ∧ ((SqL K H a' xs ∧ SqL K H b' ys ∧ P (Itz K a' b')) ∨ (SqT K H a' xs ∧ SqT K H b' ys ∧ P (ItzT K a' b'))) :=
  ⟨a, b, xs, ys, rfl, .inl ⟨h1, h2, q⟩⟩
theorem rd_zipT {P : It → Prop} (h1 : SqT K H a xs) (h2 : SqT K H b ys) (q : P (ItzT K a b)) : ∃ a' b' xs ys, [V.ref a, V.ref b] = [V.ref a', V.ref b'] ∧ ((SqL K H a' xs ∧ SqL K H b' ys ∧ P (Itz K a' b')) ∨ (SqT K H a' xs ∧ SqT K H b' ys ∧ P (ItzT K a' b'))) :=
  ⟨a, b, xs, ys, rfl, .inr ⟨h1, h2, q⟩⟩
theorem walk_zipT {n : Nat} (hn : n = min xs.length ys.length) : Walk (ItzT K a b) n (fun H => SqT K H a xs ∧ SqT K H b ys) (YPair (fun i => xs[i]?) (fun i => ys[i]?)) where
  goes := fun i _ hi hq =>
    have a1 : i < xs.length := by omega
    have a2 : i < ys.length := by omega
    ⟨xs, ys, _, _, hq.1, hq.2, List.getElem?_eq_getElem a1, List.getElem?_eq_getElem a2⟩
  stops := fun _ hq => ⟨xs, ys, hq.1, hq.2, by omega⟩
  yields := fun _ _ _ _ _ hq ⟨T, c, d, e1, e2, e3, e4, e5⟩ => ⟨T, c, d, e1, e2, e3, e4 xs hq.1, e5 ys hq.2⟩
def ItPair (K : PySem.W.Frag) (xs ys : Nat → Option V) (i : Nat) (x : V) (G : Hp) : Prop := ∃ T u w, x = .ref T ∧ SqT K G T [u, w] ∧ xs i = some u ∧ ys i = some w
theorem item_pair {W : Hp → Hp → List (Addr × HO) → Prop} (hW : Wd W) {xs ys : Nat → Option V} {i : Nat} {x : V} {G1 H1 H2 : Hp} {L1 : List (Addr × HO)} (S : W G1 H1 L1) (y : YPair xs ys i H1 x H2) :
    ∃ G2, Ex G1 G2 ∧ W G2 H2 L1 ∧ ItPair K xs ys i x G2 := by
  obtain ⟨T, u, z, rfl, hT, rfl, h1, h2⟩ := y
  exact ⟨_, hW.newE S hT, hW.new S hT, T, u, z, rfl, st_of upd_same, h1, h2⟩
theorem item_at {W : Hp → Hp → List (Addr × HO) → Prop} {i : Nat} {x : V} {G1 H1 H2 : Hp} {L1 : List (Addr × HO)} (S : W G1 H1 L1) (y : YAt xs i H1 x H2) :
    ∃ G2, Ex G1 G2 ∧ W G2 H2 L1 ∧ xs[i]? = some x := by
  obtain ⟨rfl, h⟩ := y
  exact ⟨G1, Ex.refl _, S, h⟩
theorem item_fn {W : Hp → Hp → List (Addr × HO) → Prop} {f : Nat → V} {i : Nat} {x : V} {G1 H1 H2 : Hp} {L1 : List (Addr × HO)} (S : W G1 H1 L1) (y : YFn f i H1 x H2) :
    ∃ G2, Ex G1 G2 ∧ W G2 H2 L1 ∧ x = f i := by
  obtain ⟨rfl, h⟩ := y
  exact ⟨G1, Ex.refl _, S, h⟩
/-- targets -/
theorem rd_gtup2 {i j : Nat} {T : Addr} {x y : V} {N : L2.St → Hp → Prop} (h : SqT K H T [x, y]) (q : N ((σ.set i (some x)).set j (some y)) H) : gTup K 2 (gCons (gName i) (gCons (gName j) gNil)) (.ref T) σ H N :=
  ⟨T, [x, y], rfl, h, rfl, x, [y], rfl, y, [], rfl, rfl, q⟩
end
section
variable {K : PySem.W.Frag} {σ : L2.St} {H : Hp} {a : Addr} {xs : List V} {te : TE} {R : It → Hp → Prop} {z : Str}
theorem rd_il (q : te σ H fun x H1 => ∃ a, x = .ref a ∧ (∃ xs, SqL K H1 a xs) ∧ R (Itl K a) H1) : iList K te σ H R := q
theorem rd_it (q : te σ H fun x H1 => ∃ a, x = .ref a ∧ (∃ xs, SqT K H1 a xs) ∧ R (Itt K a) H1) : iTup K te σ H R := q
theorem rd_is (q : te σ H fun x H1 => ∃ z, x = .str z ∧ R (Its z) H1) : iStr te σ H R := q
theorem rd_rng1 {ta : TA} (q : ta σ H fun vs H1 => ∃ j : Int, vs = [.int j] ∧ -(2 ^ 62) ≤ j ∧ j < 2 ^ 62 ∧ R (Itr 0 j.toNat) H1) : iRng1 ta σ H R := q
theorem rd_rng1i {P : It → Prop} {n : Int} (h1 : -(2 ^ 62) ≤ n) (h2 : n < 2 ^ 62) (q : P (Itr 0 n.toNat)) : ∃ j : Int, [V.int n] = [.int j] ∧ -(2 ^ 62) ≤ j ∧ j < 2 ^ 62 ∧ P (Itr 0 j.toNat) := ⟨n, rfl, h1, h2, q⟩
end

/-! The law's likeness of data. -/

mutual
def lk : PyData → PyData → Bool
  | .none, .none => true
  | .bool a, .bool b => decide (a = b)
  | .int a, .int b => decide (a = b)
  | .str a, .str b => decide (a = b)
  | .list xs, .list ys => lkAll xs ys
  | .tuple xs, .tuple ys => lkAll xs ys
  | _, _ => false
def lkAll : List PyData → List PyData → Bool
  | [], [] => true
  | x :: xs, y :: ys => lk x y && lkAll xs ys
  | _, _ => false
end
mutual
theorem lk_refl : ∀ d, PyData.plain d = true → lk d d = true
  | .none, _ => rfl
  | .bool b, _ => decide_eq_true rfl
  | .int i, _ => decide_eq_true rfl
  | .str s, _ => decide_eq_true rfl
  | .list xs, h => lkAll_refl xs h
  | .tuple xs, h => lkAll_refl xs h
  | .dict _, h => by cases h
theorem lkAll_refl : ∀ ds, PyData.plainAll ds = true → lkAll ds ds = true
  | [], _ => rfl
  | x :: xs, h => by
    have h' := Bool.and_eq_true_iff.mp (show (PyData.plain x && PyData.plainAll xs) = true from h)
    show (lk x x && lkAll xs xs) = true
    rw [lk_refl x h'.1, lkAll_refl xs h'.2]; rfl
end
mutual
theorem Dp.plain {K : PySem.W.Frag} {H : Hp} : ∀ (d : PyData) (v : V), Dp K H v d → PyData.plain d = true
  | .none, _, _ => rfl
  | .bool _, _, _ => rfl
  | .int _, _, _ => rfl
  | .str _, _, _ => rfl
  | .list ds, _, h => by cases h with | lst hs ha => exact DpAll.plain ds _ ha
  | .tuple ds, _, h => by cases h with | tup hs ha => exact DpAll.plain ds _ ha
  | .dict _, _, h => by cases h
theorem DpAll.plain {K : PySem.W.Frag} {H : Hp} : ∀ (ds : List PyData) (vs : List V), DpAll K H vs ds → PyData.plainAll ds = true
  | [], _, _ => rfl
  | d :: ds, _, h => by
    cases h with
    | cons h1 h2 =>
      show (PyData.plain d && PyData.plainAll ds) = true
      rw [Dp.plain d _ h1, DpAll.plain ds _ h2]; rfl
end
theorem lkAll_zip : ∀ (ds es : List PyData), ds.length = es.length → lkAll ds es = (List.zipWith lk ds es).all id
  | [], [], _ => rfl
  | d :: ds, e :: es, h => by
    show (lk d e && lkAll ds es) = (id (lk d e) && (List.zipWith lk ds es).all id)
    rw [lkAll_zip ds es (by simpa using h)]
    rfl
  | [], _ :: _, h => nomatch h
  | _ :: _, [], h => nomatch h
theorem lkAll_len : ∀ (ds es : List PyData), ds.length ≠ es.length → lkAll ds es = false
  | [], [], h => (h rfl).elim
  | d :: ds, e :: es, h => by
    show (lk d e && lkAll ds es) = false
    rw [lkAll_len ds es (fun z => h (by simp [z])), Bool.and_false]
  | [], _ :: _, _ => rfl
  | _ :: _, [], _ => rfl
/-! ### kinds -/
def tyN : PyData → String
  | .none => "NoneType"
  | .bool _ => "bool"
  | .int _ => "int"
  | .str _ => "str"
  | .list _ => "list"
  | .tuple _ => "tuple"
  | .dict _ => "dict"
theorem SqL.ty {K : PySem.W.Frag} {H : Hp} {a : Addr} {xs : List V} (h : SqL K H a xs) : TyX K H (.ref a) (.type "list") := by
  rcases h with (h | ⟨o, h⟩) | ⟨o, its, n, h1, h2, _⟩
  · exact .base (.lst h)
  · exact .base (.frz h)
  · exact .kList h1 h2
theorem SqT.ty {K : PySem.W.Frag} {H : Hp} {a : Addr} {xs : List V} (h : SqT K H a xs) : TyX K H (.ref a) (.type "tuple") := by
  rcases h with (h | ⟨o, h⟩) | ⟨o, its, n, h1, h2, _⟩
  · exact .base (.tup h)
  · exact .fTuple h
  · exact .kTuple h1 h2
theorem Dp.ty {K : PySem.W.Frag} {H : Hp} {v : V} {d : PyData} (h : Dp K H v d) : TyX K H v (.type (tyN d)) := by
  cases h with
  | non => exact .base .non
  | bl b => exact .base (.bl b)
  | int i => exact .base (.int i)
  | str x => exact .base (.str x)
  | lst hs _ => exact SqL.ty hs
  | tup hs _ => exact SqT.ty hs
theorem rd_isi {K : PySem.W.Frag} {H : Hp} {v : V} {d : PyData} {T : String} {b : Bool} {Q : VK} (h : Dp K H v d) (k : kitB (tyN d) T = some b) (q : Q (.bl b) H) : gIsi K [v, .ty T] H Q :=
  .inl ⟨v, .ty T, .type (tyN d), .type T, b, rfl, .ty T, Dp.ty h, kit_ty k, q⟩
theorem rd_isi2 {K : PySem.W.Frag} {H : Hp} {v : V} {d : PyData} {T U : String} {tp : Addr} {b c : Bool} {Q : VK} (ht : H tp = some (.tup [.ty T, .ty U])) (h : Dp K H v d) (k1 : kitB (tyN d) T = some b) (k2 : kitB (tyN d) U = some c) {r : Bool} (er : (b || c) = r) (q : Q (.bl r) H) : gIsi K [v, .ref tp] H Q :=
  .inr ⟨v, tp, [.ty T, .ty U], .type (tyN d), [.type T, .type U], b || c, rfl, ht, .cons (.ty T) (.cons (.ty U) .nil), Dp.ty h,
    kitAny_cons (kit_ty k1) (fun hb => by subst hb; exact kitAny_cons (kit_ty k2) (fun hc => by subst hc; exact kitAny_nil) (fun hc => by subst hc; rfl)) (fun hb => by subst hb; rfl), by rw [er]; exact q⟩
theorem Stt.less {G G' H : Hp} {L : List (Addr × HO)} (e : Ex G G') (S : Stt G' H L) : Stt G H L := ⟨e.trans S.ex, S.has, fun p hp => fresh_back e (S.out p hp), S.nd⟩
theorem kt_NoneType_bool : kitB "NoneType" "bool" = some false := by decide +kernel
theorem kt_NoneType_int : kitB "NoneType" "int" = some false := by decide +kernel
theorem kt_NoneType_str : kitB "NoneType" "str" = some false := by decide +kernel
theorem kt_NoneType_list : kitB "NoneType" "list" = some false := by decide +kernel
theorem kt_NoneType_tuple : kitB "NoneType" "tuple" = some false := by decide +kernel
theorem kt_bool_bool : kitB "bool" "bool" = some true := by decide +kernel
theorem kt_bool_int : kitB "bool" "int" = some true := by decide +kernel
theorem kt_bool_str : kitB "bool" "str" = some false := by decide +kernel
theorem kt_bool_list : kitB "bool" "list" = some false := by decide +kernel
theorem kt_bool_tuple : kitB "bool" "tuple" = some false := by decide +kernel
theorem kt_int_bool : kitB "int" "bool" = some false := by decide +kernel
theorem kt_int_int : kitB "int" "int" = some true := by decide +kernel
theorem kt_int_str : kitB "int" "str" = some false := by decide +kernel
theorem kt_int_list : kitB "int" "list" = some false := by decide +kernel
theorem kt_int_tuple : kitB "int" "tuple" = some false := by decide +kernel
theorem kt_str_bool : kitB "str" "bool" = some false := by decide +kernel
theorem kt_str_int : kitB "str" "int" = some false := by decide +kernel
theorem kt_str_str : kitB "str" "str" = some true := by decide +kernel
theorem kt_str_list : kitB "str" "list" = some false := by decide +kernel
theorem kt_str_tuple : kitB "str" "tuple" = some false := by decide +kernel
theorem kt_list_bool : kitB "list" "bool" = some false := by decide +kernel
theorem kt_list_int : kitB "list" "int" = some false := by decide +kernel
theorem kt_list_str : kitB "list" "str" = some false := by decide +kernel
theorem kt_list_list : kitB "list" "list" = some true := by decide +kernel
theorem kt_list_tuple : kitB "list" "tuple" = some false := by decide +kernel
theorem kt_tuple_bool : kitB "tuple" "bool" = some false := by decide +kernel
theorem kt_tuple_int : kitB "tuple" "int" = some false := by decide +kernel
theorem kt_tuple_str : kitB "tuple" "str" = some false := by decide +kernel
theorem kt_tuple_list : kitB "tuple" "list" = some false := by decide +kernel
theorem kt_tuple_tuple : kitB "tuple" "tuple" = some true := by decide +kernel
/-- nested less than n deep, no list of a million things -/
def fit : Nat → PyData → Prop
  | 0, _ => False
  | n + 1, .list es => es.length < 1000000 ∧ ∀ e, e ∈ es → fit n e
  | n + 1, .tuple es => es.length < 1000000 ∧ ∀ e, e ∈ es → fit n e
  | _ + 1, _ => True
def sp_like (K : PySem.W.Frag) (n : Nat) : Sp := fun vs H Q _ => ∃ (G : Hp) (L : List (Addr × HO)) (x y : V) (d e : PyData), vs = [x, y] ∧ Stt G H L ∧ Dp K G x d ∧ Dp K G y e ∧ fit n e ∧ (∀ H', Stt G H' L → Q (.bl (lk d e)) H')
def t_like_0a_1 (K : PySem.W.Frag) (n : Nat) : TS :=
  (tRet (tAndV (tOp (gEq K) (tCB (gLen K) (tCons (tVar 0) tNil)) (tCB (gLen K) (tCons (tVar 1) tNil))) (tCB (rAll K) (tCons (tLc (iZipA K (tCons (tVar 0) (tCons (tVar 1) tNil))) (gTup K 2 (gCons (gName 2) (gCons (gName 3) gNil))) tYes (tCall (sp_like K n) [] E0 (tCons (tVar 2) (tCons (tVar 3) tNil))) [2, 3]) tNil))))
def t_like_3 (K : PySem.W.Frag) (n : Nat) : TS :=
  (tRet (tAndV (tOp (gEq K) (tCB (gIsi K) (tCons (tVar 0) (tCons (tC (.ty "str")) tNil))) (tCB (gIsi K) (tCons (tVar 1) (tCons (tC (.ty "str")) tNil)))) (tOp (gEq K) (tVar 0) (tVar 1))))
def t_like_2 (K : PySem.W.Frag) (n : Nat) : TS :=
  (tSeq (tIfS (tOr (tTest (tOp (gNe K) (tCB (gIsi K) (tCons (tVar 0) (tCons (tC (.ty "bool")) tNil))) (tCB (gIsi K) (tCons (tVar 1) (tCons (tC (.ty "bool")) tNil))))) (tTest (tOp (gNe K) (tCB (gIsi K) (tCons (tVar 0) (tCons (tC (.ty "int")) tNil))) (tCB (gIsi K) (tCons (tVar 1) (tCons (tC (.ty "int")) tNil)))))) (tRet (tC (.bl false))) tNext)
  (t_like_3 K n))
def t_like_1 (K : PySem.W.Frag) (n : Nat) : TS :=
  (tSeq (tIfS (tOr (tTest (tOp rIsN (tVar 1) (tC .non))) (tTest (tOp rIsN (tVar 0) (tC .non)))) (tRet (tAndV (tOp rIsN (tVar 1) (tC .non)) (tOp rIsN (tVar 0) (tC .non)))) tNext)
  (t_like_2 K n))
def t_like (K : PySem.W.Frag) (n : Nat) : TS :=
  (tSeq (tIfS (tB (tCB (gIsi K) (tCons (tVar 1) (tCons (tTup (tCons (tC (.ty "list")) (tCons (tC (.ty "tuple")) tNil))) tNil)))) (tSeq (tIfS (tOr (tTest (tOp (gNe K) (tCB (gIsi K) (tCons (tVar 0) (tCons (tC (.ty "list")) tNil))) (tCB (gIsi K) (tCons (tVar 1) (tCons (tC (.ty "list")) tNil))))) (tTest (tOp (gNe K) (tCB (gIsi K) (tCons (tVar 0) (tCons (tC (.ty "tuple")) tNil))) (tCB (gIsi K) (tCons (tVar 1) (tCons (tC (.ty "tuple")) tNil)))))) (tRet (tC (.bl false))) tNext)
  (t_like_0a_1 K n)) tNext)
  (t_like_1 K n))
local macro_rules | `(tactic| walk_at "kt") => `(tactic| first
  | exact kt_NoneType_bool
  | exact kt_NoneType_int
  | exact kt_NoneType_str
  | exact kt_NoneType_list
  | exact kt_NoneType_tuple
  | exact kt_bool_bool
  | exact kt_bool_int
  | exact kt_bool_str
  | exact kt_bool_list
  | exact kt_bool_tuple
  | exact kt_int_bool
  | exact kt_int_int
  | exact kt_int_str
  | exact kt_int_list
  | exact kt_int_tuple
  | exact kt_str_bool
  | exact kt_str_int
  | exact kt_str_str
  | exact kt_str_list
  | exact kt_str_tuple
  | exact kt_list_bool
  | exact kt_list_int
  | exact kt_list_str
  | exact kt_list_list
  | exact kt_list_tuple
  | exact kt_tuple_bool
  | exact kt_tuple_int
  | exact kt_tuple_str
  | exact kt_tuple_list
  | exact kt_tuple_tuple)
local macro_rules | `(tactic| walk_at "dp") => `(tactic| first
  | exact Dp.non | exact Dp.bl _ | exact Dp.int _ | exact Dp.str _ | assumption | exact Dp.ex (Stt.ex (by assumption)) _ _ (by assumption))
local macro_rules | `(tactic| walk_at "isi") => `(tactic| ((with_reducible refine' rd_isi ?h ?k ?_); (case h => walk_at "dp"); (case k => walk_at "kt")))
theorem read_like_list {K : PySem.W.Frag} {n : Nat} {G H : Hp} {L : List (Addr × HO)} {x y : V} {ds : List PyData} {es : List PyData} {D : Ends} {s2 s3 : Option V} (S : Stt G H L) (hx : Dp K G x (.list ds)) (hy : Dp K G y (.list es)) (hz : es.length < 1000000) (hn : ∀ e, e ∈ es → fit n e)
    (q : ∀ H', Stt G H' L → D.rt (.bl (lkAll ds es)) H') : t_like_0a_1 K n D [some x, some y, s2, s3] H := by
  unfold t_like_0a_1
  cases hx with
  | @lst a xs _ ha hA =>
  cases hy with
  | @lst b ys _ hb hB =>
  walk_at "go"
  refine rd_lenL (ex_l S.ex ha) ?_
  walk_at "go"
  refine rd_lenL (ex_l S.ex hb) ?_
  have hl1 := DpAll.length hA
  have hl2 := DpAll.length hB
  walk_at "go"
  refine rd_dec (fun e => ?_) (fun e => ?_)
  · have hl : ds.length = es.length := by omega
    walk_at "go"
    refine rd_lc ?_
    refine rd_zipA ?_
    walk_at "go"
    refine ⟨_, _, _, _, rfl, .inl ⟨ex_l S.ex ha, ex_l S.ex hb, ?_⟩⟩
    refine lc_go stt_world (walk_zip (n := ds.length) (by omega)) S (by omega) (ItPair K (fun i => xs[i]?) (fun i => ys[i]?)) (fun i acc _ => acc = (List.zipWith (fun d e => V.bl (lk d e)) ds es).take i)
      (fun H' e' => ⟨ex_l e' ha, ex_l e' hb⟩) (fun i x G1 H1 H2 L1 _ e1 S1 y => item_pair stt_world S1 y) rfl (fun _ _ _ _ _ h => h) ?_ ?_
    · intro D i x acc G1 H1 hi hacc e1 S1 I1 it Kp Sk kp sk
      obtain ⟨T, u, w, rfl, hT, hu, hw⟩ := it
      obtain ⟨d1, hd1, dp1⟩ := DpAll.get hA hu
      obtain ⟨d2, hd2, dp2⟩ := DpAll.get hB hw
      refine rd_gtup2 (ex_t S1.ex hT) ⟨rfl, ?_⟩
      refine rd_yes (rd_iT ?_)
      walk_at "go"
      refine ⟨G1, _, u, w, d1, d2, rfl, S1, Dp.ex e1 _ _ dp1, Dp.ex e1 _ _ dp2, hn d2 (List.mem_of_getElem? hd2), fun H2 S2 => kp _ G1 H2 (Ex.refl _) S2 ?_⟩
      rw [I1, List.take_add_one, List.getElem?_zipWith, hd1, hd2]
      rfl
    · intro D acc G2 H2 e2 S2 I2 _
      have hacc : acc = (List.zipWith lk ds es).map V.bl := by
        rw [I2, List.map_zipWith, List.take_of_length_le (by rw [List.length_zipWith]; omega)]
      subst hacc
      walk_at "go"
      refine rd_all (sq_of (S2.at 0 rfl)) ?_
      have := q H2 (S2.drop.less e2)
      rw [lkAll_zip ds es hl] at this
      exact this
  · walk_at "go"
    have := q H S
    rw [lkAll_len ds es (by omega)] at this
    exact this
theorem read_like_tup {K : PySem.W.Frag} {n : Nat} {G H : Hp} {L : List (Addr × HO)} {x y : V} {ds : List PyData} {es : List PyData} {D : Ends} {s2 s3 : Option V} (S : Stt G H L) (hx : Dp K G x (.tuple ds)) (hy : Dp K G y (.tuple es)) (hz : es.length < 1000000) (hn : ∀ e, e ∈ es → fit n e)
    (q : ∀ H', Stt G H' L → D.rt (.bl (lkAll ds es)) H') : t_like_0a_1 K n D [some x, some y, s2, s3] H := by
  unfold t_like_0a_1
  cases hx with
  | @tup a xs _ ha hA =>
  cases hy with
  | @tup b ys _ hb hB =>
  walk_at "go"
  refine rd_lenT (ex_t S.ex ha) ?_
  walk_at "go"
  refine rd_lenT (ex_t S.ex hb) ?_
  have hl1 := DpAll.length hA
  have hl2 := DpAll.length hB
  walk_at "go"
  refine rd_dec (fun e => ?_) (fun e => ?_)
  · have hl : ds.length = es.length := by omega
    walk_at "go"
    refine rd_lc ?_
    refine rd_zipA ?_
    walk_at "go"
    refine ⟨_, _, _, _, rfl, .inr ⟨ex_t S.ex ha, ex_t S.ex hb, ?_⟩⟩
    refine lc_go stt_world (walk_zipT (n := ds.length) (by omega)) S (by omega) (ItPair K (fun i => xs[i]?) (fun i => ys[i]?)) (fun i acc _ => acc = (List.zipWith (fun d e => V.bl (lk d e)) ds es).take i)
      (fun H' e' => ⟨ex_t e' ha, ex_t e' hb⟩) (fun i x G1 H1 H2 L1 _ e1 S1 y => item_pair stt_world S1 y) rfl (fun _ _ _ _ _ h => h) ?_ ?_
    · intro D i x acc G1 H1 hi hacc e1 S1 I1 it Kp Sk kp sk
      obtain ⟨T, u, w, rfl, hT, hu, hw⟩ := it
      obtain ⟨d1, hd1, dp1⟩ := DpAll.get hA hu
      obtain ⟨d2, hd2, dp2⟩ := DpAll.get hB hw
      refine rd_gtup2 (ex_t S1.ex hT) ⟨rfl, ?_⟩
      refine rd_yes (rd_iT ?_)
      walk_at "go"
      refine ⟨G1, _, u, w, d1, d2, rfl, S1, Dp.ex e1 _ _ dp1, Dp.ex e1 _ _ dp2, hn d2 (List.mem_of_getElem? hd2), fun H2 S2 => kp _ G1 H2 (Ex.refl _) S2 ?_⟩
      rw [I1, List.take_add_one, List.getElem?_zipWith, hd1, hd2]
      rfl
    · intro D acc G2 H2 e2 S2 I2 _
      have hacc : acc = (List.zipWith lk ds es).map V.bl := by
        rw [I2, List.map_zipWith, List.take_of_length_le (by rw [List.length_zipWith]; omega)]
      subst hacc
      walk_at "go"
      refine rd_all (sq_of (S2.at 0 rfl)) ?_
      have := q H2 (S2.drop.less e2)
      rw [lkAll_zip ds es hl] at this
      exact this
  · walk_at "go"
    have := q H S
    rw [lkAll_len ds es (by omega)] at this
    exact this
local macro_rules | `(tactic| walk_at "gk") => `(tactic| repeat (first | walk_at "go1" | walk_at "isi" | walk_at "dec"))
theorem read_like {K : PySem.W.Frag} {n : Nat} {G H : Hp} {L : List (Addr × HO)} {x y : V} {d e : PyData} {D : Ends} {s2 s3 : Option V} (S : Stt G H L) (hx : Dp K G x d) (hy : Dp K G y e) (hn : fit (n + 1) e)
    (q : ∀ H', Stt G H' L → D.rt (.bl (lk d e)) H') : t_like K n D [some x, some y, s2, s3] H := by
  unfold t_like
  walk_at "gk"
  refine ⟨(by decide : 2 ≤ sizeLine), fun p hp => ?_⟩
  have S1 := S.new (o := .tup [.ty "list", .ty "tuple"]) hp
  have e1 := S.newE (o := .tup [.ty "list", .ty "tuple"]) hp
  have q1 : ∀ H', Stt (upd G p (.tup [.ty "list", .ty "tuple"])) H' L → D.rt (.bl (lk d e)) H' := fun H' S' => q H' (S'.less e1)
  have hx1 := Dp.ex e1 _ _ hx
  have hy1 := Dp.ex e1 _ _ hy
  have hp1 : upd H p (.tup [.ty "list", .ty "tuple"]) p = some (.tup [.ty "list", .ty "tuple"]) := upd_same
  generalize upd G p (.tup [.ty "list", .ty "tuple"]) = G1 at *
  generalize upd H p (.tup [.ty "list", .ty "tuple"]) = H1 at *
  clear hx hy q S e1 hp
  walk_at "go"
  have hy2 := Dp.ex S1.ex _ _ hy1
  cases e with
  | list es =>
    refine rd_isi2 hp1 hy2 kt_list_list kt_list_tuple (r := true) rfl ?_
    walk_at "gk"
    cases d with
    | list ds =>
      walk_at "gk"
      exact read_like_list S1 hx1 hy1 hn.1 hn.2 q1
    | dict _ => cases hx1
    | _ =>
      walk_at "gk"
      exact q1 _ S1
  | tuple es =>
    refine rd_isi2 hp1 hy2 kt_tuple_list kt_tuple_tuple (r := true) rfl ?_
    walk_at "gk"
    cases d with
    | tuple ds =>
      walk_at "gk"
      exact read_like_tup S1 hx1 hy1 hn.1 hn.2 q1
    | dict _ => cases hx1
    | _ =>
      walk_at "gk"
      exact q1 _ S1
  | dict _ => cases hy1
  | none =>
    refine rd_isi2 hp1 hy2 kt_NoneType_list kt_NoneType_tuple (r := false) rfl ?_
    walk_at "gk"
    try dsimp only
    unfold t_like_1
    have hx2 := Dp.ex S1.ex _ _ hx1
    cases hy1
    cases d with
    | dict _ => cases hx1
    | _ =>
      cases hx1
      all_goals (walk_at "gk")
      all_goals (try dsimp only)
      all_goals first
        | exact q1 _ S1
        | (unfold t_like_2; walk_at "gk"; (try dsimp only); first | exact q1 _ S1 | (unfold t_like_3; walk_at "gk"; exact q1 _ S1))
  | bool b =>
    refine rd_isi2 hp1 hy2 kt_bool_list kt_bool_tuple (r := false) rfl ?_
    walk_at "gk"
    try dsimp only
    unfold t_like_1
    have hx2 := Dp.ex S1.ex _ _ hx1
    cases hy1
    cases d with
    | dict _ => cases hx1
    | _ =>
      cases hx1
      all_goals (walk_at "gk")
      all_goals (try dsimp only)
      all_goals first
        | exact q1 _ S1
        | (unfold t_like_2; walk_at "gk"; (try dsimp only); first | exact q1 _ S1 | (unfold t_like_3; walk_at "gk"; exact q1 _ S1))
  | int b =>
    refine rd_isi2 hp1 hy2 kt_int_list kt_int_tuple (r := false) rfl ?_
    walk_at "gk"
    try dsimp only
    unfold t_like_1
    have hx2 := Dp.ex S1.ex _ _ hx1
    cases hy1
    cases d with
    | dict _ => cases hx1
    | _ =>
      cases hx1
      all_goals (walk_at "gk")
      all_goals (try dsimp only)
      all_goals first
        | exact q1 _ S1
        | (unfold t_like_2; walk_at "gk"; (try dsimp only); first | exact q1 _ S1 | (unfold t_like_3; walk_at "gk"; exact q1 _ S1))
  | str b =>
    refine rd_isi2 hp1 hy2 kt_str_list kt_str_tuple (r := false) rfl ?_
    walk_at "gk"
    try dsimp only
    unfold t_like_1
    have hx2 := Dp.ex S1.ex _ _ hx1
    cases hy1
    cases d with
    | dict _ => cases hx1
    | _ =>
      cases hx1
      all_goals (walk_at "gk")
      all_goals (try dsimp only)
      all_goals first
        | exact q1 _ S1
        | (unfold t_like_2; walk_at "gk"; (try dsimp only); first | exact q1 _ S1 | (unfold t_like_3; walk_at "gk"; exact q1 _ S1))


theorem Stt.swap {G H : Hp} {x y : Addr × HO} {L : List (Addr × HO)} (S : Stt G H (x :: y :: L)) : Stt G H (y :: x :: L) := by
  have m : ∀ p, p ∈ y :: x :: L → p ∈ x :: y :: L := fun p hp => (List.Perm.swap x y L).mem_iff.mp hp
  refine ⟨S.ex, fun p hp => S.has p (m p hp), fun p hp => S.out p (m p hp), ?_⟩
  have h := S.nd
  simp only [List.map_cons, List.nodup_cons, List.mem_cons] at h ⊢
  exact ⟨fun z => z.elim (fun z => h.1 (.inl z.symm)) h.2.1, fun z => h.1 (.inr z), h.2.2⟩
theorem Bag.ex {K : PySem.W.Frag} {G H : Hp} {b : Addr} {L : List (Addr × HO)} (B : Bag K G H b L) : Ex G H := by
  obtain ⟨_, _, _, _, _, _, S, _⟩ := B
  exact S.ex
theorem bag_world (K : PySem.W.Frag) (b : Addr) : Wd fun G H L => Bag K G H b L where
  ex := Bag.ex
  new := fun ⟨c, i, r, x, n, ns, S, hc, h⟩ hp => ⟨c, i, r, x, n, ns, S.new hp, ex_l (S.newE hp) hc, h⟩
  mk2 := fun ⟨c, i, r, x, n, ns, S, hc, h⟩ hp => ⟨c, i, r, x, n, ns, (S.mkL hp).swap, hc, h⟩
  get := fun ⟨c, i, r, x, n, ns, S, hc, h⟩ => S.at 1 rfl
  set := fun ⟨c, i, r, x, n, ns, S, hc, h⟩ => ⟨c, i, r, x, n, ns, S.wr 1 rfl, hc, h⟩
  free := fun ⟨c, i, r, x, n, ns, S, hc, h⟩ hp => S.free hp
  drop := fun ⟨c, i, r, x, n, ns, S, hc, h⟩ => ⟨c, i, r, x, n, ns, S.swap.drop, hc, h⟩
  frz := fun ⟨c, i, r, x, n, ns, S, hc, h⟩ => ⟨⟨c, i, r, x, n, ns, S.swap.frz, ex_l S.swap.frzE hc, h⟩, S.swap.frzE⟩
/-- with the bag: what leaves all that may change keeps the bag -/
theorem Bag.stt {K : PySem.W.Frag} {G H : Hp} {b : Addr} {L : List (Addr × HO)} (B : Bag K G H b L) : ∃ M, Stt G H M ∧ ∀ G' H', Ex G G' → Stt G' H' M → Bag K G' H' b L := by
  obtain ⟨c, i, r, x, n, ns, S, hc, h⟩ := B
  exact ⟨_, S, fun G' H' e S' => ⟨c, i, r, x, n, ns, S', ex_l e hc, h⟩⟩
theorem cutV_take (ns : List Int) : cutV (ns.map V.int) none (some 63) = (ns.take 63).map V.int := by
  unfold cutV
  rw [HT.sIx_none, show HT.sIx (ns.map V.int).length (ns.map V.int).length (some 63) = min 63 (ns.map V.int).length from HT.sIx_nat _ _ 63]
  rw [List.drop_zero, Nat.sub_zero, List.map_take, ← List.take_take, List.take_length]
def sp_open (K : PySem.W.Frag) : Sp := fun vs H Q _ => ∃ (a : Addr) (ns : List Int) (G : Hp) (L : List (Addr × HO)), vs = [.ref a] ∧ Stt G H L ∧ SqL K G a (ns.map V.int) ∧ (∀ b G' H', Ex G G' → Bag K G' H' b L → Q (.ref b) H')
def t_open (K : PySem.W.Frag) : TS :=
  (tRet (tLst (tCons (tCB (gList K) (tCons (tSl (gSl K) (tVar 0) tNoPart (tPart (tC (.int 63)))) tNil)) (tCons (tC (.int 0)) (tCons (tC (.int 0)) (tCons (tC (.int 120121)) (tCons (tC (.int 0)) tNil)))))))
theorem read_open {K : PySem.W.Frag} {a : Addr} {ns : List Int} {G H : Hp} {L : List (Addr × HO)} {D : Ends} (S : Stt G H L) (ha : SqL K G a (ns.map V.int)) (q : ∀ b G' H', Ex G G' → Bag K G' H' b L → D.rt (.ref b) H') : t_open K D [some (.ref a)] H := by
  unfold t_open
  walk_at "go"
  refine rd_slL (ex_l S.ex ha) fun p hp => ?_
  have S1 := S.new (o := .lst (cutV (ns.map V.int) none (some 63))) hp
  have e1 := S.newE (o := .lst (cutV (ns.map V.int) none (some 63))) hp
  have h1 : upd H p (.lst (cutV (ns.map V.int) none (some 63))) p = some (.lst ((ns.take 63).map V.int)) := by rw [upd_same, cutV_take]
  walk_at "go"
  refine ⟨p, _, rfl, .inl (sq_of h1), fun c hc => ?_⟩
  have S2 := S1.new (o := .lst ((ns.take 63).map V.int)) hc
  have e2 := S1.newE (o := .lst ((ns.take 63).map V.int)) hc
  walk_at "go"
  refine ⟨by show 5 ≤ sizeLine; decide, fun b hb => ?_⟩
  have S3 := S2.mkL (o := .lst [.ref c, .int 0, .int 0, .int 120121, .int 0]) hb
  exact q b _ _ (e1.trans e2) ⟨c, 0, 0, 120121, 0, ns.take 63, S3, sq_of upd_same, by decide, by decide, by decide, by decide, by decide⟩
/-- one of some things -/
def sp_of (K : PySem.W.Frag) : Sp := fun vs H Q _ => ∃ (b a : Addr) (xs : List V) (G : Hp) (L : List (Addr × HO)), vs = [.ref b, .ref a] ∧ Bag K G H b L ∧ (∀ H', Bag K G H' b L → SqL K H' a xs ∨ SqT K H' a xs) ∧ 0 < xs.length ∧ xs.length < 1000000 ∧
  (∀ x H', x ∈ xs → Bag K G H' b L → Q x H')
def t_of (K : PySem.W.Frag) : TS :=
  (tRet (tOp (rIx K) (tVar 1) (tCall (sp_draw K) [] E0 (tCons (tVar 0) (tCons (tCB (gLen K) (tCons (tVar 1) tNil)) tNil)))))
theorem read_of {K : PySem.W.Frag} {b a : Addr} {xs : List V} {G H : Hp} {L : List (Addr × HO)} {D : Ends} (B : Bag K G H b L) (hs : ∀ H', Bag K G H' b L → SqL K H' a xs ∨ SqT K H' a xs) (h0 : 0 < xs.length) (h1 : xs.length < 1000000)
    (q : ∀ x H', x ∈ xs → Bag K G H' b L → D.rt x H') : t_of K D [some (.ref b), some (.ref a)] H := by
  unfold t_of
  walk_at "go"
  refine ⟨.ref a, xs.length, rfl, ?_, ?_⟩
  · rcases hs H B with h | h
    · exact .inl ⟨xs, h, rfl⟩
    · exact .inr ⟨xs, h, rfl⟩
  walk_at "go"
  refine ⟨b, _, G, L, rfl, by omega, by omega, B, fun d H' d0 d1 B' => ?_⟩
  obtain ⟨j, rfl⟩ : ∃ j : Nat, d = (j : Int) := ⟨d.toNat, by omega⟩
  have hj : j < xs.length := by omega
  have hat : atI xs (j : Int) = some xs[j] := atI_nat (List.getElem?_eq_getElem hj)
  rcases hs H' B' with h | h
  · exact rd_ixL h hat (q _ _ (List.getElem_mem hj) B')
  · exact rd_ixT h hat (q _ _ (List.getElem_mem hj) B')
theorem sat_draw {K : PySem.W.Frag} {vs : List V} {H : Hp} {Q : VK} {E : XK} (h : sp_draw K vs H Q E) : vs.length = 2 ∧ t_draw K { nx := fun _ H' => Q .non H', rt := Q } (vs.map some ++ List.replicate (5 - vs.length) none) H := by
  obtain ⟨b, m, G, L, rfl, m0, m1, B, q⟩ := h
  exact ⟨rfl, read_draw m0 m1 B q⟩
theorem sat_open {K : PySem.W.Frag} {vs : List V} {H : Hp} {Q : VK} {E : XK} (h : sp_open K vs H Q E) : vs.length = 1 ∧ t_open K { nx := fun _ H' => Q .non H', rt := Q } (vs.map some ++ List.replicate (1 - vs.length) none) H := by
  obtain ⟨a, ns, G, L, rfl, S, ha, q⟩ := h
  exact ⟨rfl, read_open S ha q⟩
theorem sat_of {K : PySem.W.Frag} {vs : List V} {H : Hp} {Q : VK} {E : XK} (h : sp_of K vs H Q E) : vs.length = 2 ∧ t_of K { nx := fun _ H' => Q .non H', rt := Q } (vs.map some ++ List.replicate (2 - vs.length) none) H := by
  obtain ⟨b, a, xs, G, L, rfl, B, hs, h0, h1, q⟩ := h
  exact ⟨rfl, read_of B hs h0 h1 q⟩
theorem never_like (K : PySem.W.Frag) : ∀ vs H Q E, sp_like K 0 vs H Q E → False := fun _ _ _ _ ⟨_, _, _, _, _, _, _, _, _, _, h, _⟩ => h
theorem sat_like {K : PySem.W.Frag} {n : Nat} {vs : List V} {H : Hp} {Q : VK} {E : XK} (h : sp_like K (n + 1) vs H Q E) : vs.length = 2 ∧ t_like K n { nx := fun _ H' => Q .non H', rt := Q } (vs.map some ++ List.replicate (4 - vs.length) none) H := by
  obtain ⟨G, L, x, y, d, e, rfl, S, hx, hy, hn, q⟩ := h
  exact ⟨rfl, read_like S hx hy hn q⟩

/-! Comprehensions over lists and tuples by plain functions. -/
section
variable {W : Hp → Hp → List (Addr × HO) → Prop} {K : PySem.W.Frag} {G H : Hp} {L : List (Addr × HO)} {σ : L2.St} {te : TE} {tt : TT} {Q : VK} {a : Addr} {xs : List V} {j : Nat}
theorem lc_mapJ (hW : Wd W) {J : It} {Gw : Hp → Prop} (w : Walk J xs.length Gw (YAt xs)) (S : W G H L) (hg : ∀ H', Ex G H' → Gw H') (hz : xs.length < 1000000) (hw : ∀ x, wipe ((wipe σ [j]).set j (some x)) [j] = wipe σ [j]) (f : V → V)
    (hS : ∀ x acc D G1 H1, x ∈ xs → Ex G G1 → W G1 H1 ((D, .lst acc) :: L) → ∀ Kp : VK, (∀ H2, W G1 H2 ((D, .lst acc) :: L) → Kp (f x) H2) → te ((wipe σ [j]).set j (some x)) H1 Kp)
    (q : ∀ D G2 H2, Ex G G2 → W G2 H2 ((D, .lst (xs.map f)) :: L) → Q (.ref D) H2) : LcG J (gName j) tYes te [j] σ H Q := by
  refine lc_go hW w S hz (fun i v _ => xs[i]? = some v) (fun i acc _ => acc = (xs.take i).map f) hg
    (fun i x G1 H1 H2 L1 _ e1 S1 y => item_at S1 y) rfl (fun _ _ _ _ _ h => h) ?_ ?_
  · intro D i x acc G1 H1 hi _ e1 S1 I1 it Kp Sk kp sk
    refine rd_name ⟨hw x, rd_yes (rd_iT ?_)⟩
    refine hS x acc D G1 H1 (List.mem_of_getElem? it) e1 S1 _ fun H2 S2 => kp _ G1 H2 (Ex.refl _) S2 ?_
    rw [I1, List.take_add_one, it, List.map_append]
    rfl
  · intro D acc G2 H2 e2 S2 I2 _
    rw [List.take_length] at I2
    subst I2
    exact q D G2 H2 e2 S2
theorem lc_filterJ (hW : Wd W) {J : It} {Gw : Hp → Prop} (w : Walk J xs.length Gw (YAt xs)) (S : W G H L) (hg : ∀ H', Ex G H' → Gw H') (hz : xs.length < 1000000) (hw : ∀ x, wipe ((wipe σ [j]).set j (some x)) [j] = wipe σ [j]) (f : V → V) (p : V → Bool)
    (hT : ∀ x acc D G1 H1, x ∈ xs → Ex G G1 → W G1 H1 ((D, .lst acc) :: L) → ∀ Kt : Bool → Hp → Prop, (∀ H2, W G1 H2 ((D, .lst acc) :: L) → Kt (p x) H2) → tt ((wipe σ [j]).set j (some x)) H1 Kt)
    (hS : ∀ x acc D G1 H1, x ∈ xs → p x = true → Ex G G1 → W G1 H1 ((D, .lst acc) :: L) → ∀ Kp : VK, (∀ H2, W G1 H2 ((D, .lst acc) :: L) → Kp (f x) H2) → te ((wipe σ [j]).set j (some x)) H1 Kp)
    (q : ∀ D G2 H2, Ex G G2 → W G2 H2 ((D, .lst ((xs.filter p).map f)) :: L) → Q (.ref D) H2) : LcG J (gName j) tt te [j] σ H Q := by
  refine lc_go hW w S hz (fun i v _ => xs[i]? = some v) (fun i acc _ => acc = ((xs.take i).filter p).map f) hg
    (fun i x G1 H1 H2 L1 _ e1 S1 y => item_at S1 y) rfl (fun _ _ _ _ _ h => h) ?_ ?_
  · intro D i x acc G1 H1 hi _ e1 S1 I1 it Kp Sk kp sk
    refine rd_name ⟨hw x, ?_⟩
    have e : (xs.take (i + 1)).filter p = (xs.take i).filter p ++ (if p x = true then [x] else []) := by
      rw [List.take_add_one, it, List.filter_append, show (some x).toList = [x] from rfl, List.filter_cons, List.filter_nil]
    refine hT x acc D G1 H1 (List.mem_of_getElem? it) e1 S1 _ fun H2 S2 => ?_
    by_cases hp : p x = true
    · rw [if_pos hp]
      rw [if_pos hp] at e
      refine hS x acc D G1 H2 (List.mem_of_getElem? it) hp e1 S2 _ fun H3 S3 => kp _ G1 H3 (Ex.refl _) S3 ?_
      rw [I1, e, List.map_append]
      rfl
    · rw [if_neg hp]
      rw [if_neg hp] at e
      refine sk G1 H2 (Ex.refl _) S2 ?_
      rw [I1, e, List.append_nil]
  · intro D acc G2 H2 e2 S2 I2 _
    rw [List.take_length] at I2
    subst I2
    exact q D G2 H2 e2 S2
/-- n values told by a world that draws -/
theorem lc_draws (hW : Wd W) {n : Nat} {lo : Int} (S : W G H L) (hz : n < 1000000) (hw : ∀ x, wipe ((wipe σ [j]).set j (some x)) [j] = wipe σ [j]) (P : V → Prop)
    (hS : ∀ i acc D G1 H1, i < n → Ex G G1 → W G1 H1 ((D, .lst acc) :: L) → ∀ Kp : VK, (∀ v G2 H2, Ex G1 G2 → W G2 H2 ((D, .lst acc) :: L) → P v → Kp v H2) → te ((wipe σ [j]).set j (some (.int (lo + (i : Nat))))) H1 Kp)
    (q : ∀ D vs G2 H2, Ex G G2 → W G2 H2 ((D, .lst vs) :: L) → vs.length = n → (∀ v, v ∈ vs → P v) → Q (.ref D) H2) : LcG (Itr lo n) (gName j) tYes te [j] σ H Q := by
  refine lc_go hW walk_range S hz (fun i v _ => v = .int (lo + (i : Nat))) (fun i acc _ => acc.length = i ∧ ∀ v, v ∈ acc → P v) (fun _ _ => True.intro)
    (fun i x G1 H1 H2 L1 _ e1 S1 y => item_fn S1 y) ⟨rfl, fun _ h => by cases h⟩ (fun _ _ _ _ _ h => h) ?_ ?_
  · intro D i x acc G1 H1 hi _ e1 S1 I1 it Kp Sk kp sk
    subst it
    refine rd_name ⟨hw _, rd_yes (rd_iT ?_)⟩
    refine hS i acc D G1 H1 hi e1 S1 _ fun v G2 H2 e2 S2 hv => kp v G2 H2 e2 S2 ⟨by rw [List.length_append, I1.1]; rfl, fun u hu => ?_⟩
    cases List.mem_append.mp hu with
    | inl h => exact I1.2 u h
    | inr h => rw [List.mem_singleton.mp h]; exact hv
  · intro D acc G2 H2 e2 S2 I2 _
    exact q D acc G2 H2 e2 S2 I2.1 I2.2
end
theorem in_two {α : Type} {x a : α} {l : List α} (h : x ∈ a :: l) : x = a ∨ x ∈ l := List.mem_cons.mp h
theorem dec_iff {p q : Prop} [Decidable p] [Decidable q] (h : p ↔ q) : decide p = decide q := decide_eq_decide.mpr h
/-! ### scalars -/
/-- a value: a number or None -/
def oV : Option Int → V
  | none => .non
  | some i => .int i
def oD : Option Int → PyData
  | none => .none
  | some i => .int i
theorem oDp {K : PySem.W.Frag} {H : Hp} : ∀ a : Option Int, Dp K H (oV a) (oD a)
  | none => .non
  | some i => .int i
theorem oDps {K : PySem.W.Frag} {H : Hp} : ∀ l : List (Option Int), DpAll K H (l.map oV) (l.map oD)
  | [] => .nil
  | a :: l => .cons (oDp a) (oDps l)
theorem o_eqv (a b : Option Int) : PyData.eqv (oD a) (oD b) = decide (a = b) := by
  cases a <;> cases b
  · rfl
  · rfl
  · rfl
  · rename_i x y
    show (x == y) = decide (some x = some y)
    by_cases h : x = y
    · subst h; rw [beq_self_eq_true, decide_eq_true rfl]
    · rw [decide_eq_false (fun z => h (Option.some.inj z))]; exact beq_eq_false_iff_ne.mpr h
theorem o_shaped (a : Option Int) : SeqAt.shaped (oD a) = true := by cases a <;> rfl
theorem o_canLay : ∀ l : List (Option Int), PyData.canLayAll0 (l.map oD) = true
  | [] => rfl
  | a :: l => by
    show (PyData.canLay0 (oD a) && PyData.canLayAll0 (l.map oD)) = true
    rw [o_canLay l]
    cases a <;> rfl
theorem o_depth : ∀ l : List (Option Int), PyData.depthAll (l.map oD) = 0
  | [] => rfl
  | a :: l => by
    show max (PyData.depth (oD a)) (PyData.depthAll (l.map oD)) = 0
    rw [o_depth l]
    cases a <;> rfl
theorem os_shaped (l : List (Option Int)) : SeqAt.shaped (.list (l.map oD)) = true := by
  unfold SeqAt.shaped
  rw [show PyData.canLay0 (.list (l.map oD)) = PyData.canLayAll0 (l.map oD) from rfl, o_canLay, show PyData.depth (.list (l.map oD)) = PyData.depthAll (l.map oD) + 1 from rfl, o_depth]
  rfl
theorem os_eqv : ∀ l m : List (Option Int), PyData.eqv (.list (l.map oD)) (.list (m.map oD)) = decide (l = m)
  | [], [] => rfl
  | [], _ :: _ => rfl
  | _ :: _, [] => rfl
  | a :: l, b :: m => by
    show (PyData.eqv (oD a) (oD b) && PyData.eqv (.list (l.map oD)) (.list (m.map oD))) = _
    rw [o_eqv, os_eqv l m]
    by_cases h : a = b
    · by_cases h2 : l = m
      · subst h h2; simp
      · rw [decide_eq_false h2, decide_eq_false (fun z => h2 (List.cons.inj z).2), Bool.and_false]
    · rw [decide_eq_false h, decide_eq_false (fun z => h (List.cons.inj z).1), Bool.false_and]
theorem fit_scal {n : Nat} {d : PyData} (h : ∀ es, d ≠ .list es ∧ d ≠ .tuple es) : fit (n + 1) d := by
  cases d with
  | list es => exact ((h es).1 rfl).elim
  | tuple es => exact ((h es).2 rfl).elim
  | _ => exact True.intro
theorem fit_os (n : Nat) (l : List (Option Int)) (h : l.length < 1000000) : fit (n + 2) (.list (l.map oD)) := ⟨by rw [List.length_map]; exact h, fun e he => by
  obtain ⟨a, _, rfl⟩ := List.mem_map.mp he
  cases a <;> exact True.intro⟩
theorem fit_bools (n : Nat) (l : List Bool) (h : l.length < 1000000) : fit (n + 2) (.list (l.map PyData.bool)) := ⟨by rw [List.length_map]; exact h, fun e he => by
  obtain ⟨a, _, rfl⟩ := List.mem_map.mp he
  exact True.intro⟩

/-! Calls with keywords alone; defs made callable. -/
/-- n keyword values, put in the parameters' order -/
def gPV {α : Type} (n : Nat) (perm : List Nat) (vs zs : List α) : List α := if vs.length = 0 ∧ zs.length = n then perm.filterMap fun i => zs[i]? else []
theorem gPV_rel {n : Nat} {perm : List Nat} {vs zs : List V} {us ws : List Value} (r : Vals vs us) (q : Vals zs ws) : Vals (gPV n perm vs zs) (gPV n perm us ws) := by
  have h1 := r.length
  have h2 := q.length
  unfold gPV
  by_cases h : vs.length = 0 ∧ zs.length = n
  · rw [if_pos h, if_pos ⟨by rw [← h1]; exact h.1, by rw [← h2]; exact h.2⟩]
    induction perm with
    | nil => exact .nil
    | cons i perm ih =>
      rw [List.filterMap_cons, List.filterMap_cons]
      cases e : zs[i]? with
      | none =>
        rw [Vals.none_of q e]
        exact ih
      | some x =>
        obtain ⟨u, hu, ru⟩ := Vals.get q e
        rw [hu]
        exact .cons ru ih
  · rw [if_neg h, if_neg (fun z => h ⟨by rw [h1]; exact z.1, by rw [h2]; exact z.2⟩)]
    exact .nil
structure CalK (P : Program) (w : World) (K : PySem.W.Frag) (mg : Str → Option Value) (base : Heap) (k : Nat) (x : Str) (sp : Sp) (ks : List Str) (perm : List Nat) : Prop where
  ex : ∃ (f : Addr) (fd : FuncData) (ps : List Str), FnOk P w K mg base CX0 k f fd ps sp ∧ mg x = some (.ref f) ∧ PySem.W.keepIn K (.ref f) = true ∧ KBinds K fd ps ks (gPV ks.length perm) (gPV ks.length perm)
theorem calK_mk {P : Program} {w : World} {K : PySem.W.Frag} {mg : Str → Option Value} {base : Heap} {k : Nat} {x qual : Str} {st : Stmt} {f : Addr} {fd : FuncData} {ps ks : List Str} {perm : List Nat} {sp : Sp} (F : Fun K x qual st f fd) (G : FnOk P w K mg base CX0 k f fd ps sp) (g : mg x = some (.ref f)) (h0 : 0 < ps.length)
    (h : ∀ (kV doc pm : Value) (an : Option Addr) (cdv ct : Value) (ws : List Value), ws.length = ks.length → bindArgs (PySem.W.fnOf x qual (defArgs st) (defBody st) (defScope st) .none kV doc pm an cdv ct) ⟨[], ks.zip ws⟩ = pure (ps.zip (gPV ks.length perm [] ws))) : CalK P w K mg base k x sp ks perm := by
  have ⟨_, _, kV, doc, pm, an, cdv, ct, _, hfd, _, _⟩ := F.ex
  subst hfd
  refine ⟨f, _, ps, G, g, F.kp, ⟨fun s us ws _ hl => ?_, gPV_rel⟩⟩
  by_cases c : us.length = 0 ∧ ws.length = ks.length
  · have hu : us = [] := List.length_eq_zero_iff.mp c.1
    subst hu
    exact .of_eq (h kV doc pm an cdv ct ws c.2)
  · unfold gPV at hl
    rw [if_neg c] at hl
    exact absurd hl (by simp; omega)
section
variable {X : Cx} {k j : Nat} {x : Str} {sp : Sp} {ks : List Str} {perm : List Nat} {p pos : Pos} {kws : List Keyword} {tk : TA}
/-- a call by its name, all its values by keyword -/
theorem pe_cK (c : CalK X.prog X.w X.K X.mg X.base k x sp ks perm) (hr : Room j X.A) (hk : k ≤ j) (hg : Gl X x) (hkw : PK X kws tk)
    (named : (backToKw pos (keywordEach kws X.env)).all (·.1.isSome) = true := by rfl)
    (names : (backToKw pos (keywordEach kws X.env)).filterMap (·.1) = ks := by rfl)
    (nodb : (x == ("__debug__" : Str)) = false := by decide)
    (noStar : ((backTo pos (starEach [] X.env)).any (·.1)
      || (backToKw pos (keywordEach kws X.env)).any (·.1.isNone)) = false := by rfl) :
    PE X (.Call (.Name x p) [] kws pos) (tCallK sp (gPV ks.length perm) E0 tNil tk) := by
  have ⟨f, fd, ps, ok, hmg, hkeep, hbinds⟩ := c.ex
  constructor
  intro pins s σ H Q hI hQ
  apply wpAny_Call_Name_kw (ld_glob hI hg hmg ?_ nodb)
  apply PySem.W.callWith_KW0 (h₀ := X.base) hI.ok.mod.kin hkeep named ?_ noStar
  apply thn (hkw.run pos pins s σ H _ hI hQ)
  rintro ws s2 ⟨zs, H2, hI2, hz, hQ2⟩
  constructor
  · exact hI2.kIn
  · rw [names]
    exact run_fnk ok (hr.mono hk) hbinds pass0 hI2 .nil hz hQ2
end
/-- a def that keeps its promise, made callable -/
theorem cal_mk {P : Program} {w : World} {K : PySem.W.Frag} {mg : Str → Option Value} {base : Heap} {k : Nat} {x qual : Str} {st : Stmt} {f : Addr} {fd : FuncData} {ps : List Str} {sp : Sp} (F : Fun K x qual st f fd) (G : FnOk P w K mg base CX0 k f fd ps sp) (g : mg x = some (.ref f))
    (h : ∀ (kV doc pm : Value) (an : Option Addr) (cdv ct : Value) (us : List Value), us.length = ps.length → bindArgs (PySem.W.fnOf x qual (defArgs st) (defBody st) (defScope st) .none kV doc pm an cdv ct) ⟨us, []⟩ = pure (ps.zip us)) : C8.Cal P w K mg base k x sp [] :=
  ⟨f, fd, ps, [], G, g, F.kp, F.binds h, .nil⟩
theorem fnOk_never {P : Program} {w : World} {K : PySem.W.Frag} {mg : Str → Option Value} {base : Heap} {k : Nat} {f : Addr} {fd : FuncData} {ps : List Str} {sp : Sp} (h : ∀ vs H Q E, sp vs H Q E → False) : FnOk P w K mg base CX0 k f fd ps sp :=
  ⟨fun vs H Q E z => (h vs H Q E z).elim, fun _ _ _ _ _ _ _ _ _ _ _ _ _ z => (h _ _ _ _ z).elim⟩

/-! Built-ins with one keyword; max and min of numbers with a default. -/
def CallKR (X : Cx) (f : Value) (kn : Str) (r : V → V → Hp → VK → Prop) : Prop :=
  ∀ (pins : List (Addr × Obj)) (s : Shared) (σ : L2.St) (H : Hp) (x d : V) (v w : Value) (Q : VK), Inv X pins σ H s → RelV x v → RelV d w → r x d H Q →
    wpAny (model X.prog X.w) X.A (call f [v] [(kn, w)]) (EP X pins σ Q) X.xe s
def tBK (r : V → V → Hp → VK → Prop) (t tk : TA) : TE := fun σ H Q => t σ H fun vs H1 => tk σ H1 fun zs H2 => ∃ a d, vs = [a] ∧ zs = [d] ∧ r a d H2 Q
theorem rd_bk {r : V → V → Hp → VK → Prop} {t tk : TA} {σ : L2.St} {H : Hp} {Q : VK} (q : t σ H fun vs H1 => tk σ H1 fun zs H2 => ∃ a d, vs = [a] ∧ zs = [d] ∧ r a d H2 Q) : tBK r t tk σ H Q := q
theorem rd_bk1 {P : V → V → Prop} {a d : V} (q : P a d) : ∃ a' d', [a] = [a'] ∧ [d] = [d'] ∧ P a' d' := ⟨a, d, rfl, rfl, q⟩
theorem pe_bK {X : Cx} {id : String} {kn x : Str} {p pos : Pos} {e : Expr} {kws : List Keyword} {t tk : TA} {r : V → V → Hp → VK → Prop} (hc : CallKR X (.builtin id) kn r) (hg : Gl X x) (hm : X.mg x = none) (hv : bootBuiltins x = some (.builtin id))
    (ha : PA X [e] t) (hk : PK X kws tk)
    (hks : (backToKw pos (keywordEach kws X.env)).filterMap (·.1) = [kn] := by rfl)
    (hn : x ≠ "__name__" := by decide) (hdb : (x == ("__debug__" : Str)) = false := by decide)
    (he : backTo pos (starEach [e] X.env) = (false, eval e X.env) :: backTo pos (starEach [] X.env) := by rfl) (hpl : (backTo pos (starEach [e] X.env)).any (·.1) = false := by rfl)
    (hall : (backToKw pos (keywordEach kws X.env)).all (·.1.isSome) = true := by rfl) (hno : (backToKw pos (keywordEach kws X.env)).any (·.1.isNone) = false := by rfl) :
    PE X (.Call (.Name x p) [e] kws pos) (tBK r t tk) := by
  constructor
  intro pins s σ H Q hI hQ
  apply wpAny_Call_Name_kw (ld_blt hI hg hm hv ?_ hn hdb)
  apply PyProof.Rows.callWith_kw ?_ he hpl hall hno
  apply thn (ha.run pos pins s σ H _ hI hQ)
  rintro us s1 ⟨vs, H1, hI1, r1, q1⟩
  apply thn (hk.run pos pins s1 σ H1 _ hI1 q1)
  rintro ws s2 ⟨zs, H2, hI2, r2, a, d, rfl, rfl, q⟩
  rw [hks]
  match r1, r2 with
  | .cons ra .nil, .cons rd .nil => exact hc pins s2 σ H2 a d _ _ Q hI2 ra rd q
def foldMax : List Int → Option Int
  | [] => none
  | n :: r => some (r.foldl max n)
def foldMin : List Int → Option Int
  | [] => none
  | n :: r => some (r.foldl min n)
def rMaxD (K : PySem.W.Frag) : V → V → Hp → VK → Prop := fun x d H Q => ∃ (a : Addr) (ns : List Int), x = .ref a ∧ SqL K H a (ns.map V.int) ∧ Q ((foldMax ns).elim d V.int) H
def rMinD (K : PySem.W.Frag) : V → V → Hp → VK → Prop := fun x d H Q => ∃ (a : Addr) (ns : List Int), x = .ref a ∧ SqL K H a (ns.map V.int) ∧ Q ((foldMin ns).elim d V.int) H
theorem depth_ints : ∀ ns : List Int, PyData.depthAll (ns.map PyData.int) = 0
  | [] => rfl
  | n :: ns => by
    show max 0 (PyData.depthAll (ns.map PyData.int)) = 0
    rw [depth_ints ns]; rfl
theorem alike_ints (ns : List Int) : PySem.W.AlikeAll (ns.map PyData.int) := by
  refine ⟨fun x hx y hy => ?_, fun x hx => ?_⟩
  · have ⟨_, _, h1⟩ := List.mem_map.mp hx
    have ⟨_, _, h2⟩ := List.mem_map.mp hy
    subst h1; subst h2; rfl
  · have ⟨_, _, h1⟩ := List.mem_map.mp hx
    subst h1
    exact fun z => nomatch z
theorem ck_max {X : Cx} (hc : X.calm = true) (hu : X.A.units + 64 < cLine) : CallKR X (.builtin "max") "default" (rMaxD X.K) := by
  rintro pins s σ H x d v w Q hI rx rd ⟨a, ns, rfl, hs, q⟩
  have ⟨its, rv, hl, _⟩ := hI.list hs
  cases rx
  have ⟨as, hr⟩ := Dp.readsAll hI _ _ its (DpAll.ints (K := X.K) (H := H) ns) rv
  have room : PyData.depthAll (ns.map PyData.int) = 0 := depth_ints ns
  apply PySem.W.max_list_default (hI.ok.hd hc) hl.isList hr (alike_ints ns) (by omega)
  · intro e h' tk hk
    cases List.map_eq_nil_iff.mp e
    exact ⟨_, H, hI.kept hk, rd, q⟩
  · intro y ys i v h' tk bs e hi r hk
    match ns, e with
    | n :: r2, e =>
      have ⟨e1, e2⟩ := List.cons.inj e
      subst e1 e2
      rw [PySem.W.maxD_ints] at r
      cases r
      exact ⟨.int (r2.foldl max n), H, hI.kept hk, ⟨_, rfl⟩, q⟩
theorem ck_min {X : Cx} (hc : X.calm = true) (hu : X.A.units + 64 < cLine) : CallKR X (.builtin "min") "default" (rMinD X.K) := by
  rintro pins s σ H x d v w Q hI rx rd ⟨a, ns, rfl, hs, q⟩
  have ⟨its, rv, hl, _⟩ := hI.list hs
  cases rx
  have ⟨as, hr⟩ := Dp.readsAll hI _ _ its (DpAll.ints (K := X.K) (H := H) ns) rv
  have room : PyData.depthAll (ns.map PyData.int) = 0 := depth_ints ns
  apply PySem.W.min_list_default (hI.ok.hd hc) hl.isList hr (alike_ints ns) (by omega)
  · intro e h' tk hk
    cases List.map_eq_nil_iff.mp e
    exact ⟨_, H, hI.kept hk, rd, q⟩
  · intro y ys i v h' tk bs e hi r hk
    match ns, e with
    | n :: r2, e =>
      have ⟨e1, e2⟩ := List.cons.inj e
      subst e1 e2
      rw [PySem.W.minD_ints] at r
      cases r
      exact ⟨.int (r2.foldl min n), H, hI.kept hk, ⟨_, rfl⟩, q⟩
def rMin2 : List V → Hp → VK → Prop := fun xs H Q => ∃ i j, xs = [.int i, .int j] ∧ Q (.int (if j < i then j else i)) H
theorem cg_max2 {X : Cx} (hc : X.calm = true) : CallR X (.builtin "max") Evl.rMax2 := call_max2 hc
theorem cg_min2 {X : Cx} (hc : X.calm = true) : CallR X (.builtin "min") rMin2 := call_min2 hc

/-! Numbers, values, stretches. -/

local macro_rules | `(tactic| walk_at "kt") => `(tactic| first
  | exact kt_NoneType_bool
  | exact kt_NoneType_int
  | exact kt_NoneType_str
  | exact kt_NoneType_list
  | exact kt_NoneType_tuple
  | exact kt_bool_bool
  | exact kt_bool_int
  | exact kt_bool_str
  | exact kt_bool_list
  | exact kt_bool_tuple
  | exact kt_int_bool
  | exact kt_int_int
  | exact kt_int_str
  | exact kt_int_list
  | exact kt_int_tuple
  | exact kt_str_bool
  | exact kt_str_int
  | exact kt_str_str
  | exact kt_str_list
  | exact kt_str_tuple
  | exact kt_list_bool
  | exact kt_list_int
  | exact kt_list_str
  | exact kt_list_list
  | exact kt_list_tuple
  | exact kt_tuple_bool
  | exact kt_tuple_int
  | exact kt_tuple_str
  | exact kt_tuple_list
  | exact kt_tuple_tuple)
local macro_rules | `(tactic| walk_at "dp") => `(tactic| first
  | exact Dp.non | exact Dp.bl _ | exact Dp.int _ | exact Dp.str _ | assumption | exact Dp.ex (Stt.ex (by assumption)) _ _ (by assumption))
local macro_rules | `(tactic| walk_at "isi") => `(tactic| ((with_reducible refine' rd_isi ?h ?k ?_); (case h => walk_at "dp"); (case k => walk_at "kt")))
local macro_rules | `(tactic| walk_at "gk") => `(tactic| repeat (first | walk_at "go1" | walk_at "isi" | walk_at "dec"))
local macro_rules | `(tactic| walk_at "dc") => `(tactic| first
  | ((with_reducible refine rd_dec (fun e => ?aa) (fun e => ?bb)); (case aa => first | (exfalso; revert e; decide) | (exfalso; cases e; done) | exact absurd rfl e))
  | ((with_reducible refine rd_dec (fun e => ?aa) (fun e => ?bb)); (case bb => first | (exfalso; revert e; decide) | (exfalso; cases e; done) | exact absurd rfl e))
  | ((with_reducible refine rd_decN (fun e => ?aa) (fun e => ?bb)); (case aa => first | (exfalso; revert e; decide) | (exfalso; cases e; done) | exact absurd rfl e))
  | ((with_reducible refine rd_decN (fun e => ?aa) (fun e => ?bb)); (case bb => first | (exfalso; revert e; decide) | (exfalso; cases e; done) | exact absurd rfl e)))
local macro_rules | `(tactic| walk_at "gc") => `(tactic| (repeat (first | walk_at "go1" | walk_at "isi" | walk_at "dc")); (try dsimp only))

def isNum : PyData → Bool
  | .int _ => true
  | _ => false
def isVal : PyData → Bool
  | .none => true
  | .int _ => true
  | _ => false
def sp_is_number (K : PySem.W.Frag) : Sp := fun vs H Q _ => ∃ (x : V) (d : PyData), vs = [x] ∧ Dp K H x d ∧ Q (.bl (isNum d)) H
def t_is_number (K : PySem.W.Frag) : TS :=
  (tRet (tAndV (tCB (gIsi K) (tCons (tVar 0) (tCons (tC (.ty "int")) tNil))) (tNotV (tCB (gIsi K) (tCons (tVar 0) (tCons (tC (.ty "bool")) tNil))))))
theorem read_is_number {K : PySem.W.Frag} {x : V} {d : PyData} {H : Hp} {D : Ends} (hx : Dp K H x d) (q : D.rt (.bl (isNum d)) H) : t_is_number K D [some x] H := by
  unfold t_is_number
  cases d with
  | dict _ => cases hx
  | _ =>
    walk_at "gk"
    exact q
theorem sat_is_number {K : PySem.W.Frag} {vs : List V} {H : Hp} {Q : VK} {E : XK} (h : sp_is_number K vs H Q E) : vs.length = 1 ∧ t_is_number K { nx := fun _ H' => Q .non H', rt := Q } (vs.map some ++ List.replicate (1 - vs.length) none) H := by
  obtain ⟨x, d, rfl, hx, q⟩ := h
  exact ⟨rfl, read_is_number hx q⟩
def sp_is_value (K : PySem.W.Frag) : Sp := fun vs H Q _ => ∃ (x : V) (d : PyData), vs = [x] ∧ Dp K H x d ∧ Q (.bl (isVal d)) H
def t_is_value (K : PySem.W.Frag) : TS :=
  (tRet (tOrV (tOp rIsN (tVar 0) (tC .non)) (tCall (sp_is_number K) [] E0 (tCons (tVar 0) tNil))))
theorem read_is_value {K : PySem.W.Frag} {x : V} {d : PyData} {H : Hp} {D : Ends} (hx : Dp K H x d) (q : D.rt (.bl (isVal d)) H) : t_is_value K D [some x] H := by
  unfold t_is_value
  cases d with
  | dict _ => cases hx
  | none =>
    cases hx
    walk_at "gk"
    exact q
  | _ =>
    have hx' := hx
    cases hx
    walk_at "gk"
    exact ⟨_, _, rfl, hx', q⟩
theorem sat_is_value {K : PySem.W.Frag} {vs : List V} {H : Hp} {Q : VK} {E : XK} (h : sp_is_value K vs H Q E) : vs.length = 1 ∧ t_is_value K { nx := fun _ H' => Q .non H', rt := Q } (vs.map some ++ List.replicate (1 - vs.length) none) H := by
  obtain ⟨x, d, rfl, hx, q⟩ := h
  exact ⟨rfl, read_is_value hx q⟩
/-- low may stand below high -/
def leV : PyData → PyData → Bool
  | .int a, .int b => decide (a ≤ b)
  | _, _ => true
def isSt : PyData → Bool
  | .none => true
  | .tuple [a, b] => isVal a && isVal b && leV a b
  | _ => false
def sp_is_stretch (K : PySem.W.Frag) : Sp := fun vs H Q _ => ∃ (x : V) (d : PyData), vs = [x] ∧ Dp K H x d ∧ Q (.bl (isSt d)) H
def t_is_stretch_4 (K : PySem.W.Frag) : TS :=
  (tRet (tOrV (tOp rIsN (tVar 1) (tC .non)) (tOrV (tOp rIsN (tVar 2) (tC .non)) (tCB gBool (tCons (tOp (rI0 fun i j => .bl (decide (i ≤ j))) (tVar 1) (tVar 2)) tNil)))))
def t_is_stretch_3 (K : PySem.W.Frag) : TS :=
  (tSeq (tIfS (tOr (tNot (tB (tCall (sp_is_value K) [] E0 (tCons (tVar 1) tNil)))) (tNot (tB (tCall (sp_is_value K) [] E0 (tCons (tVar 2) tNil))))) (tRet (tC (.bl false))) tNext)
  (t_is_stretch_4 K))
def t_is_stretch_2 (K : PySem.W.Frag) : TS :=
  (tSeq (tAsg (tVar 0) (gTup K 2 (gCons (gName 1) (gCons (gName 2) gNil))))
  (t_is_stretch_3 K))
def t_is_stretch_1 (K : PySem.W.Frag) : TS :=
  (tSeq (tIfS (tOr (tNot (tB (tCB (gIsi K) (tCons (tVar 0) (tCons (tC (.ty "tuple")) tNil))))) (tTest (tOp (gNe K) (tCB (gLen K) (tCons (tVar 0) tNil)) (tC (.int 2))))) (tRet (tC (.bl false))) tNext)
  (t_is_stretch_2 K))
def t_is_stretch (K : PySem.W.Frag) : TS :=
  (tSeq (tIfS (tTest (tOp rIsN (tVar 0) (tC .non))) (tRet (tC (.bl true))) tNext)
  (t_is_stretch_1 K))
theorem rd_gtup {K : PySem.W.Frag} {i j : Nat} {T : Addr} {x y : V} {σ : L2.St} {H : Hp} {N : L2.St → Hp → Prop} (h : SqT K H T [x, y]) (q : N ((σ.set i (some x)).set j (some y)) H) : gTup K 2 (gCons (gName i) (gCons (gName j) gNil)) (.ref T) σ H N := rd_gtup2 h q
theorem read_is_stretch {K : PySem.W.Frag} {x : V} {d : PyData} {H : Hp} {D : Ends} {a1 a2 : Option V} (hx : Dp K H x d) (q : D.rt (.bl (isSt d)) H) : t_is_stretch K D [some x, a1, a2] H := by
  unfold t_is_stretch
  cases d with
  | dict _ => cases hx
  | none =>
    cases hx
    walk_at "gk"
    exact q
  | tuple ds =>
    have hx' := hx
    cases hx with
    | @tup p xs _ hp hA =>
    have hl := DpAll.length hA
    walk_at "gk"
    try dsimp only
    unfold t_is_stretch_1
    walk_at "gk"
    refine rd_lenT hp ?_
    walk_at "go"
    refine rd_decN (fun e => ?_) (fun e => ?_)
    · have h2 : ds.length = 2 := by omega
      match ds, h2 with
      | [d1, d2], _ =>
      cases hA with
      | @cons v1 _ _ _ h1 hA =>
      cases hA with
      | @cons v2 _ _ _ h2 hA =>
      cases hA
      walk_at "go"
      unfold t_is_stretch_2
      walk_at "go"
      refine rd_gtup2 hp ?_
      unfold t_is_stretch_3
      walk_at "go"
      refine ⟨_, d1, rfl, h1, ?_⟩
      walk_at "go"
      cases e1 : isVal d1 with
      | false =>
        walk_at "gk"
        rw [show isSt (.tuple [d1, d2]) = (isVal d1 && isVal d2 && leV d1 d2) from rfl, e1] at q
        exact q
      | true =>
        walk_at "gk"
        refine ⟨_, d2, rfl, h2, ?_⟩
        walk_at "go"
        cases e2 : isVal d2 with
        | false =>
          walk_at "gk"
          rw [show isSt (.tuple [d1, d2]) = (isVal d1 && isVal d2 && leV d1 d2) from rfl, e1, e2] at q
          exact q
        | true =>
          walk_at "gk"
          try dsimp only
          unfold t_is_stretch_4
          rw [show isSt (.tuple [d1, d2]) = (isVal d1 && isVal d2 && leV d1 d2) from rfl, e1, e2] at q
          cases d1 with
          | none =>
            cases h1
            walk_at "gk"
            cases d2 with
            | none => exact q
            | int _ => exact q
            | _ => cases e2
          | int a =>
            cases h1
            cases d2 with
            | none =>
              cases h2
              walk_at "gk"
              exact q
            | int b =>
              cases h2
              walk_at "gk"
              exact q
            | _ => cases e2
          | _ => cases e1
    · walk_at "go"
      have : isSt (.tuple ds) = false := by
        match ds, hl with
        | [], _ => rfl
        | [_], _ => rfl
        | [_, _], h => exact absurd (by rw [h]; rfl) e
        | _ :: _ :: _ :: _, _ => rfl
      rw [this] at q
      exact q
  | _ =>
    have hx' := hx
    cases hx
    walk_at "gk"
    try dsimp only
    unfold t_is_stretch_1
    walk_at "gk"
    exact q
theorem sat_is_stretch {K : PySem.W.Frag} {vs : List V} {H : Hp} {Q : VK} {E : XK} (h : sp_is_stretch K vs H Q E) : vs.length = 1 ∧ t_is_stretch K { nx := fun _ H' => Q .non H', rt := Q } (vs.map some ++ List.replicate (3 - vs.length) none) H := by
  obtain ⟨x, d, rfl, hx, q⟩ := h
  exact ⟨rfl, read_is_stretch hx q⟩



/-- a stretch: None, or two sides -/
abbrev SD := Option (Option Int × Option Int)
def StV (K : PySem.W.Frag) (G : Hp) (v : V) : SD → Prop
  | none => v = .non
  | some (a, b) => ∃ p, v = .ref p ∧ SqT K G p [oV a, oV b]
def sD : SD → PyData
  | none => .none
  | some (a, b) => .tuple [oD a, oD b]
theorem StV.ex {K : PySem.W.Frag} {G G' : Hp} {v : V} (e : Ex G G') : ∀ {s : SD}, StV K G v s → StV K G' v s
  | none, h => h
  | some (a, b), ⟨p, h1, h2⟩ => ⟨p, h1, ex_t e h2⟩
theorem StV.dp {K : PySem.W.Frag} {G : Hp} {v : V} : ∀ {s : SD}, StV K G v s → Dp K G v (sD s)
  | none, h => by cases h; exact .non
  | some (a, b), ⟨p, h1, h2⟩ => by subst h1; exact .tup h2 (.cons (oDp a) (.cons (oDp b) .nil))
def loV : Option Int → Int → Bool
  | none, _ => true
  | some a, v => decide (a ≤ v)
def hiV : Option Int → Int → Bool
  | none, _ => true
  | some b, v => decide (v ≤ b)
def inS : SD → Option Int → Bool
  | none, none => true
  | none, some _ => false
  | some _, none => false
  | some (a, b), some v => loV a v && hiV b v
def sp_in_stretch (K : PySem.W.Frag) : Sp := fun vs H Q _ => ∃ (x : V) (s : SD) (o : Option Int), vs = [x, oV o] ∧ StV K H x s ∧ Q (.bl (inS s o)) H
def t_in_stretch_2 (K : PySem.W.Frag) : TS :=
  (tRet (tAndV (tOrV (tOp rIsN (tVar 2) (tC .non)) (tCB gBool (tCons (tOp (rI0 fun i j => .bl (decide (i ≤ j))) (tVar 2) (tVar 1)) tNil))) (tOrV (tOp rIsN (tVar 3) (tC .non)) (tCB gBool (tCons (tOp (rI0 fun i j => .bl (decide (i ≤ j))) (tVar 1) (tVar 3)) tNil)))))
def t_in_stretch_1 (K : PySem.W.Frag) : TS :=
  (tSeq (tAsg (tVar 0) (gTup K 2 (gCons (gName 2) (gCons (gName 3) gNil))))
  (t_in_stretch_2 K))
def t_in_stretch (K : PySem.W.Frag) : TS :=
  (tSeq (tIfS (tOr (tTest (tOp rIsN (tVar 0) (tC .non))) (tTest (tOp rIsN (tVar 1) (tC .non)))) (tRet (tAndV (tOp rIsN (tVar 0) (tC .non)) (tOp rIsN (tVar 1) (tC .non)))) tNext)
  (t_in_stretch_1 K))
theorem read_in_stretch {K : PySem.W.Frag} {x : V} {s : SD} {o : Option Int} {H : Hp} {D : Ends} {a1 a2 : Option V} (hx : StV K H x s) (q : D.rt (.bl (inS s o)) H) : t_in_stretch K D [some x, some (oV o), a1, a2] H := by
  unfold t_in_stretch
  cases s with
  | none =>
    cases hx
    cases o <;> (dsimp only [oV]; walk_at "gc"; exact q)
  | some ab =>
    obtain ⟨a, b⟩ := ab
    obtain ⟨p, rfl, hp⟩ := hx
    cases o with
    | none =>
      dsimp only [oV]
      walk_at "gc"
      exact q
    | some v =>
      dsimp only [oV]
      walk_at "gc"
      try dsimp only
      unfold t_in_stretch_1
      walk_at "gc"
      refine rd_gtup2 hp ?_
      unfold t_in_stretch_2
      rcases a with _ | a <;> rcases b with _ | b <;> dsimp only [oV]
      · walk_at "gc"
        exact q
      · walk_at "gc"
        exact q
      · walk_at "gc"
        by_cases h : a ≤ v
        · rw [decide_eq_true h]
          walk_at "gc"
          rw [show inS (some (some a, none)) (some v) = (decide (a ≤ v) && true) from rfl, decide_eq_true h] at q
          exact q
        · rw [decide_eq_false h]
          walk_at "gc"
          rw [show inS (some (some a, none)) (some v) = (decide (a ≤ v) && true) from rfl, decide_eq_false h] at q
          exact q
      · walk_at "gc"
        by_cases h : a ≤ v
        · rw [decide_eq_true h]
          walk_at "gc"
          rw [show inS (some (some a, some b)) (some v) = (decide (a ≤ v) && decide (v ≤ b)) from rfl, decide_eq_true h] at q
          exact q
        · rw [decide_eq_false h]
          walk_at "gc"
          rw [show inS (some (some a, some b)) (some v) = (decide (a ≤ v) && decide (v ≤ b)) from rfl, decide_eq_false h] at q
          exact q
theorem sat_in_stretch {K : PySem.W.Frag} {vs : List V} {H : Hp} {Q : VK} {E : XK} (h : sp_in_stretch K vs H Q E) : vs.length = 2 ∧ t_in_stretch K { nx := fun _ H' => Q .non H', rt := Q } (vs.map some ++ List.replicate (4 - vs.length) none) H := by
  obtain ⟨x, s, o, rfl, hx, q⟩ := h
  exact ⟨rfl, read_in_stretch hx q⟩
def sp_in (K : PySem.W.Frag) : Sp := fun vs H Q _ => ∃ (x : V) (s : SD) (o : Option Int), vs = [x, oV o] ∧ StV K H x s ∧ Q (.bl (inS s o)) H
def t_in_1 (K : PySem.W.Frag) : TS :=
  (tRet (tAndV (tOrV (tOp rIsN (tOp (rIx K) (tVar 0) (tC (.int 0))) (tC .non)) (tOp (rI0 fun i j => .bl (decide (i ≤ j))) (tOp (rIx K) (tVar 0) (tC (.int 0))) (tVar 1))) (tOrV (tOp rIsN (tOp (rIx K) (tVar 0) (tC (.int 1))) (tC .non)) (tOp (rI0 fun i j => .bl (decide (i ≤ j))) (tVar 1) (tOp (rIx K) (tVar 0) (tC (.int 1)))))))
def t_in (K : PySem.W.Frag) : TS :=
  (tSeq (tIfS (tOr (tTest (tOp rIsN (tVar 0) (tC .non))) (tTest (tOp rIsN (tVar 1) (tC .non)))) (tRet (tAndV (tOp rIsN (tVar 0) (tC .non)) (tOp rIsN (tVar 1) (tC .non)))) tNext)
  (t_in_1 K))
theorem read_in {K : PySem.W.Frag} {x : V} {s : SD} {o : Option Int} {H : Hp} {D : Ends} (hx : StV K H x s) (q : D.rt (.bl (inS s o)) H) : t_in K D [some x, some (oV o)] H := by
  unfold t_in
  cases s with
  | none =>
    cases hx
    cases o <;> (dsimp only [oV]; walk_at "gc"; exact q)
  | some ab =>
    obtain ⟨a, b⟩ := ab
    obtain ⟨p, rfl, hp⟩ := hx
    cases o with
    | none =>
      dsimp only [oV]
      walk_at "gc"
      exact q
    | some v =>
      dsimp only [oV]
      walk_at "gc"
      try dsimp only
      unfold t_in_1
      rcases a with _ | a <;> rcases b with _ | b <;> dsimp only [oV] at hp ⊢
      · walk_at "gc"
        exact q
      · walk_at "gc"
        exact q
      · walk_at "gc"
        by_cases h : a ≤ v
        · rw [decide_eq_true h]
          walk_at "gc"
          rw [show inS (some (some a, none)) (some v) = (decide (a ≤ v) && true) from rfl, decide_eq_true h] at q
          exact q
        · rw [decide_eq_false h]
          walk_at "gc"
          rw [show inS (some (some a, none)) (some v) = (decide (a ≤ v) && true) from rfl, decide_eq_false h] at q
          exact q
      · walk_at "gc"
        by_cases h : a ≤ v
        · rw [decide_eq_true h]
          walk_at "gc"
          rw [show inS (some (some a, some b)) (some v) = (decide (a ≤ v) && decide (v ≤ b)) from rfl, decide_eq_true h] at q
          exact q
        · rw [decide_eq_false h]
          walk_at "gc"
          rw [show inS (some (some a, some b)) (some v) = (decide (a ≤ v) && decide (v ≤ b)) from rfl, decide_eq_false h] at q
          exact q
theorem sat_in {K : PySem.W.Frag} {vs : List V} {H : Hp} {Q : VK} {E : XK} (h : sp_in K vs H Q E) : vs.length = 2 ∧ t_in K { nx := fun _ H' => Q .non H', rt := Q } (vs.map some ++ List.replicate (2 - vs.length) none) H := by
  obtain ⟨x, s, o, rfl, hx, q⟩ := h
  exact ⟨rfl, read_in hx q⟩



def cmLo (a b : Option Int) : Option Int := foldMax ([a, b].filterMap id)
def cmHi (a b : Option Int) : Option Int := foldMin ([a, b].filterMap id)
def cm : SD → SD → Option SD
  | none, none => some none
  | none, some _ => none
  | some _, none => none
  | some (a, b), some (c, d) => match cmLo a c, cmHi b d with
    | some x, some y => if y < x then none else some (some (some x, some y))
    | x, y => some (some (x, y))
theorem fm_map (a b : Option Int) : (([oV a, oV b].filter fun x => !decide (x = V.non)).map fun x => x) = ([a, b].filterMap id).map V.int := by
  rcases a with _ | a <;> rcases b with _ | b <;> rfl
theorem elim_oV (o : Option Int) : o.elim V.non V.int = oV o := by cases o <;> rfl
/-- the list that common tells -/
def CmV (K : PySem.W.Frag) (G : Hp) (vs : List V) : Option SD → Prop
  | none => vs = []
  | some s => ∃ v, vs = [v] ∧ StV K G v s
def sp_common (K : PySem.W.Frag) : Sp := fun vs H Q _ => ∃ (x y : V) (s t : SD) (G : Hp) (L : List (Addr × HO)), vs = [x, y] ∧ Stt G H L ∧ StV K G x s ∧ StV K G y t ∧
  (∀ p us G' H', Ex G G' → Stt G' H' ((p, .lst us) :: L) → CmV K G' us (cm s t) → Q (.ref p) H')
def t_common_5 (K : PySem.W.Frag) : TS :=
  (tRet (tLst (tCons (tTup (tCons (tVar 4) (tCons (tVar 5) tNil))) tNil)))
def t_common_4 (K : PySem.W.Frag) : TS :=
  (tSeq (tIfS (tAnd (tTest (tOp rNotN (tVar 4) (tC .non))) (tAnd (tTest (tOp rNotN (tVar 5) (tC .non))) (tTest (tOp (rI0 fun i j => .bl (decide (j < i))) (tVar 4) (tVar 5))))) (tRet (tLst tNil)) tNext)
  (t_common_5 K))
def t_common_3 (K : PySem.W.Frag) : TS :=
  (tSeq (tPar 4 5 (tCons (tBK (rMaxD K) (tCons (tVar 2) tNil) (tCons (tC .non) tNil)) (tCons (tBK (rMinD K) (tCons (tVar 3) tNil) (tCons (tC .non) tNil)) tNil)))
  (t_common_4 K))
def t_common_2 (K : PySem.W.Frag) : TS :=
  (tSeq (tAsg (tLc (iTup K (tTup (tCons (tOp (rIx K) (tVar 0) (tC (.int 1))) (tCons (tOp (rIx K) (tVar 1) (tC (.int 1))) tNil)))) (gName 5) (tTest (tOp rNotN (tVar 5) (tC .non))) (tVar 5) [5]) (gName 3))
  (t_common_3 K))
def t_common_1 (K : PySem.W.Frag) : TS :=
  (tSeq (tAsg (tLc (iTup K (tTup (tCons (tOp (rIx K) (tVar 0) (tC (.int 0))) (tCons (tOp (rIx K) (tVar 1) (tC (.int 0))) tNil)))) (gName 4) (tTest (tOp rNotN (tVar 4) (tC .non))) (tVar 4) [4]) (gName 2))
  (t_common_2 K))
def t_common (K : PySem.W.Frag) : TS :=
  (tSeq (tIfS (tOr (tTest (tOp rIsN (tVar 0) (tC .non))) (tTest (tOp rIsN (tVar 1) (tC .non)))) (tRet (tIf (tAnd (tTest (tOp rIsN (tVar 0) (tC .non))) (tTest (tOp rIsN (tVar 1) (tC .non)))) (tLst (tCons (tC .non) tNil)) (tLst tNil))) tNext)
  (t_common_1 K))
theorem read_common_3 {K : PySem.W.Frag} {x y : V} {a b c d : Option Int} {l h : Addr} {G H : Hp} {L : List (Addr × HO)} {D : Ends} {a4 a5 : Option V} (S : Stt G H L) (hl : SqL K G l (([a, c].filterMap id).map V.int)) (hh : SqL K G h (([b, d].filterMap id).map V.int))
    (q : ∀ p us G' H', Ex G G' → Stt G' H' ((p, .lst us) :: L) → CmV K G' us (cm (some (a, b)) (some (c, d))) → D.rt (.ref p) H') : t_common_3 K D [some x, some y, some (.ref l), some (.ref h), a4, a5] H := by
  unfold t_common_3
  walk_at "gc"
  refine rd_bk ?_
  walk_at "gc"
  refine rd_bk1 ⟨l, _, rfl, ex_l S.ex hl, ?_⟩
  rw [elim_oV]
  walk_at "gc"
  refine rd_bk ?_
  walk_at "gc"
  refine rd_bk1 ⟨h, _, rfl, ex_l S.ex hh, ?_⟩
  rw [elim_oV]
  walk_at "gc"
  have e : cm (some (a, b)) (some (c, d)) = match cmLo a c, cmHi b d with
    | some x, some y => if y < x then none else some (some (some x, some y))
    | x, y => some (some (x, y)) := rfl
  rw [e] at q
  change t_common_4 K D [some x, some y, some (.ref l), some (.ref h), some (oV (cmLo a c)), some (oV (cmHi b d))] H
  generalize cmLo a c = lo at q ⊢
  generalize cmHi b d = hi at q ⊢
  have fin : ∀ (D' : Ends), (∀ v H', D.rt v H' → D'.rt v H') → (∀ p us G' H', Ex G G' → Stt G' H' ((p, .lst us) :: L) → CmV K G' us (some (some (lo, hi))) → D'.rt (.ref p) H') → t_common_5 K D' [some x, some y, some (.ref l), some (.ref h), some (oV lo), some (oV hi)] H := by
    intro D' hD q
    unfold t_common_5
    walk_at "gc"
    refine mk_tup stt_world S (by show 2 ≤ _; decide) fun z G1 e1 S1 hz => ?_
    walk_at "gc"
    refine mk_lstM stt_world S1 (by show 1 ≤ _; decide) fun p S2 => ?_
    exact q p _ G1 _ e1 S2 ⟨.ref z, rfl, z, rfl, st_of hz⟩
  unfold t_common_4
  rcases lo with _ | lo
  · dsimp only [oV]
    walk_at "gc"
    exact fin D (fun _ _ h => h) q
  · rcases hi with _ | hi
    · dsimp only [oV]
      walk_at "gc"
      exact fin D (fun _ _ h => h) q
    · dsimp only [oV] at q ⊢
      walk_at "gc"
      refine rd_dec (fun e => ?_) (fun e => ?_)
      · walk_at "gc"
        refine mk_lstM stt_world S (by show 0 ≤ _; decide) fun p S2 => ?_
        refine q p _ G _ (Ex.refl G) S2 ?_
        rw [if_pos e]
        rfl
      · walk_at "gc"
        rw [if_neg e] at q
        exact fin D (fun _ _ h => h) q
theorem read_common {K : PySem.W.Frag} {x y : V} {s t : SD} {G H : Hp} {L : List (Addr × HO)} {D : Ends} {a2 a3 a4 a5 : Option V} (S : Stt G H L) (hx : StV K G x s) (hy : StV K G y t)
    (q : ∀ p us G' H', Ex G G' → Stt G' H' ((p, .lst us) :: L) → CmV K G' us (cm s t) → D.rt (.ref p) H') : t_common K D [some x, some y, a2, a3, a4, a5] H := by
  unfold t_common
  rcases s with _ | ⟨a, b⟩
  · cases hx
    rcases t with _ | ⟨c, d⟩
    · cases hy
      walk_at "gc"
      refine mk_lstM stt_world S (by show 1 ≤ _; decide) fun p S2 => ?_
      exact q p _ G _ (Ex.refl G) S2 ⟨_, rfl, rfl⟩
    · obtain ⟨r, rfl, hr⟩ := hy
      walk_at "gc"
      refine mk_lstM stt_world S (by show 0 ≤ _; decide) fun p S2 => ?_
      exact q p _ G _ (Ex.refl G) S2 rfl
  · obtain ⟨m, rfl, hm⟩ := hx
    rcases t with _ | ⟨c, d⟩
    · cases hy
      walk_at "gc"
      refine mk_lstM stt_world S (by show 0 ≤ _; decide) fun p S2 => ?_
      exact q p _ G _ (Ex.refl G) S2 rfl
    · obtain ⟨r, rfl, hr⟩ := hy
      walk_at "gc"
      try dsimp only
      unfold t_common_1
      refine rd_seq (rd_asg (rd_lc (rd_it ?_)))
      walk_at "gc"
      refine mk_tup stt_world S (by show 2 ≤ _; decide) fun z G1 e1 S1 hz => ?_
      refine ⟨z, rfl, ⟨_, ex_t S1.ex (st_of hz)⟩, ?_⟩
      refine lc_filterJ stt_world (walk_tup (xs := [oV a, oV c])) S1 (fun H' e' => ex_t e' (st_of hz)) (by show 2 < _; decide) (fun _ => rfl) (fun x => x) (fun x => !decide (x = .non)) (fun x acc D1 G2 H2 hx e2 S2 Kt kt => ?_) (fun x acc D1 G2 H2 hx hp e2 S2 Kp kp => ?_) (fun D1 G2 H2 e2 S2 => ?_)
      · walk_at "gc"
        exact kt _ S2
      · walk_at "gc"
        exact kp _ S2
      rw [fm_map] at S2
      have e3 := S2.frzE
      have S3 := S2.frz
      have hl : SqL K (upd G2 D1 (.lst (([a, c].filterMap id).map V.int))) D1 (([a, c].filterMap id).map V.int) := sq_of upd_same
      generalize upd G2 D1 (.lst (([a, c].filterMap id).map V.int)) = G3 at *
      have eG := e1.trans (e2.trans e3)
      have hm3 := ex_t eG hm
      have hr3 := ex_t eG hr
      walk_at "gc"
      unfold t_common_2
      refine rd_seq (rd_asg (rd_lc (rd_it ?_)))
      walk_at "gc"
      refine mk_tup stt_world S3 (by show 2 ≤ _; decide) fun z G4 e4 S4 hz => ?_
      refine ⟨z, rfl, ⟨_, ex_t S4.ex (st_of hz)⟩, ?_⟩
      refine lc_filterJ stt_world (walk_tup (xs := [oV b, oV d])) S4 (fun H' e' => ex_t e' (st_of hz)) (by show 2 < _; decide) (fun _ => rfl) (fun x => x) (fun x => !decide (x = .non)) (fun x acc D1 G2 H2 hx e2 S2 Kt kt => ?_) (fun x acc D1 G2 H2 hx hp e2 S2 Kp kp => ?_) (fun D2 G5 H5 e5 S5 => ?_)
      · walk_at "gc"
        exact kt _ S2
      · walk_at "gc"
        exact kp _ S2
      rw [fm_map] at S5
      have e6 := S5.frzE
      have hh : SqL K (upd G5 D2 (.lst (([b, d].filterMap id).map V.int))) D2 (([b, d].filterMap id).map V.int) := sq_of upd_same
      walk_at "gc"
      refine read_common_3 S5.frz (ex_l (e4.trans (e5.trans e6)) hl) hh fun p us G' H' e' S' h' => q p us G' H' (eG.trans (e4.trans (e5.trans (e6.trans e')))) S' h'
theorem sat_common {K : PySem.W.Frag} {vs : List V} {H : Hp} {Q : VK} {E : XK} (h : sp_common K vs H Q E) : vs.length = 2 ∧ t_common K { nx := fun _ H' => Q .non H', rt := Q } (vs.map some ++ List.replicate (6 - vs.length) none) H := by
  obtain ⟨x, y, s, t, G, L, rfl, S, hx, hy, q⟩ := h
  exact ⟨rfl, read_common S hx hy q⟩



/-! the mathematics -/
def SOk (ns : List Int) : SD → Prop
  | none => True
  | some (a, b) => (∀ x, a = some x → x ∈ ns) ∧ (∀ y, b = some y → y ∈ ns) ∧ (∀ x y, a = some x → b = some y → x ≤ y)
theorem max2 (a b : Int) : max a b = if a ≤ b then b else a := Int.max_def a b
theorem min2 (a b : Int) : min a b = if a ≤ b then a else b := Int.min_def a b
theorem cmLo_comm (a b : Option Int) : cmLo a b = cmLo b a := by
  rcases a with _ | a <;> rcases b with _ | b
  · rfl
  · rfl
  · rfl
  · show some (max a b) = some (max b a)
    rw [Int.max_comm]
theorem cmHi_comm (a b : Option Int) : cmHi a b = cmHi b a := by
  rcases a with _ | a <;> rcases b with _ | b
  · rfl
  · rfl
  · rfl
  · show some (min a b) = some (min b a)
    rw [Int.min_comm]
theorem cm_comm : ∀ s t : SD, cm s t = cm t s
  | none, none => rfl
  | none, some _ => rfl
  | some _, none => rfl
  | some (a, b), some (c, d) => by
    show (match cmLo a c, cmHi b d with
      | some x, some y => if y < x then none else some (some (some x, some y))
      | x, y => some (some (x, y))) = (match cmLo c a, cmHi d b with
      | some x, some y => if y < x then none else some (some (some x, some y))
      | x, y => some (some (x, y)))
    rw [cmLo_comm a c, cmHi_comm b d]
theorem lo_cm (a b : Option Int) (v : Int) : loV (cmLo a b) v = (loV a v && loV b v) := by
  rcases a with _ | a <;> rcases b with _ | b
  · rfl
  · show decide (b ≤ v) = (true && decide (b ≤ v)); simp
  · show decide (a ≤ v) = (decide (a ≤ v) && true); simp
  · show decide (max a b ≤ v) = (decide (a ≤ v) && decide (b ≤ v))
    rw [← Bool.decide_and]
    exact dec_iff (by omega)
theorem hi_cm (a b : Option Int) (v : Int) : hiV (cmHi a b) v = (hiV a v && hiV b v) := by
  rcases a with _ | a <;> rcases b with _ | b
  · rfl
  · show decide (v ≤ b) = (true && decide (v ≤ b)); simp
  · show decide (v ≤ a) = (decide (v ≤ a) && true); simp
  · show decide (v ≤ min a b) = (decide (v ≤ a) && decide (v ≤ b))
    rw [← Bool.decide_and]
    exact dec_iff (by omega)
theorem cm_in : ∀ (s t u : SD), cm s t = some u → ∀ v, inS u v = (inS s v && inS t v)
  | none, none, u, h, v => by
    cases h
    cases v <;> rfl
  | none, some _, u, h, v => by cases h
  | some _, none, u, h, v => by cases h
  | some (a, b), some (c, d), u, h, v => by
    have key : u = some (cmLo a c, cmHi b d) := by
      have h : (match cmLo a c, cmHi b d with
        | some x, some y => if y < x then none else some (some (some x, some y))
        | x, y => some (some (x, y))) = some u := h
      generalize cmLo a c = lo at h ⊢
      generalize cmHi b d = hi at h ⊢
      rcases lo with _ | lo
      · exact (Option.some.inj h).symm
      · rcases hi with _ | hi
        · exact (Option.some.inj h).symm
        · by_cases e : hi < lo
          · simp only [if_pos e] at h; cases h
          · simp only [if_neg e] at h; exact (Option.some.inj h).symm
    subst key
    cases v with
    | none => rfl
    | some v =>
      show (loV (cmLo a c) v && hiV (cmHi b d) v) = ((loV a v && hiV b v) && (loV c v && hiV d v))
      rw [lo_cm, hi_cm]
      cases loV a v <;> cases hiV b v <;> cases loV c v <;> rfl
/-- the values that the law looks at -/
def osOf (low : Int) : List (Option Int) := none :: (List.range 8).map fun i => some (low - 1 + (i : Nat))
theorem mem_os {low v : Int} (h1 : low - 1 ≤ v) (h2 : v ≤ low + 6) : some v ∈ osOf low :=
  List.mem_cons_of_mem _ (List.mem_map.mpr ⟨(v - (low - 1)).toNat, List.mem_range.mpr (by omega), by congr 1; omega⟩)
theorem cm_some {low : Int} {ns : List Int} (hn : ∀ n, n ∈ ns → low ≤ n ∧ n ≤ low + 5) : ∀ (s t u : SD), SOk ns s → SOk ns t → cm s t = some u → ∃ v, v ∈ osOf low ∧ (inS s v && inS t v) = true
  | none, none, u, _, _, _ => ⟨none, List.mem_cons_self .., rfl⟩
  | none, some _, u, _, _, h => by cases h
  | some _, none, u, _, _, h => by cases h
  | some (a, b), some (c, d), u, hs, ht, h => by
    have hc := cm_in _ _ _ h
    have pick : ∀ v : Int, low - 1 ≤ v → v ≤ low + 6 → inS u (some v) = true → ∃ v, v ∈ osOf low ∧ (inS (some (a, b)) v && inS (some (c, d)) v) = true := fun v h1 h2 h3 => ⟨some v, mem_os h1 h2, by rw [← hc]; exact h3⟩
    have h : (match cmLo a c, cmHi b d with
      | some x, some y => if y < x then none else some (some (some x, some y))
      | x, y => some (some (x, y))) = some u := h
    have l1 : ∀ x, cmLo a c = some x → low ≤ x ∧ x ≤ low + 5 := fun x e => by
      rcases a with _ | a <;> rcases c with _ | c
      · cases e
      · cases e; exact hn _ (ht.1 _ rfl)
      · cases e; exact hn _ (hs.1 _ rfl)
      · have e : some (max a c) = some x := e
        have := hn _ (hs.1 _ rfl)
        have := hn _ (ht.1 _ rfl)
        injection e with e
        omega
    have l2 : ∀ x, cmHi b d = some x → low ≤ x ∧ x ≤ low + 5 := fun x e => by
      rcases b with _ | b <;> rcases d with _ | d
      · cases e
      · cases e; exact hn _ (ht.2.1 _ rfl)
      · cases e; exact hn _ (hs.2.1 _ rfl)
      · have e : some (min b d) = some x := e
        have := hn _ (hs.2.1 _ rfl)
        have := hn _ (ht.2.1 _ rfl)
        injection e with e
        omega
    generalize cmLo a c = lo at h l1
    generalize cmHi b d = hi at h l2
    rcases lo with _ | lo
    · cases h
      rcases hi with _ | hi
      · exact pick low (by omega) (by omega) rfl
      · have := l2 _ rfl
        exact pick low (by omega) (by omega) (by show (true && decide (low ≤ hi)) = true; simp; omega)
    · have := l1 _ rfl
      rcases hi with _ | hi
      · cases h
        exact pick (low + 6) (by omega) (by omega) (by show (decide (lo ≤ low + 6) && true) = true; simp; omega)
      · by_cases e : hi < lo
        · simp only [if_pos e] at h; cases h
        · simp only [if_neg e] at h
          cases h
          exact pick lo (by omega) (by omega) (by show (decide (lo ≤ lo) && decide (lo ≤ hi)) = true; simp; omega)
theorem cm_none : ∀ (s t : SD), cm s t = none → ∀ v, (inS s v && inS t v) = false
  | none, none, h, v => by cases h
  | none, some (c, d), h, v => by cases v <;> rfl
  | some (a, b), none, h, v => by cases v <;> simp [inS]
  | some (a, b), some (c, d), h, v => by
    have h : (match cmLo a c, cmHi b d with
      | some x, some y => if y < x then none else some (some (some x, some y))
      | x, y => some (some (x, y))) = none := h
    cases v with
    | none => rfl
    | some v =>
      show ((loV a v && hiV b v) && (loV c v && hiV d v)) = false
      have e : ((loV a v && hiV b v) && (loV c v && hiV d v)) = (loV (cmLo a c) v && hiV (cmHi b d) v) := by
        rw [lo_cm, hi_cm]
        cases loV a v <;> cases hiV b v <;> cases loV c v <;> rfl
      rw [e]
      generalize cmLo a c = lo at h ⊢
      generalize cmHi b d = hi at h ⊢
      rcases lo with _ | lo
      · cases h
      · rcases hi with _ | hi
        · cases h
        · by_cases e : hi < lo
          · show (decide (lo ≤ v) && decide (v ≤ hi)) = false
            rw [← Bool.decide_and]
            exact decide_eq_false (fun z => by omega)
          · simp only [if_neg e] at h; cases h
theorem isSt_ok : ∀ (s : SD), (∀ a b x y, s = some (a, b) → a = some x → b = some y → x ≤ y) → isSt (sD s) = true
  | none, _ => rfl
  | some (a, b), h => by
    show (isVal (oD a) && isVal (oD b) && leV (oD a) (oD b)) = true
    rcases a with _ | a <;> rcases b with _ | b
    · rfl
    · rfl
    · rfl
    · show (true && true && decide (a ≤ b)) = true
      rw [decide_eq_true (h _ _ _ _ rfl rfl rfl)]; rfl
theorem isSt_sok {ns : List Int} {s : SD} (h : SOk ns s) : isSt (sD s) = true := isSt_ok s fun a b x y e ea eb => by
  subst e
  exact h.2.2 x y ea eb
theorem isSt_cm {s t u : SD} (h : cm s t = some u) : isSt (sD u) = true := isSt_ok u fun p q x y e ep eq => by
  subst e ep eq
  match s, t, h with
  | none, none, h => cases h
  | none, some _, h => cases h
  | some _, none, h => cases h
  | some (a, b), some (c, d), h =>
    have h : (match cmLo a c, cmHi b d with
      | some x, some y => if y < x then none else some (some (some x, some y))
      | x, y => some (some (x, y))) = some (some (some x, some y)) := h
    generalize cmLo a c = lo at h
    generalize cmHi b d = hi at h
    rcases lo with _ | lo
    · cases h
    · rcases hi with _ | hi
      · cases h
      · by_cases e : hi < lo
        · simp only [if_pos e] at h; cases h
        · simp only [if_neg e] at h
          cases h
          omega
/-! the law's own drawing of a stretch -/
def sp_stretch (K : PySem.W.Frag) : Sp := fun vs H Q _ => ∃ (b a : Addr) (ns : List Int) (G : Hp) (L : List (Addr × HO)), vs = [.ref b, .ref a] ∧ Bag K G H b L ∧ SqL K G a (ns.map V.int) ∧ 0 < ns.length ∧ ns.length < 1000000 ∧
  (∀ v s G' H', Ex G G' → Bag K G' H' b L → StV K G' v s → SOk ns s → Q v H')
def t_stretch_3 (K : PySem.W.Frag) : TS :=
  (tRet (tTup (tCons (tCB rMin2 (tCons (tVar 2) (tCons (tVar 3) tNil))) (tCons (tCB Evl.rMax2 (tCons (tVar 2) (tCons (tVar 3) tNil))) tNil))))
def t_stretch_2 (K : PySem.W.Frag) : TS :=
  (tSeq (tIfS (tOr (tTest (tOp rIsN (tVar 2) (tC .non))) (tTest (tOp rIsN (tVar 3) (tC .non)))) (tRet (tTup (tCons (tVar 2) (tCons (tVar 3) tNil)))) tNext)
  (t_stretch_3 K))
def t_stretch_1 (K : PySem.W.Frag) : TS :=
  (tSeq (tPar 2 3 (tCons (tCall (sp_of K) [] E0 (tCons (tVar 0) (tCons (tLst (tCons (tC .non) (tCons (tCall (sp_of K) [] E0 (tCons (tVar 0) (tCons (tVar 1) tNil))) tNil))) tNil))) (tCons (tCall (sp_of K) [] E0 (tCons (tVar 0) (tCons (tLst (tCons (tC .non) (tCons (tCall (sp_of K) [] E0 (tCons (tVar 0) (tCons (tVar 1) tNil))) tNil))) tNil))) tNil)))
  (t_stretch_2 K))
def t_stretch (K : PySem.W.Frag) : TS :=
  (tSeq (tIfS (tTest (tOp (gEq K) (tCall (sp_draw K) [] E0 (tCons (tVar 0) (tCons (tC (.int 5)) tNil))) (tC (.int 0)))) (tRet (tC .non)) tNext)
  (t_stretch_1 K))
theorem read_side {K : PySem.W.Frag} {b a : Addr} {ns : List Int} {G H : Hp} {L : List (Addr × HO)} {Q : VK} {σ : L2.St} (hσ0 : σ[0]? = some (some (.ref b))) (hσ1 : σ[1]? = some (some (.ref a))) (B : Bag K G H b L) (ha : SqL K G a (ns.map V.int)) (h0 : 0 < ns.length) (h1 : ns.length < 1000000)
    (q : ∀ o G' H', Ex G G' → Bag K G' H' b L → (∀ x, o = some x → x ∈ ns) → Q (oV o) H') :
    tCall (sp_of K) [] E0 (tCons (tVar 0) (tCons (tLst (tCons (tC .non) (tCons (tCall (sp_of K) [] E0 (tCons (tVar 0) (tCons (tVar 1) tNil))) tNil))) tNil)) σ H Q := by
  refine rd_call (rd_cons (rd_var hσ0 (rd_cons (rd_lst (rd_cons (rd_c (rd_cons (rd_call (rd_cons (rd_var hσ0 (rd_cons (rd_var hσ1 (rd_nil ?_)))))))))))))
  refine ⟨b, a, _, G, L, rfl, B, fun H' B' => .inl (ex_l B'.ex ha), by rw [List.length_map]; exact h0, by rw [List.length_map]; exact h1, fun x H1 hx B1 => ?_⟩
  obtain ⟨n, hn, rfl⟩ := List.mem_map.mp hx
  refine rd_nil (mk_lst (bag_world K b) B1 (by show 2 ≤ _; decide) fun z G2 e2 B2 hz => rd_nil ?_)
  refine ⟨b, z, [.non, .int n], G2, L, rfl, B2, fun H' B' => .inl (ex_l B'.ex (sq_of hz)), by show 0 < 2; decide, by show 2 < _; decide, fun x H3 hx B3 => ?_⟩
  rcases in_two hx with rfl | hx
  · exact q none G2 H3 e2 B3 (fun _ h => nomatch h)
  · rw [List.mem_singleton.mp hx]
    exact q (some n) G2 H3 e2 B3 (fun x e => by cases e; exact hn)
theorem read_stretch {K : PySem.W.Frag} {b a : Addr} {ns : List Int} {G H : Hp} {L : List (Addr × HO)} {D : Ends} {a2 a3 : Option V} (B : Bag K G H b L) (ha : SqL K G a (ns.map V.int)) (h0 : 0 < ns.length) (h1 : ns.length < 1000000)
    (q : ∀ v s G' H', Ex G G' → Bag K G' H' b L → StV K G' v s → SOk ns s → D.rt v H') : t_stretch K D [some (.ref b), some (.ref a), a2, a3] H := by
  unfold t_stretch
  walk_at "gc"
  refine ⟨b, 5, G, L, rfl, by decide, by decide, B, fun d H1 d0 d1 B1 => ?_⟩
  walk_at "gc"
  refine rd_dec (fun e => ?_) (fun e => ?_)
  · walk_at "gc"
    exact q .non none G H1 (Ex.refl G) B1 rfl True.intro
  · walk_at "gc"
    unfold t_stretch_1
    refine rd_seq (rd_par (rd_cons ?_))
    refine read_side rfl rfl B1 ha h0 h1 fun o1 G2 H2 e2 B2 ho1 => rd_cons ?_
    refine read_side rfl rfl B2 (ex_l e2 ha) h0 h1 fun o2 G3 H3 e3 B3 ho2 => rd_nil (rd_two ?_)
    have eG := e2.trans e3
    change t_stretch_2 K D [some (.ref b), some (.ref a), some (oV o1), some (oV o2)] H3
    unfold t_stretch_2
    have fin : (o1 = none ∨ o2 = none) → [oV o1, oV o2].length ≤ sizeLine ∧ ∀ p, H3 p = none → D.rt (.ref p) (upd H3 p (.tup [oV o1, oV o2])) := by
      intro ho
      refine mk_tup (bag_world K b) B3 (by show 2 ≤ _; decide) fun z G4 e4 B4 hz => ?_
      exact q _ (some (o1, o2)) G4 _ (eG.trans e4) B4 ⟨z, rfl, st_of hz⟩ ⟨ho1, ho2, fun x y e1 e2 => by
        rcases ho with h | h
        · rw [h] at e1; cases e1
        · rw [h] at e2; cases e2⟩
    rcases o1 with _ | x
    · dsimp only [oV] at fin ⊢
      walk_at "gc"
      exact fin (.inl rfl)
    · rcases o2 with _ | y
      · dsimp only [oV] at fin ⊢
        walk_at "gc"
        exact fin (.inr rfl)
      · dsimp only [oV]
        walk_at "gc"
        unfold t_stretch_3
        walk_at "gc"
        refine ⟨x, y, rfl, ?_⟩
        walk_at "gc"
        refine ⟨x, y, rfl, ?_⟩
        walk_at "gc"
        refine mk_tup (bag_world K b) B3 (by show 2 ≤ _; decide) fun z G4 e4 B4 hz => ?_
        refine q _ (some (some (if y < x then y else x), some (if y > x then y else x))) G4 _ (eG.trans e4) B4 ⟨z, rfl, st_of hz⟩ ⟨fun u e => ?_, fun u e => ?_, fun u w e1 e2 => ?_⟩
        · injection e with e
          rw [← e]
          split
          · exact ho2 _ rfl
          · exact ho1 _ rfl
        · injection e with e
          rw [← e]
          split
          · exact ho2 _ rfl
          · exact ho1 _ rfl
        · injection e1 with e1
          injection e2 with e2
          rw [← e1, ← e2]
          split <;> split <;> omega
theorem sat_stretch {K : PySem.W.Frag} {vs : List V} {H : Hp} {Q : VK} {E : XK} (h : sp_stretch K vs H Q E) : vs.length = 2 ∧ t_stretch K { nx := fun _ H' => Q .non H', rt := Q } (vs.map some ++ List.replicate (4 - vs.length) none) H := by
  obtain ⟨b, a, ns, G, L, rfl, B, ha, h0, h1, q⟩ := h
  exact ⟨rfl, read_stretch B ha h0 h1 q⟩
/-! ### the law -/
def t_law_1b_14 (K : PySem.W.Frag) : TS :=
  (tIfS (tNot (tB (tCall (sp_like K 9) [] E0 (tCons (tVar 12) (tCons (tLst (tCons (tOp (rI0 fun i j => .bl (decide (i ≤ j))) (tVar 10) (tVar 11)) (tCons (tOp (rI0 fun i j => .bl (decide (i ≤ j))) (tVar 11) (tVar 10)) (tCons (tC (.bl true)) (tCons (tC (.bl false)) (tCons (tC (.bl true)) tNil)))))) tNil))))) (tRet (tC (.bl false))) tNext)
def t_law_1b_13 (K : PySem.W.Frag) : TS :=
  (tSeq (tAsg (tLst (tCons (tCall (sp_is_stretch K) [] E0 (tCons (tTup (tCons (tVar 10) (tCons (tVar 11) tNil))) tNil)) (tCons (tCall (sp_is_stretch K) [] E0 (tCons (tTup (tCons (tVar 11) (tCons (tVar 10) tNil))) tNil)) (tCons (tCall (sp_is_stretch K) [] E0 (tCons (tTup (tCons (tVar 10) (tCons (tVar 10) tNil))) tNil)) (tCons (tCall (sp_is_stretch K) [] E0 (tCons (tTup (tCons (tVar 10) (tCons (tOp (rI0 fun i j => .int (i - j)) (tVar 10) (tC (.int 1))) tNil))) tNil)) (tCons (tCallK (sp_in_stretch K) (gPV 2 [1, 0]) E0 tNil (tCons (tVar 10) (tCons (tTup (tCons (tVar 10) (tCons (tVar 10) tNil))) tNil))) tNil)))))) (gName 12))
  (t_law_1b_14 K))
def t_law_1b_12 (K : PySem.W.Frag) : TS :=
  (tSeq (tPar 10 11 (tCons (tOp (rIx K) (tVar 4) (tC (.int 0))) (tCons (tOp (rIx K) (tVar 4) (tC (.int 1))) tNil)))
  (t_law_1b_13 K))
def t_law_1b_11 (K : PySem.W.Frag) : TS :=
  (tSeq (tIfS (tTest (tOp (gNe K) (tCB (gLen K) (tCons (tCall (sp_common K) [] E0 (tCons (tVar 5) (tCons (tVar 6) tNil))) tNil)) (tCB gInt (tCons (tOp (gNe K) (tVar 8) (tLst tNil)) tNil)))) (tRet (tC (.bl false))) tNext)
  (t_law_1b_12 K))
def t_law_1b_10 (K : PySem.W.Frag) : TS :=
  (tSeq (tDrop (tBM K "list" rAppend (tVar 9) (tCons (tC (.str "x")) tNil)))
  (t_law_1b_11 K))
def t_law_1b_9 (K : PySem.W.Frag) : TS :=
  (tSeq (tIfS (tAnd (tTest (tOp (gNe K) (tVar 9) (tLst tNil))) (tOr (tNot (tB (tCall (sp_is_stretch K) [] E0 (tCons (tOp (rIx K) (tVar 9) (tC (.int 0))) tNil)))) (tTest (tOp (gNe K) (tLc (iList K (tVar 7)) (gName 15) (tB (tCall (sp_in K) [] E0 (tCons (tOp (rIx K) (tVar 9) (tC (.int 0))) (tCons (tVar 15) tNil)))) (tVar 15) [15]) (tVar 8))))) (tRet (tC (.bl false))) tNext)
  (t_law_1b_10 K))
def t_law_1b_8 (K : PySem.W.Frag) : TS :=
  (tSeq (tIfS (tOr (tNot (tB (tCall (sp_like K 9) [] E0 (tCons (tCB (gLen K) (tCons (tVar 9) tNil)) (tCons (tCB gInt (tCons (tOp (gNe K) (tVar 8) (tLst tNil)) tNil)) tNil))))) (tNot (tB (tCall (sp_like K 9) [] E0 (tCons (tCallK (sp_common K) (gPV 2 [0, 1]) E0 tNil (tCons (tVar 6) (tCons (tVar 5) tNil))) (tCons (tVar 9) tNil)))))) (tRet (tC (.bl false))) tNext)
  (t_law_1b_9 K))
def t_law_1b_7 (K : PySem.W.Frag) : TS :=
  (tSeq (tAsg (tCall (sp_common K) [] E0 (tCons (tVar 5) (tCons (tVar 6) tNil))) (gName 9))
  (t_law_1b_8 K))
def t_law_1b_6 (K : PySem.W.Frag) : TS :=
  (tSeq (tAsg (tLc (iList K (tVar 7)) (gName 15) (tAnd (tB (tCall (sp_in K) [] E0 (tCons (tVar 5) (tCons (tVar 15) tNil)))) (tB (tCall (sp_in K) [] E0 (tCons (tVar 6) (tCons (tVar 15) tNil))))) (tVar 15) [15]) (gName 8))
  (t_law_1b_7 K))
def t_law_1b_5 (K : PySem.W.Frag) : TS :=
  (tSeq (tIfS (tNot (tB (tCall (sp_like K 9) [] E0 (tCons (tLc (iList K (tVar 7)) (gName 15) tYes (tCall (sp_in_stretch K) [] E0 (tCons (tVar 5) (tCons (tVar 15) tNil))) [15]) (tCons (tLc (iList K (tVar 7)) (gName 15) tYes (tCall (sp_in K) [] E0 (tCons (tVar 5) (tCons (tVar 15) tNil))) [15]) tNil))))) (tRet (tC (.bl false))) tNext)
  (t_law_1b_6 K))
def t_law_1b_4 (K : PySem.W.Frag) : TS :=
  (tSeq (tIfS (tNot (tB (tCall (sp_like K 9) [] E0 (tCons (tLst (tCons (tCall (sp_is_stretch K) [] E0 (tCons (tVar 5) tNil)) (tCons (tCallK (sp_is_stretch K) (gPV 1 [0]) E0 tNil (tCons (tVar 6) tNil)) tNil))) (tCons (tLst (tCons (tC (.bl true)) (tCons (tC (.bl true)) tNil))) tNil))))) (tRet (tC (.bl false))) tNext)
  (t_law_1b_5 K))
def t_law_1b_3 (K : PySem.W.Frag) : TS :=
  (tSeq (tAsg (tOp (gAdd K) (tLst (tCons (tC .non) tNil)) (tLstRg (tRg2 (tOp (rI0 fun i j => .int (i - j)) (tVar 3) (tC (.int 1))) (tOp (gAdd K) (tVar 3) (tC (.int 7)))))) (gName 7))
  (t_law_1b_4 K))
def t_law_1b_2 (K : PySem.W.Frag) : TS :=
  (tSeq (tAsg (tTup (tCons (tCall (sp_stretch K) [] E0 (tCons (tVar 1) (tCons (tVar 4) tNil))) (tCons (tCall (sp_stretch K) [] E0 (tCons (tVar 1) (tCons (tVar 4) tNil))) tNil))) (gTup K 2 (gCons (gName 5) (gCons (gName 6) gNil))))
  (t_law_1b_3 K))
def t_law_1b_1 (K : PySem.W.Frag) : TS :=
  (tSeq (tAsg (tLc (iRng1 (tCons (tC (.int 3)) tNil)) (gName 14) tYes (tOp (gAdd K) (tVar 3) (tCall (sp_draw K) [] E0 (tCons (tVar 1) (tCons (tC (.int 6)) tNil)))) [14]) (gName 4))
  (t_law_1b_2 K))
def t_law_1b (K : PySem.W.Frag) : TS :=
  (tSeq (tAsg (tCall (sp_of K) [] E0 (tCons (tVar 1) (tCons (tLst (tCons (tC (.int 0)) (tCons (tUn (rU fun i => .int (-i)) (tC (.int 2))) (tCons (tOp (rI CPow fun i j => .int (i ^ j.toNat)) (tC (.int 10)) (tC (.int 17))) (tCons (tOp (rI0 fun i j => .int (i - j)) (tC (.int 0)) (tOp (rI CPow fun i j => .int (i ^ j.toNat)) (tC (.int 10)) (tC (.int 17)))) tNil))))) tNil))) (gName 3))
  (t_law_1b_1 K))
def t_law_3 (K : PySem.W.Frag) : TS :=
  (tRet (tCall (sp_like K 9) [] E0 (tCons (tLst (tCons (tCall (sp_is_stretch K) [] E0 (tCons (tVar 13) tNil)) (tCons (tCall (sp_is_stretch K) [] E0 (tCons (tC .non) tNil)) (tCons (tCall (sp_is_stretch K) [] E0 (tCons (tTup (tCons (tC .non) (tCons (tC .non) tNil))) tNil)) (tCons (tCall (sp_common K) [] E0 (tCons (tTup (tCons (tC .non) (tCons (tC (.int 3)) tNil))) (tCons (tTup (tCons (tC (.int 4)) (tCons (tC .non) tNil))) tNil))) (tCons (tCall (sp_common K) [] E0 (tCons (tC .non) (tCons (tC .non) tNil))) tNil)))))) (tCons (tLst (tCons (tC (.bl false)) (tCons (tC (.bl true)) (tCons (tC (.bl true)) (tCons (tLst tNil) (tCons (tLst (tCons (tC .non) tNil)) tNil)))))) tNil))))
def t_law_2 (K : PySem.W.Frag) : TS :=
  (tSeq (tAsg (tCall (sp_of K) [] E0 (tCons (tVar 1) (tCons (tLst (tCons (tC (.int 3)) (tCons (tC (.bl true)) (tCons (tC (.str "")) (tCons (tC (.str "_")) (tCons (tC (.str "..")) (tCons (tTup (tCons (tC (.int 1)) tNil)) (tCons (tTup (tCons (tC (.int 1)) (tCons (tC (.int 2)) (tCons (tC (.int 3)) tNil)))) (tCons (tLst (tCons (tC (.int 1)) (tCons (tC (.int 2)) tNil))) (tCons (tLst (tCons (tC .non) (tCons (tC .non) tNil))) (tCons (tTup (tCons (tC .non) (tCons (tC (.bl true)) tNil))) (tCons (tTup (tCons (tC (.bl true)) (tCons (tC (.int 3)) tNil))) (tCons (tTup (tCons (tC (.str "1")) (tCons (tC (.int 2)) tNil))) (tCons (tTup tNil) (tCons (tTup (tCons (tTup (tCons (tC (.int 1)) (tCons (tC (.int 2)) tNil))) tNil)) tNil))))))))))))))) tNil))) (gName 13))
  (t_law_3 K))
def t_law_1 (K : PySem.W.Frag) : TS :=
  (tSeq (tFor (iRng1 (tCons (tC (.int 6)) tNil)) (gName 2) (t_law_1b K))
  (t_law_2 K))
def t_law (K : PySem.W.Frag) : TS :=
  (tSeq (tAsg (tCall (sp_open K) [] E0 (tCons (tVar 0) tNil)) (gName 1))
  (t_law_1 K))
def unV : V → Option Int
  | .int i => some i
  | _ => none
theorem unV_oV (o : Option Int) : unV (oV o) = o := by cases o <;> rfl
theorem map_bl (os : List (Option Int)) (f : Option Int → Bool) : ((os.map oV).map fun x => V.bl (f (unV x))) = (os.map f).map V.bl := by
  simp only [List.map_map]
  exact List.map_congr_left fun o _ => by show V.bl (f (unV (oV o))) = V.bl (f o); rw [unV_oV]
theorem filter_oV (os : List (Option Int)) (f : Option Int → Bool) : ((os.map oV).filter fun x => f (unV x)).map (fun x => x) = (os.filter f).map oV := by
  rw [List.map_id']
  induction os with
  | nil => rfl
  | cons o os ih =>
    rw [List.map_cons, List.filter_cons, List.filter_cons, unV_oV, ih]
    cases f o <;> rfl
theorem mem_oV {os : List (Option Int)} {x : V} (h : x ∈ os.map oV) : ∃ o, x = oV o := by
  obtain ⟨o, _, rfl⟩ := List.mem_map.mp h
  exact ⟨o, rfl⟩
theorem lk_list {K : PySem.W.Frag} {G : Hp} {x y : V} {d : PyData} (h : Dp K G x d) (h2 : Dp K G y d) : lk d d = true := lk_refl d (Dp.plain _ _ h)
theorem read_values {K : PySem.W.Frag} {p5 : V} {s : SD} {vL : Addr} {os : List (Option Int)} {G H : Hp} {M : List (Addr × HO)} {Q : VK} {σ : L2.St} {f : Sp} (hf : f = sp_in_stretch K ∨ f = sp_in K) (h5 : StV K G p5 s) (hv : SqL K G vL (os.map oV)) (hz : os.length < 1000000) (S : Stt G H M)
    (hσ7 : σ[7]? = some (some (.ref vL))) (hσ5 : ∀ x, ((wipe σ [15]).set 15 (some x))[5]? = some (some p5)) (hσ15 : ∀ x, ((wipe σ [15]).set 15 (some x))[15]? = some (some x)) (hw : ∀ x, wipe ((wipe σ [15]).set 15 (some x)) [15] = wipe σ [15])
    (q : ∀ r G' H', Ex G G' → Stt G' H' M → SqL K G' r ((os.map (inS s)).map V.bl) → Q (.ref r) H') :
    tLc (iList K (tVar 7)) (gName 15) tYes (tCall f [] E0 (tCons (tVar 5) (tCons (tVar 15) tNil))) [15] σ H Q := by
  refine rd_lc (rd_il (rd_var hσ7 ⟨vL, rfl, ⟨_, ex_l S.ex hv⟩, ?_⟩))
  refine lc_mapJ stt_world (walk_list (xs := os.map oV)) S (fun H' e' => ex_l e' hv) (by rw [List.length_map]; exact hz) hw (fun x => .bl (inS s (unV x))) (fun x acc D1 G2 H2 hx e2 S2 Kp kp => ?_) (fun D1 G2 H2 e2 S2 => ?_)
  · obtain ⟨o, rfl⟩ := mem_oV hx
    refine rd_call (rd_cons (rd_var (hσ5 _) (rd_cons (rd_var (hσ15 _) (rd_nil ?_)))))
    rw [unV_oV] at kp
    rcases hf with rfl | rfl
    · exact ⟨p5, s, o, rfl, StV.ex (e2.trans S2.ex) h5, kp _ S2⟩
    · exact ⟨p5, s, o, rfl, StV.ex (e2.trans S2.ex) h5, kp _ S2⟩
  · rw [map_bl] at S2
    exact q D1 _ H2 (e2.trans S2.frzE) S2.frz (sq_of upd_same)



section
variable {K : PySem.W.Frag} {G H : Hp} {M : List (Addr × HO)} {D : Ends} {a0 a1 a2 a3 a5 a6 a7 a8 a9 a10 a11 a12 a13 a14 a15 : Option V} {nL vL bL : Addr} {n0 n1 n2 low : Int} {s t : SD} {p5 p6 : V}
theorem read_12 (S : Stt G H M) (hn : SqL K G nL [.int n0, .int n1, .int n2]) (q : ∀ x10 x11 x12 G' H', Ex G G' → Stt G' H' M → D.nx [a0, a1, a2, a3, some (.ref nL), a5, a6, a7, a8, a9, x10, x11, x12, a13, a14, a15] H') :
    t_law_1b_12 K D [a0, a1, a2, a3, some (.ref nL), a5, a6, a7, a8, a9, a10, a11, a12, a13, a14, a15] H := by
  unfold t_law_1b_12
  walk_at "gc"
  unfold t_law_1b_13
  walk_at "gc"
  refine mk_tup stt_world S (by show 2 ≤ _; decide) fun z1 G1 e1 S1 h1 => ?_
  walk_at "gc"
  refine ⟨.ref z1, .tuple [.int n0, .int n1], rfl, .tup (ex_t S1.ex (st_of h1)) (.cons (.int _) (.cons (.int _) .nil)), ?_⟩
  walk_at "gc"
  refine mk_tup stt_world S1 (by show 2 ≤ _; decide) fun z2 G2 e2 S2 h2 => ?_
  walk_at "gc"
  refine ⟨.ref z2, .tuple [.int n1, .int n0], rfl, .tup (ex_t S2.ex (st_of h2)) (.cons (.int _) (.cons (.int _) .nil)), ?_⟩
  walk_at "gc"
  refine mk_tup stt_world S2 (by show 2 ≤ _; decide) fun z3 G3 e3 S3 h3 => ?_
  walk_at "gc"
  refine ⟨.ref z3, .tuple [.int n0, .int n0], rfl, .tup (ex_t S3.ex (st_of h3)) (.cons (.int _) (.cons (.int _) .nil)), ?_⟩
  walk_at "gc"
  refine mk_tup stt_world S3 (by show 2 ≤ _; decide) fun z4 G4 e4 S4 h4 => ?_
  walk_at "gc"
  refine ⟨.ref z4, .tuple [.int n0, .int (n0 - 1)], rfl, .tup (ex_t S4.ex (st_of h4)) (.cons (.int _) (.cons (.int _) .nil)), ?_⟩
  walk_at "gc"
  refine mk_tup stt_world S4 (by show 2 ≤ _; decide) fun z5 G5 e5 S5 h5 => ?_
  walk_at "gc"
  refine ⟨.ref z5, some (some n0, some n0), some n0, rfl, ⟨z5, rfl, ex_t S5.ex (st_of h5)⟩, ?_⟩
  walk_at "gc"
  refine mk_lst stt_world S5 (by show 5 ≤ _; decide) fun z6 G6 e6 S6 h6 => ?_
  walk_at "gc"
  unfold t_law_1b_14
  walk_at "gc"
  refine mk_lst stt_world S6 (by show 5 ≤ _; decide) fun z7 G7 e7 S7 h7 => ?_
  walk_at "gc"
  have b3 : isSt (.tuple [.int n0, .int n0]) = true := by show (true && true && decide (n0 ≤ n0)) = true; simp
  have b4 : isSt (.tuple [.int n0, .int (n0 - 1)]) = false := by show (true && true && decide (n0 ≤ n0 - 1)) = false; simp; omega
  have b5 : inS (some (some n0, some n0)) (some n0) = true := by show (decide (n0 ≤ n0) && decide (n0 ≤ n0)) = true; simp
  have b1 : isSt (.tuple [.int n0, .int n1]) = decide (n0 ≤ n1) := by show (true && true && decide (n0 ≤ n1)) = _; simp
  have b2 : isSt (.tuple [.int n1, .int n0]) = decide (n1 ≤ n0) := by show (true && true && decide (n1 ≤ n0)) = _; simp
  rw [b1, b2, b3, b4, b5] at h6
  have dl : Dp K G7 (.ref z6) (.list [.bool (decide (n0 ≤ n1)), .bool (decide (n1 ≤ n0)), .bool true, .bool false, .bool true]) := .lst (ex_l e7 (sq_of h6)) (.cons (.bl _) (.cons (.bl _) (.cons (.bl _) (.cons (.bl _) (.cons (.bl _) .nil)))))
  have dr : Dp K G7 (.ref z7) (.list [.bool (decide (n0 ≤ n1)), .bool (decide (n1 ≤ n0)), .bool true, .bool false, .bool true]) := .lst (sq_of h7) (.cons (.bl _) (.cons (.bl _) (.cons (.bl _) (.cons (.bl _) (.cons (.bl _) .nil)))))
  refine ⟨G7, M, .ref z6, .ref z7, _, _, rfl, S7, dl, dr, by simp [fit], fun H8 S8 => ?_⟩
  rw [lk_list dl dr]
  walk_at "gc"
  exact q _ _ _ G7 H8 (e1.trans (e2.trans (e3.trans (e4.trans (e5.trans (e6.trans e7)))))) S8
/-- told, whether it is empty, whether there is a value in both -/
theorem ne_nil (l : List (Option Int)) : PyData.eqv (.list (l.map oD)) (.list []) = decide (l = []) := os_eqv l []
theorem cm_both {low : Int} {ns : List Int} (hn : ∀ n, n ∈ ns → low ≤ n ∧ n ≤ low + 5) (hs : SOk ns s) (ht : SOk ns t) : decide ((osOf low).filter (fun v => inS s v && inS t v) = []) = (cm s t).isNone := by
  cases h : cm s t with
  | none =>
    refine decide_eq_true (List.filter_eq_nil_iff.mpr fun v _ => ?_)
    rw [cm_none s t h v]; exact Bool.false_ne_true
  | some u =>
    obtain ⟨v, hv, hp⟩ := cm_some hn s t u hs ht h
    exact decide_eq_false fun z => by
      have : v ∈ (osOf low).filter (fun v => inS s v && inS t v) := List.mem_filter.mpr ⟨hv, hp⟩
      rw [z] at this
      cases this
theorem cmv_len {us : List V} {o : Option SD} (h : CmV K G us o) : (us.length : Int) = if (!o.isNone) = true then 1 else 0 := by
  cases o with
  | none => cases h; rfl
  | some u => obtain ⟨v, rfl, _⟩ := h; rfl
theorem CmV.ex {G' : Hp} {us : List V} (e : Ex G G') : ∀ {o : Option SD}, CmV K G us o → CmV K G' us o
  | none, h => h
  | some u, ⟨v, h1, h2⟩ => ⟨v, h1, h2.ex e⟩
def cmD : Option SD → PyData
  | none => .list []
  | some u => .list [sD u]
theorem CmV.dp {us : List V} {p : Addr} (hp : SqL K G p us) : ∀ {o : Option SD}, CmV K G us o → Dp K G (.ref p) (cmD o)
  | none, h => by cases h; exact .lst hp .nil
  | some u, ⟨v, h1, h2⟩ => by subst h1; exact .lst hp (.cons h2.dp .nil)
theorem fit_sD (n : Nat) : ∀ s : SD, fit (n + 2) (sD s)
  | none => True.intro
  | some (a, b) => ⟨by show 2 < _; decide, fun e he => by
    rcases in_two he with rfl | he
    · cases a <;> exact True.intro
    · rw [List.mem_singleton.mp he]; cases b <;> exact True.intro⟩
theorem fit_cmD (n : Nat) : ∀ o : Option SD, fit (n + 3) (cmD o)
  | none => ⟨by show 0 < _; decide, fun e he => nomatch he⟩
  | some u => ⟨by show 1 < _; decide, fun e he => by rw [List.mem_singleton.mp he]; exact fit_sD n u⟩
/-- whether both is not empty, as a number -/
theorem read_11 (S : Stt G H M) (hn : SqL K G nL [.int n0, .int n1, .int n2]) (h5 : StV K G p5 s) (h6 : StV K G p6 t) (hns : ∀ n, n ∈ [n0, n1, n2] → low ≤ n ∧ n ≤ low + 5) (os5 : SOk [n0, n1, n2] s) (os6 : SOk [n0, n1, n2] t)
    (hb : SqL K G bL (((osOf low).filter (fun v => inS s v && inS t v)).map oV))
    (q : ∀ x10 x11 x12 G' H', Ex G G' → Stt G' H' M → D.nx [a0, a1, a2, a3, some (.ref nL), some p5, some p6, a7, some (.ref bL), a9, x10, x11, x12, a13, a14, a15] H') :
    t_law_1b_11 K D [a0, a1, a2, a3, some (.ref nL), some p5, some p6, a7, some (.ref bL), a9, a10, a11, a12, a13, a14, a15] H := by
  unfold t_law_1b_11
  walk_at "gc"
  refine ⟨p5, p6, s, t, G, M, rfl, S, h5, h6, fun p us G1 H1 e1 S1 hu => ?_⟩
  walk_at "gc"
  refine rd_lenL (sq_of (S1.at 0 rfl)) ?_
  walk_at "gc"
  refine mk_lst stt_world S1 (by show 0 ≤ _; decide) fun z G2 e2 S2 hz => ?_
  walk_at "gc"
  refine rd_neD (.lst (ex_l (e1.trans (e2.trans S2.ex)) hb) (oDps _)) (.lst (ex_l S2.ex (sq_of hz)) .nil) (os_shaped _) rfl ?_
  rw [ne_nil, cm_both hns os5 os6]
  walk_at "gc"
  rw [cmv_len hu]
  refine rd_decN (fun e => ?_) (fun e => (e rfl).elim)
  walk_at "gc"
  exact read_12 S2.drop (ex_l (e1.trans e2) hn) fun x10 x11 x12 G' H' e' S' => q _ _ _ G' H' (e1.trans (e2.trans e')) S'
theorem read_9 {p : Addr} {us : List V} (S : Stt G H ((p, .lst us) :: M)) (hu : CmV K G us (cm s t)) (hn : SqL K G nL [.int n0, .int n1, .int n2]) (h5 : StV K G p5 s) (h6 : StV K G p6 t) (hns : ∀ n, n ∈ [n0, n1, n2] → low ≤ n ∧ n ≤ low + 5) (os5 : SOk [n0, n1, n2] s) (os6 : SOk [n0, n1, n2] t)
    (hv : SqL K G vL ((osOf low).map oV)) (hb : SqL K G bL (((osOf low).filter (fun v => inS s v && inS t v)).map oV))
    (q : ∀ x10 x11 x12 G' H', Ex G G' → Stt G' H' M → D.nx [a0, a1, a2, a3, some (.ref nL), some p5, some p6, some (.ref vL), some (.ref bL), some (.ref p), x10, x11, x12, a13, a14, a15] H') :
    t_law_1b_9 K D [a0, a1, a2, a3, some (.ref nL), some p5, some p6, some (.ref vL), some (.ref bL), some (.ref p), a10, a11, a12, a13, a14, a15] H := by
  have ten : ∀ (G1 H1 : Hp), Ex G G1 → Stt G1 H1 ((p, .lst us) :: M) → us.length ≤ 1 → t_law_1b_10 K D [a0, a1, a2, a3, some (.ref nL), some p5, some p6, some (.ref vL), some (.ref bL), some (.ref p), a10, a11, a12, a13, a14, a15] H1 := by
    intro G1 H1 e1 S1 hl
    unfold t_law_1b_10
    walk_at "gc"
    refine ⟨ty_list (sq_of (S1.at 0 rfl)), ?_⟩
    walk_at "gc"
    refine rd_app (S1.at 0 rfl) (by omega) ?_
    exact read_11 (S1.wr 0 rfl).drop (ex_l e1 hn) (h5.ex e1) (h6.ex e1) hns os5 os6 (ex_l e1 hb) fun x10 x11 x12 G' H' e' S' => q _ _ _ G' H' (e1.trans e') S'
  unfold t_law_1b_9
  walk_at "gc"
  refine mk_lst stt_world S (by show 0 ≤ _; decide) fun z G2 e2 S2 hz => ?_
  walk_at "gc"
  have hp2 := S2.at 0 rfl
  cases h : cm s t with
  | none =>
    rw [h] at hu
    cases hu
    refine rd_neD (d := .list []) (e := .list []) (.lst (sq_of hp2) .nil) (.lst (ex_l S2.ex (sq_of hz)) .nil) rfl rfl ?_
    rw [show PyData.eqv (.list []) (.list []) = true from rfl]
    walk_at "gc"
    exact ten G2 _ e2 S2 (Nat.zero_le _)
  | some u =>
    have hin := cm_in s t u h
    have hst := isSt_cm h
    rw [h] at hu
    obtain ⟨v, rfl, hv1⟩ := hu
    have shu : SeqAt.shaped (.list [sD u]) = true := by
      rcases u with _ | ⟨a, b⟩
      · rfl
      · rcases a with _ | a <;> rcases b with _ | b <;> rfl
    refine rd_neD (d := .list [sD u]) (e := .list []) (.lst (sq_of hp2) (.cons (hv1.ex (e2.trans S2.ex)).dp .nil)) (.lst (ex_l S2.ex (sq_of hz)) .nil) shu rfl ?_
    rw [show PyData.eqv (.list [sD u]) (.list []) = false from rfl]
    walk_at "gc"
    refine ⟨v, sD u, rfl, (hv1.ex (e2.trans S2.ex)).dp, ?_⟩
    rw [hst]
    walk_at "gc"
    refine rd_lc (rd_il ?_)
    walk_at "gc"
    refine ⟨vL, rfl, ⟨_, ex_l (e2.trans S2.ex) hv⟩, ?_⟩
    refine lc_filterJ stt_world (walk_list (xs := (osOf low).map oV)) S2 (fun H' e' => ex_l (e2.trans e') hv) (by rw [List.length_map]; show 9 < _; decide) (fun _ => rfl) (fun x => x) (fun x => inS u (unV x)) (fun x acc D1 G3 H3 hx e3 S3 Kt kt => ?_) (fun x acc D1 G3 H3 hx hp e3 S3 Kp kp => ?_) (fun D1 G3 H3 e3 S3 => ?_)
    · obtain ⟨o, rfl⟩ := mem_oV hx
      rw [unV_oV] at kt
      have hp3 := S3.at 1 rfl
      walk_at "gc"
      refine ⟨v, u, o, rfl, hv1.ex (e2.trans (e3.trans S3.ex)), ?_⟩
      walk_at "gc"
      exact kt _ S3
    · walk_at "gc"
      exact kp _ S3
    · rw [filter_oV, show inS u = (fun v => inS s v && inS t v) from funext hin] at S3
      walk_at "gc"
      refine rd_neD (.lst (sq_of (S3.at 0 rfl)) (oDps _)) (.lst (ex_l (e2.trans (e3.trans S3.ex)) hb) (oDps _)) (os_shaped _) (os_shaped _) ?_
      rw [os_eqv, decide_eq_true rfl]
      walk_at "gc"
      exact ten G3 H3 (e2.trans e3) S3.drop (Nat.le_refl _)
/-- from the common part on -/
theorem read_7 (S : Stt G H M) (hn : SqL K G nL [.int n0, .int n1, .int n2]) (h5 : StV K G p5 s) (h6 : StV K G p6 t) (hns : ∀ n, n ∈ [n0, n1, n2] → low ≤ n ∧ n ≤ low + 5) (os5 : SOk [n0, n1, n2] s) (os6 : SOk [n0, n1, n2] t)
    (hv : SqL K G vL ((osOf low).map oV)) (hb : SqL K G bL (((osOf low).filter (fun v => inS s v && inS t v)).map oV))
    (q : ∀ x9 x10 x11 x12 G' H', Ex G G' → Stt G' H' M → D.nx [a0, a1, a2, a3, some (.ref nL), some p5, some p6, some (.ref vL), some (.ref bL), x9, x10, x11, x12, a13, a14, a15] H') :
    t_law_1b_7 K D [a0, a1, a2, a3, some (.ref nL), some p5, some p6, some (.ref vL), some (.ref bL), a9, a10, a11, a12, a13, a14, a15] H := by
  unfold t_law_1b_7
  walk_at "gc"
  refine ⟨p5, p6, s, t, G, M, rfl, S, h5, h6, fun p us G1 H1 e1 S1 hu => ?_⟩
  walk_at "gc"
  unfold t_law_1b_8
  walk_at "gc"
  refine rd_lenL (sq_of (S1.at 0 rfl)) ?_
  walk_at "gc"
  refine mk_lst stt_world S1 (by show 0 ≤ _; decide) fun z G2 e2 S2 hz => ?_
  walk_at "gc"
  refine rd_neD (.lst (ex_l (e1.trans (e2.trans S2.ex)) hb) (oDps _)) (.lst (ex_l S2.ex (sq_of hz)) .nil) (os_shaped _) rfl ?_
  rw [ne_nil, cm_both hns os5 os6]
  walk_at "gc"
  rw [cmv_len hu]
  refine ⟨G2, _, _, _, _, _, rfl, S2, .int _, .int _, True.intro, fun H3 S3 => ?_⟩
  rw [show lk (.int (if (!(cm s t).isNone) = true then 1 else 0)) (.int (if (!(cm s t).isNone) = true then 1 else 0)) = true from decide_eq_true rfl]
  walk_at "gc"
  refine ⟨p6, p5, t, s, G2, _, rfl, S3, h6.ex (e1.trans e2), h5.ex (e1.trans e2), fun p2 us2 G4 H4 e4 S4 hu2 => ?_⟩
  walk_at "gc"
  rw [cm_comm t s] at hu2
  -- both lists stand still while they are compared
  have S5 := S4.frz.frz
  have f1 := S4.frzE
  have f2 := S4.frz.frzE
  have d1 : Dp K (upd (upd G4 p2 (.lst us2)) p (.lst us)) (.ref p2) (cmD (cm s t)) := CmV.dp (ex_l f2 (sq_of upd_same)) (hu2.ex (f1.trans f2))
  have d2 : Dp K (upd (upd G4 p2 (.lst us2)) p (.lst us)) (.ref p) (cmD (cm s t)) := CmV.dp (sq_of upd_same) (hu.ex (e2.trans (e4.trans (f1.trans f2))))
  refine ⟨_, M, .ref p2, .ref p, _, _, rfl, S5, d1, d2, fit_cmD 6 _, fun H6 S6 => ?_⟩
  rw [lk_list d1 d2]
  walk_at "gc"
  have eG : Ex G G4 := e1.trans (e2.trans e4)
  have S7 : Stt G4 H6 ((p, .lst us) :: M) := by
    have hout : (upd G4 p2 (.lst us2)) p = none := (S4.frz).out (p, .lst us) (List.mem_cons_self ..)
    refine ⟨(f1.trans f2).trans S6.ex, fun x hx => ?_, fun x hx => ?_, (List.nodup_cons.mp S4.nd).2⟩
    · rcases in_two hx with rfl | hx
      · exact S6.ex _ _ upd_same
      · exact S6.has x hx
    · rcases in_two hx with rfl | hx
      · exact fresh_back f1 hout
      · exact fresh_back (f1.trans f2) (S6.out x hx)
  exact read_9 S7 (hu.ex (e2.trans e4)) (ex_l eG hn) (h5.ex eG) (h6.ex eG) hns os5 os6 (ex_l eG hv) (ex_l eG hb) fun x10 x11 x12 G' H' e' S' => q _ _ _ _ G' H' (eG.trans e') S'
/-- from the values on -/
theorem read_3 (S : Stt G H M) (hlow : -1000000000000000000 ≤ low ∧ low ≤ 1000000000000000000) (hn : SqL K G nL [.int n0, .int n1, .int n2]) (h5 : StV K G p5 s) (h6 : StV K G p6 t) (hns : ∀ n, n ∈ [n0, n1, n2] → low ≤ n ∧ n ≤ low + 5) (os5 : SOk [n0, n1, n2] s) (os6 : SOk [n0, n1, n2] t)
    (q : ∀ x7 x8 x9 x10 x11 x12 G' H', Ex G G' → Stt G' H' M → D.nx [a0, a1, a2, some (.int low), some (.ref nL), some p5, some p6, x7, x8, x9, x10, x11, x12, a13, a14, a15] H') :
    t_law_1b_3 K D [a0, a1, a2, some (.int low), some (.ref nL), some p5, some p6, a7, a8, a9, a10, a11, a12, a13, a14, a15] H := by
  unfold t_law_1b_3
  walk_at "gc"
  refine mk_lst stt_world S (by show 1 ≤ _; decide) fun z G1 e1 S1 hz => ?_
  refine (fun (h : tRg2 (tOp (rI0 fun i j => .int (i - j)) (tVar 3) (tC (.int 1))) (tOp (gAdd K) (tVar 3) (tC (.int 7))) _ _ _) => h) ?_
  refine (fun (h : (tOp (rI0 fun i j => .int (i - j)) (tVar 3) (tC (.int 1))) _ _ fun x H1 => (tOp (gAdd K) (tVar 3) (tC (.int 7))) _ H1 fun y H2 => ∃ i j, x = .int i ∧ y = .int j ∧ _) => h) ?_
  walk_at "gc"
  refine ⟨low - 1, low + 7, rfl, rfl, ⟨by omega, by omega, by omega, by omega, by omega⟩, ?_⟩
  have hrg : rgV (low - 1) (low + 7) = (List.range 8).map fun i => V.int (low - 1 + (i : Nat)) := by
    unfold rgV
    rw [show (low + 7 - (low - 1)).toNat = 8 by omega]
  rw [hrg]
  refine mk_im (o := .lst ((List.range 8).map fun i => V.int (low - 1 + ((i : Nat) : Int)))) stt_world S1 fun r G2 e2 S2 hr => ?_
  refine rd_addL (S2.ex _ _ (e2 _ _ hz)) (S2.ex _ _ hr) (by rw [List.length_map, List.length_range]; show 1 + 8 ≤ sizeLine; decide) ?_
  have hos : [V.non] ++ ((List.range 8).map fun i => V.int (low - 1 + (i : Nat))) = (osOf low).map oV := by
    show V.non :: _ = V.non :: _
    rw [List.map_map]
    rfl
  rw [hos]
  refine mk_im (o := .lst ((osOf low).map oV)) stt_world S2 fun vL G3 e3 S3 hv => ?_
  have eG := e1.trans (e2.trans e3)
  generalize upd _ vL (.lst ((osOf low).map oV)) = H3 at *
  walk_at "gc"
  unfold t_law_1b_4
  walk_at "gc"
  refine ⟨p5, sD s, rfl, (h5.ex (eG.trans S3.ex)).dp, ?_⟩
  walk_at "gc"
  refine ⟨p6, sD t, rfl, (h6.ex (eG.trans S3.ex)).dp, ?_⟩
  rw [isSt_sok os5, isSt_sok os6]
  walk_at "gc"
  refine mk_lst stt_world S3 (by show 2 ≤ _; decide) fun z1 G4 e4 S4 h1 => ?_
  walk_at "gc"
  refine mk_lst stt_world S4 (by show 2 ≤ _; decide) fun z2 G5 e5 S5 h2 => ?_
  walk_at "gc"
  have dl : Dp K G5 (.ref z1) (.list [.bool true, .bool true]) := .lst (ex_l e5 (sq_of h1)) (.cons (.bl _) (.cons (.bl _) .nil))
  have dr : Dp K G5 (.ref z2) (.list [.bool true, .bool true]) := .lst (sq_of h2) (.cons (.bl _) (.cons (.bl _) .nil))
  refine ⟨G5, M, .ref z1, .ref z2, _, _, rfl, S5, dl, dr, by simp [fit], fun H6 S6 => ?_⟩
  rw [lk_list dl dr]
  walk_at "gc"
  have e35 := e4.trans e5
  have eG5 := eG.trans e35
  have hv5 := ex_l e35 (sq_of (K := K) hv)
  unfold t_law_1b_5
  walk_at "gc"
  refine read_values (os := osOf low) (.inl rfl) (h5.ex eG5) hv5 (by show 9 < _; decide) S6 rfl (fun _ => rfl) (fun _ => rfl) (fun _ => rfl) fun r1 G7 H7 e7 S7 hr1 => ?_
  walk_at "gc"
  refine read_values (os := osOf low) (.inr rfl) (h5.ex (eG5.trans e7)) (ex_l e7 hv5) (by show 9 < _; decide) S7 rfl (fun _ => rfl) (fun _ => rfl) (fun _ => rfl) fun r2 G8 H8 e8 S8 hr2 => ?_
  walk_at "gc"
  have dl : Dp K G8 (.ref r1) (.list (((osOf low).map (inS s)).map PyData.bool)) := .lst (ex_l e8 hr1) (DpAll.bools _)
  have dr : Dp K G8 (.ref r2) (.list (((osOf low).map (inS s)).map PyData.bool)) := .lst hr2 (DpAll.bools _)
  refine ⟨G8, M, .ref r1, .ref r2, _, _, rfl, S8, dl, dr, fit_bools 7 _ (by rw [List.length_map]; show 9 < _; decide), fun H9 S9 => ?_⟩
  rw [lk_list dl dr]
  walk_at "gc"
  have eG8 := eG5.trans (e7.trans e8)
  have hv8 := ex_l (e7.trans e8) hv5
  unfold t_law_1b_6
  refine rd_seq (rd_asg (rd_lc (rd_il ?_)))
  walk_at "gc"
  refine ⟨vL, rfl, ⟨_, ex_l S9.ex hv8⟩, ?_⟩
  refine lc_filterJ stt_world (walk_list (xs := (osOf low).map oV)) S9 (fun H' e' => ex_l e' hv8) (by rw [List.length_map]; show 9 < _; decide) (fun _ => rfl) (fun x => x) (fun x => inS s (unV x) && inS t (unV x)) (fun x acc D1 G3 H3 hx e3 S3 Kt kt => ?_) (fun x acc D1 G3 H3 hx hp e3 S3 Kp kp => ?_) (fun D1 G10 H10 e10 S10 => ?_)
  · obtain ⟨o, rfl⟩ := mem_oV hx
    rw [unV_oV] at kt
    walk_at "gc"
    refine ⟨p5, s, o, rfl, h5.ex (eG8.trans (e3.trans S3.ex)), ?_⟩
    walk_at "gc"
    cases e5 : inS s o with
    | false =>
      walk_at "gc"
      rw [e5] at kt
      exact kt _ S3
    | true =>
      walk_at "gc"
      refine ⟨p6, t, o, rfl, h6.ex (eG8.trans (e3.trans S3.ex)), ?_⟩
      rw [e5] at kt
      walk_at "gc"
      exact kt _ S3
  · walk_at "gc"
    exact kp _ S3
  · rw [filter_oV (osOf low) fun v => inS s v && inS t v] at S10
    have e11 := S10.frzE
    have eG11 := eG8.trans (e10.trans e11)
    walk_at "gc"
    exact read_7 S10.frz (ex_l eG11 hn) (h5.ex eG11) (h6.ex eG11) hns os5 os6 (ex_l (e10.trans e11) hv8) (sq_of upd_same) fun x9 x10 x11 x12 G' H' e' S' => q _ _ _ _ _ _ G' H' (eG11.trans e') S'
end



section
variable {K : PySem.W.Frag} {G H : Hp} {D : Ends} {b : Addr} {a0 a1 a2 a3 a4 a5 a6 a7 a8 a9 a10 a11 a12 a13 a14 a15 : Option V}
theorem read_turn (B : Bag K G H b []) (q : ∀ x3 x4 x5 x6 x7 x8 x9 x10 x11 x12 G' H', Ex G G' → Bag K G' H' b [] → D.nx [a0, some (.ref b), a2, x3, x4, x5, x6, x7, x8, x9, x10, x11, x12, a13, a14, a15] H') :
    t_law_1b K D [a0, some (.ref b), a2, a3, a4, a5, a6, a7, a8, a9, a10, a11, a12, a13, a14, a15] H := by
  unfold t_law_1b
  walk_at "gc"
  refine rd_I ⟨by decide, by decide, by decide⟩ ?_
  walk_at "gc"
  refine rd_I ⟨by decide, by decide, by decide⟩ ?_
  walk_at "gc"
  refine mk_lst (bag_world K b) B (by show 4 ≤ _; decide) fun z G1 e1 B1 hz => ?_
  walk_at "gc"
  refine ⟨b, z, _, G1, _, rfl, B1, fun H' B' => .inl (ex_l B'.ex (sq_of hz)), by show 0 < 4; decide, by show 4 < _; decide, fun x H2 hx B2 => ?_⟩
  obtain ⟨low, rfl, l1, l2⟩ : ∃ low : Int, x = .int low ∧ -1000000000000000000 ≤ low ∧ low ≤ 1000000000000000000 := by
    rcases in_two hx with rfl | hx
    rotate_left
    rcases in_two hx with rfl | hx
    rotate_left
    rcases in_two hx with rfl | hx
    rotate_left
    cases List.mem_singleton.mp hx
    · exact ⟨_, rfl, by decide, by decide⟩
    · exact ⟨_, rfl, by decide, by decide⟩
    · exact ⟨_, rfl, by decide, by decide⟩
    · exact ⟨_, rfl, by decide, by decide⟩
  walk_at "gc"
  unfold t_law_1b_1
  refine rd_seq (rd_asg (rd_lc (rd_rng1 ?_)))
  walk_at "gc"
  refine ⟨3, rfl, by decide, by decide, ?_⟩
  refine lc_draws (bag_world K b) (n := (3 : Int).toNat) (lo := 0) B2 (by decide) (fun _ => rfl) (fun v => ∃ n : Int, v = .int n ∧ low ≤ n ∧ n ≤ low + 5) (fun i acc D1 G3 H3 hi e3 B3 Kp kp => ?_) (fun D1 vs G3 H3 e3 B3 hl hvs => ?_)
  · walk_at "gc"
    refine ⟨b, 6, G3, _, rfl, by decide, by decide, B3, fun d H4 d0 d1 B4 => ?_⟩
    walk_at "gc"
    exact kp _ G3 H4 (Ex.refl _) B4 ⟨low + d, rfl, by omega, by omega⟩
  have hl3 : vs.length = 3 := hl
  match vs, hl3, hvs with
  | [v0, v1, v2], _, hvs =>
  obtain ⟨n0, rfl, h01, h02⟩ := hvs v0 (by simp)
  obtain ⟨n1, rfl, h11, h12⟩ := hvs v1 (by simp)
  obtain ⟨n2, rfl, h21, h22⟩ := hvs v2 (by simp)
  obtain ⟨B4, e4⟩ := (bag_world K b).frz B3
  have hn : SqL K (upd G3 D1 (.lst [.int n0, .int n1, .int n2])) D1 ([n0, n1, n2].map V.int) := sq_of upd_same
  have eG := e1.trans (e3.trans e4)
  generalize upd G3 D1 (.lst [.int n0, .int n1, .int n2]) = G4 at *
  have hns : ∀ n, n ∈ [n0, n1, n2] → low ≤ n ∧ n ≤ low + 5 := fun n h => by
    simp only [List.mem_cons, List.not_mem_nil, or_false] at h
    rcases h with rfl | rfl | rfl <;> omega
  walk_at "gc"
  unfold t_law_1b_2
  walk_at "gc"
  refine ⟨b, D1, [n0, n1, n2], G4, _, rfl, B4, hn, by show 0 < 3; decide, by show 3 < _; decide, fun p5 s G5 H5 e5 B5 h5 ok5 => ?_⟩
  walk_at "gc"
  refine ⟨b, D1, [n0, n1, n2], G5, _, rfl, B5, ex_l e5 hn, by show 0 < 3; decide, by show 3 < _; decide, fun p6 t G6 H6 e6 B6 h6 ok6 => ?_⟩
  walk_at "gc"
  refine mk_tup (bag_world K b) B6 (by show 2 ≤ _; decide) fun z2 G7 e7 B7 hz2 => ?_
  refine rd_gtup2 (ex_t B7.ex (st_of hz2)) ?_
  obtain ⟨M, S, hM⟩ := B7.stt
  have e57 := e5.trans (e6.trans e7)
  exact read_3 S ⟨l1, l2⟩ (ex_l e57 hn) (h5.ex (e6.trans e7)) (h6.ex e7) hns ok5 ok6 fun x7 x8 x9 x10 x11 x12 G' H' e' S' => q _ _ _ _ _ _ _ _ _ _ G' H' (eG.trans (e57.trans e')) (hM G' H' e' S')
theorem Stt.new' {L : List (Addr × HO)} {p : Addr} {o : HO} {G2 : Hp} (S : Stt G H ((p, o) :: L)) : Stt (upd G p o) H L := S.frz
theorem read_last {M : List (Addr × HO)} {x : V} {d : PyData} (S : Stt G H M) (hx : Dp K G x d) (hd : isSt d = false) (q : ∀ H', D.rt (.bl true) H') : t_law_3 K D [a0, a1, a2, a3, a4, a5, a6, a7, a8, a9, a10, a11, a12, some x, a14, a15] H := by
  unfold t_law_3
  walk_at "gc"
  refine ⟨x, d, rfl, Dp.ex S.ex _ _ hx, ?_⟩
  rw [hd]
  walk_at "gc"
  refine ⟨.non, .none, rfl, .non, ?_⟩
  walk_at "gc"
  refine mk_tup stt_world S (by show 2 ≤ _; decide) fun z1 G1 e1 S1 h1 => ?_
  walk_at "gc"
  refine ⟨.ref z1, .tuple [.none, .none], rfl, .tup (ex_t S1.ex (st_of h1)) (.cons .non (.cons .non .nil)), ?_⟩
  walk_at "gc"
  refine mk_tup stt_world S1 (by show 2 ≤ _; decide) fun z2 G2 e2 S2 h2 => ?_
  walk_at "gc"
  refine mk_tup stt_world S2 (by show 2 ≤ _; decide) fun z3 G3 e3 S3 h3 => ?_
  walk_at "gc"
  refine ⟨.ref z2, .ref z3, some (none, some 3), some (some 4, none), G3, M, rfl, S3, ⟨z2, rfl, ex_t e3 (st_of h2)⟩, ⟨z3, rfl, st_of h3⟩, fun p us G4 H4 e4 S4 hu => ?_⟩
  cases hu
  have S5 := S4.frz
  have h5 : SqL K (upd G4 p (.lst [])) p [] := sq_of upd_same
  generalize upd G4 p (.lst []) = G5 at *
  walk_at "gc"
  refine ⟨.non, .non, none, none, G5, M, rfl, S5, rfl, rfl, fun p2 us2 G6 H6 e6 S6 hu2 => ?_⟩
  obtain ⟨v, rfl, hv⟩ := hu2
  cases hv
  have e7 := S6.frzE
  have S7 := S6.frz
  have h7 : SqL K (upd G6 p2 (.lst [.non])) p2 [.non] := sq_of upd_same
  generalize upd G6 p2 (.lst [.non]) = G7 at *
  walk_at "gc"
  refine mk_lst stt_world S7 (by show 5 ≤ _; decide) fun z4 G8 e8 S8 h8 => ?_
  walk_at "gc"
  refine mk_lst stt_world S8 (by show 0 ≤ _; decide) fun z5 G9 e9 S9 h9 => ?_
  walk_at "gc"
  refine mk_lst stt_world S9 (by show 1 ≤ _; decide) fun z6 G10 e10 S10 h10 => ?_
  walk_at "gc"
  refine mk_lst stt_world S10 (by show 5 ≤ _; decide) fun z7 G11 e11 S11 h11 => ?_
  walk_at "gc"
  have e811 := e9.trans (e10.trans e11)
  have dl : Dp K G11 (.ref z4) (.list [.bool false, .bool true, .bool true, .list [], .list [.none]]) :=
    .lst (ex_l e811 (sq_of h8)) (.cons (.bl _) (.cons (.bl _) (.cons (.bl _) (.cons (.lst (ex_l (e6.trans (e7.trans (e8.trans e811))) h5) .nil) (.cons (.lst (ex_l (e8.trans e811) h7) (.cons .non .nil)) .nil)))))
  have dr : Dp K G11 (.ref z7) (.list [.bool false, .bool true, .bool true, .list [], .list [.none]]) :=
    .lst (sq_of h11) (.cons (.bl _) (.cons (.bl _) (.cons (.bl _) (.cons (.lst (ex_l (e10.trans e11) (sq_of h9)) .nil) (.cons (.lst (ex_l e11 (sq_of h10)) (.cons .non .nil)) .nil)))))
  refine ⟨G11, M, .ref z4, .ref z7, _, _, rfl, S11, dl, dr, by simp [fit], fun H12 S12 => ?_⟩
  rw [lk_list dl dr]
  exact q H12
def odds : List PyData := [.int 3, .bool true, .str "", .str "_", .str "..", .tuple [.int 1], .tuple [.int 1, .int 2, .int 3], .list [.int 1, .int 2], .list [.none, .none], .tuple [.none, .bool true], .tuple [.bool true, .int 3], .tuple [.str "1", .int 2], .tuple [], .tuple [.tuple [.int 1, .int 2]]]
theorem odds_not : ∀ d, d ∈ odds → isSt d = false := by
  intro d hd
  simp only [odds, List.mem_cons, List.not_mem_nil, or_false] at hd
  rcases hd with rfl | rfl | rfl | rfl | rfl | rfl | rfl | rfl | rfl | rfl | rfl | rfl | rfl | rfl <;> rfl
theorem read_2 (B : Bag K G H b []) (q : ∀ H', D.rt (.bl true) H') : t_law_2 K D [a0, some (.ref b), a2, a3, a4, a5, a6, a7, a8, a9, a10, a11, a12, a13, a14, a15] H := by
  unfold t_law_2
  walk_at "gc"
  refine mk_tup (bag_world K b) B (by show 1 ≤ _; decide) fun z1 G1 e1 B1 h1 => ?_
  walk_at "gc"
  refine mk_tup (bag_world K b) B1 (by show 3 ≤ _; decide) fun z2 G2 e2 B2 h2 => ?_
  walk_at "gc"
  refine mk_lst (bag_world K b) B2 (by show 2 ≤ _; decide) fun z3 G3 e3 B3 h3 => ?_
  walk_at "gc"
  refine mk_lst (bag_world K b) B3 (by show 2 ≤ _; decide) fun z4 G4 e4 B4 h4 => ?_
  walk_at "gc"
  refine mk_tup (bag_world K b) B4 (by show 2 ≤ _; decide) fun z5 G5 e5 B5 h5 => ?_
  walk_at "gc"
  refine mk_tup (bag_world K b) B5 (by show 2 ≤ _; decide) fun z6 G6 e6 B6 h6 => ?_
  walk_at "gc"
  refine mk_tup (bag_world K b) B6 (by show 2 ≤ _; decide) fun z7 G7 e7 B7 h7 => ?_
  walk_at "gc"
  refine mk_tup (bag_world K b) B7 (by show 0 ≤ _; decide) fun z8 G8 e8 B8 h8 => ?_
  walk_at "gc"
  refine mk_tup (bag_world K b) B8 (by show 2 ≤ _; decide) fun z9 G9 e9 B9 h9 => ?_
  walk_at "gc"
  refine mk_tup (bag_world K b) B9 (by show 1 ≤ _; decide) fun z10 G10 e10 B10 h10 => ?_
  walk_at "gc"
  refine mk_lst (bag_world K b) B10 (by show 14 ≤ _; decide) fun z11 G11 e11 B11 h11 => ?_
  walk_at "gc"
  have f10 := e11
  have f9 := e10.trans f10
  have f8 := e9.trans f9
  have f7 := e8.trans f8
  have f6 := e7.trans f7
  have f5 := e6.trans f6
  have f4 := e5.trans f5
  have f3 := e4.trans f4
  have f2 := e3.trans f3
  have f1 := e2.trans f2
  have all : DpAll K G11 [.int 3, .bl true, .str "", .str "_", .str "..", .ref z1, .ref z2, .ref z3, .ref z4, .ref z5, .ref z6, .ref z7, .ref z8, .ref z10] odds :=
    .cons (.int _) (.cons (.bl _) (.cons (.str _) (.cons (.str _) (.cons (.str _) (.cons (.tup (ex_t f1 (st_of h1)) (.cons (.int _) .nil)) (.cons (.tup (ex_t f2 (st_of h2)) (.cons (.int _) (.cons (.int _) (.cons (.int _) .nil))))
      (.cons (.lst (ex_l f3 (sq_of h3)) (.cons (.int _) (.cons (.int _) .nil))) (.cons (.lst (ex_l f4 (sq_of h4)) (.cons .non (.cons .non .nil))) (.cons (.tup (ex_t f5 (st_of h5)) (.cons .non (.cons (.bl _) .nil))) (.cons (.tup (ex_t f6 (st_of h6)) (.cons (.bl _) (.cons (.int _) .nil)))
      (.cons (.tup (ex_t f7 (st_of h7)) (.cons (.str _) (.cons (.int _) .nil))) (.cons (.tup (ex_t f8 (st_of h8)) .nil) (.cons (.tup (ex_t f10 (st_of h10)) (.cons (.tup (ex_t f9 (st_of h9)) (.cons (.int _) (.cons (.int _) .nil))) .nil)) .nil)))))))))))))
  refine ⟨b, z11, _, G11, _, rfl, B11, fun H' B' => .inl (ex_l B'.ex (sq_of h11)), by show 0 < 14; decide, by show 14 < _; decide, fun x H2 hx B12 => ?_⟩
  obtain ⟨i, hi⟩ := List.getElem?_of_mem hx
  obtain ⟨d, hd, hdp⟩ := DpAll.get all hi
  obtain ⟨M, S, _⟩ := B12.stt
  walk_at "gc"
  exact read_last S hdp (odds_not d (List.mem_of_getElem? hd)) q
end
def sp_law (K : PySem.W.Frag) : Sp := fun vs H Q _ => ∃ (a : Addr) (ns : List Int), vs = [.ref a] ∧ SqL K H a (ns.map V.int) ∧ (∀ H', Q (.bl true) H')
theorem read_law {K : PySem.W.Frag} {a : Addr} {ns : List Int} {H : Hp} {D : Ends} {a1 a2 a3 a4 a5 a6 a7 a8 a9 a10 a11 a12 a13 a14 a15 : Option V} (ha : SqL K H a (ns.map V.int)) (q : ∀ H', D.rt (.bl true) H') :
    t_law K D [some (.ref a), a1, a2, a3, a4, a5, a6, a7, a8, a9, a10, a11, a12, a13, a14, a15] H := by
  unfold t_law
  walk_at "go"
  refine ⟨a, ns, H, [], rfl, Stt.nil H, ha, fun b G1 H1 e1 B1 => ?_⟩
  walk_at "go"
  unfold t_law_1
  refine rd_seq (rd_for (rd_rng1 ?_))
  walk_at "go"
  refine ⟨6, rfl, by decide, by decide, ?_⟩
  refine for_go (walk_range (lo := 0) (n := (6 : Int).toNat)) (G := G1)
    (fun i σ1 G2 H2 => ∃ x2 x3 x4 x5 x6 x7 x8 x9 x10 x11 x12 x13 x14 x15, σ1 = [some (.ref a), some (.ref b), x2, x3, x4, x5, x6, x7, x8, x9, x10, x11, x12, x13, x14, x15] ∧ Bag K G2 H2 b [])
    ⟨_, _, _, _, _, _, _, _, _, _, _, _, _, _, rfl, B1⟩ (fun _ _ _ _ _ _ => True.intro) ?_ ?_
  · rintro i x σ1 G2 H2 H3 hi ⟨x2, x3, x4, x5, x6, x7, x8, x9, x10, x11, x12, x13, x14, x15, rfl, B2⟩ y N hN
    obtain ⟨rfl, rfl⟩ := y
    walk_at "go"
    exact read_turn B2 fun x3 x4 x5 x6 x7 x8 x9 x10 x11 x12 G' H' e' B' => hN _ G' H' ⟨_, _, _, _, _, _, _, _, _, _, _, _, _, _, rfl, B'⟩
  · rintro σ1 G2 H2 ⟨x2, x3, x4, x5, x6, x7, x8, x9, x10, x11, x12, x13, x14, x15, rfl, B2⟩
    exact read_2 B2 q
theorem sat_law {K : PySem.W.Frag} {vs : List V} {H : Hp} {Q : VK} {E : XK} (h : sp_law K vs H Q E) : vs.length = 1 ∧ t_law K { nx := fun _ H' => Q .non H', rt := Q } (vs.map some ++ List.replicate (16 - vs.length) none) H := by
  obtain ⟨a, ns, rfl, ha, q⟩ := h
  exact ⟨rfl, read_law ha q⟩

end EE
namespace K04
open PySem PySem.Spec PyProof.Rows L2 Evl RZ EE
def topS (i : Nat) : Stmt := PySem.Challenge.pw_eachentry_k04_stretches_judged.main.body.getD i (.Pass ⟨0, 0, 0, 0⟩)
abbrev s_is_number : Stmt := topS 1
theorem sc_is_number : FnScope ["value"] ["value"] (defScope s_is_number) := ⟨rfl, rfl, rfl, by decide +kernel, rfl, by decide +kernel, by decide +kernel⟩
abbrev s_is_value : Stmt := topS 2
theorem sc_is_value : FnScope ["value"] ["value"] (defScope s_is_value) := ⟨rfl, rfl, rfl, by decide +kernel, rfl, by decide +kernel, by decide +kernel⟩
abbrev s_is_stretch : Stmt := topS 4
theorem sc_is_stretch : FnScope ["value", "low", "high"] ["value"] (defScope s_is_stretch) := ⟨rfl, rfl, rfl, by decide +kernel, rfl, by decide +kernel, by decide +kernel⟩
abbrev s_in_stretch : Stmt := topS 5
theorem sc_in_stretch : FnScope ["stretch", "value", "low", "high"] ["stretch", "value"] (defScope s_in_stretch) := ⟨rfl, rfl, rfl, by decide +kernel, rfl, by decide +kernel, by decide +kernel⟩
abbrev s_common : Stmt := topS 6
theorem sc_common : FnScope ["one", "other", "lows", "highs", "low", "high"] ["one", "other"] (defScope s_common) := ⟨rfl, rfl, rfl, by decide +kernel, rfl, by decide +kernel, by decide +kernel⟩
abbrev s_open : Stmt := topS 8
theorem sc_open : FnScope ["_law_script"] ["_law_script"] (defScope s_open) := ⟨rfl, rfl, rfl, by decide +kernel, rfl, by decide +kernel, by decide +kernel⟩
abbrev s_draw : Stmt := topS 9
theorem sc_draw : FnScope ["_law_bag", "_law_many", "_law_cell", "_law_digit", "_law_seed"] ["_law_bag", "_law_many"] (defScope s_draw) := ⟨rfl, rfl, rfl, by decide +kernel, rfl, by decide +kernel, by decide +kernel⟩
abbrev s_of : Stmt := topS 10
theorem sc_of : FnScope ["_law_bag", "_law_things"] ["_law_bag", "_law_things"] (defScope s_of) := ⟨rfl, rfl, rfl, by decide +kernel, rfl, by decide +kernel, by decide +kernel⟩
abbrev s_like : Stmt := topS 11
theorem sc_like : FnScope ["_law_found", "_law_due", "_law_one_z", "_law_other_z"] ["_law_found", "_law_due"] (defScope s_like) := ⟨rfl, rfl, rfl, by decide +kernel, rfl, by decide +kernel, by decide +kernel⟩
abbrev s_stretch : Stmt := topS 12
theorem sc_stretch : FnScope ["_law_bag", "_law_numbers", "_law_low", "_law_high"] ["_law_bag", "_law_numbers"] (defScope s_stretch) := ⟨rfl, rfl, rfl, by decide +kernel, rfl, by decide +kernel, by decide +kernel⟩
abbrev s_in : Stmt := topS 13
theorem sc_in : FnScope ["_law_stretch_z", "_law_value_z"] ["_law_stretch_z", "_law_value_z"] (defScope s_in) := ⟨rfl, rfl, rfl, by decide +kernel, rfl, by decide +kernel, by decide +kernel⟩
abbrev s_law : Stmt := topS 14
theorem sc_law : FnScope ["_law_script", "_law_bag", "_law_turn", "_law_low", "_law_numbers", "_law_one_z", "_law_other_z", "_law_values", "_law_both", "_law_told", "_law_a", "_law_b", "_law_found", "_law_odd", "_law_k", "_law_value_z"] ["_law_script"] (defScope s_law) := ⟨rfl, rfl, rfl, by decide +kernel, rfl, by decide +kernel, by decide +kernel⟩
section
variable {base : Heap} {P : Program} {w : World} {mg : Str → Option Value} {K : PySem.W.Frag}
theorem cal_is_number {f : Addr} {fd : FuncData} (F : Fun K "is_number" "is_number" s_is_number f fd) (g : mg "is_number" = some (.ref f)) (m_isinstance : mg "isinstance" = none) (m_int : mg "int" = none) (m_bool : mg "bool" = none) : C8.Cal P w K mg base 1 "is_number" (sp_is_number K) [] := by
  have G : FnOk P w K mg base CX0 1 f fd ["value"] (sp_is_number K) := by
    refine F.ok sc_is_number (fun vs H Q E h => (sat_is_number h).1) (fun cdv A outer s H vs Q E hr h => ?_)
    have nd := sc_is_number.nd
    exact ⟨_, (pss_one (ps_ret (pe_and (pe_callB cg_isi (by rfl) m_isinstance (by decide +kernel) (pa_cons (pv 0) (pa_cons (pe_bltn (v := .ty "int") (u := .type "int") (by rfl) m_int (by decide +kernel) rfl) pa_nil))) (pe_one (pe_not (pe_callB cg_isi (by rfl) m_isinstance (by decide +kernel) (pa_cons (pv 0) (pa_cons (pe_bltn (v := .ty "bool") (u := .type "bool") (by rfl) m_bool (by decide +kernel) rfl) pa_nil)))))))), (sat_is_number h).2⟩
  exact cal_mk F G g fun _ _ _ _ _ _ us hl => match us, hl with | [_], _ => rfl
theorem cal_is_value {f : Addr} {fd : FuncData} (F : Fun K "is_value" "is_value" s_is_value f fd) (g : mg "is_value" = some (.ref f)) (C_is_number : C8.Cal P w K mg base 1 "is_number" (sp_is_number K) []) : C8.Cal P w K mg base 2 "is_value" (sp_is_value K) [] := by
  have G : FnOk P w K mg base CX0 2 f fd ["value"] (sp_is_value K) := by
    refine F.ok sc_is_value (fun vs H Q E h => (sat_is_value h).1) (fun cdv A outer s H vs Q E hr h => ?_)
    have nd := sc_is_value.nd
    exact ⟨_, (pss_one (ps_ret (pe_or (pe_cmpR op_isN1 (pv 0) pe_non (nomark _)) (pe_one (C8.pe_c C_is_number hr (by decide) (by rfl) (pa_cons (pv 0) pa_nil)))))), (sat_is_value h).2⟩
  exact cal_mk F G g fun _ _ _ _ _ _ us hl => match us, hl with | [_], _ => rfl
theorem cal_is_stretch {f : Addr} {fd : FuncData} (F : Fun K "is_stretch" "is_stretch" s_is_stretch f fd) (g : mg "is_stretch" = some (.ref f)) (C_is_value : C8.Cal P w K mg base 2 "is_value" (sp_is_value K) []) (m_isinstance : mg "isinstance" = none) (m_tuple : mg "tuple" = none) (m_len : mg "len" = none) (m_bool : mg "bool" = none) : C8.Cal P w K mg base 3 "is_stretch" (sp_is_stretch K) [] := by
  have G : FnOk P w K mg base CX0 3 f fd ["value"] (sp_is_stretch K) := by
    refine F.ok sc_is_stretch (fun vs H Q E h => (sat_is_stretch h).1) (fun cdv A outer s H vs Q E hr h => ?_)
    have nd := sc_is_stretch.nd
    exact ⟨_, (pss_cons (ps_if (pt_cmpR op_isN1 (pv 0) pe_non (nomark _)) (pss_one (ps_ret pe_bl)) pss_nil)
  (pss_cons (ps_if (PW.pt (pw_or (pt_not (pt_val (pe_callB cg_isi (by rfl) m_isinstance (by decide +kernel) (pa_cons (pv 0) (pa_cons (pe_bltn (v := .ty "tuple") (u := .type "tuple") (by rfl) m_tuple (by decide +kernel) rfl) pa_nil))))) (pw_or1 (pt_cmpR (og_ne hr.units) (pe_callB cg_len (by rfl) m_len (by decide +kernel) (pa_cons (pv 0) pa_nil)) pe_int (nomark _))))) (pss_one (ps_ret pe_bl)) pss_nil)
  (pss_cons (ps_asg (pv 0) (pg_tup rfl (pgs_cons (pg_name (i := 1) nd rfl (.inl rfl)) (pgs_cons (pg_name (i := 2) nd rfl (.inl rfl)) pgs_nil))))
  (pss_cons (ps_if (PW.pt (pw_or (pt_not (pt_val (C8.pe_c C_is_value hr (by decide) (by rfl) (pa_cons (pv 1) pa_nil)))) (pw_or1 (pt_not (pt_val (C8.pe_c C_is_value hr (by decide) (by rfl) (pa_cons (pv 2) pa_nil))))))) (pss_one (ps_ret pe_bl)) pss_nil)
  (pss_one (ps_ret (pe_or (pe_cmpR op_isN1 (pv 1) pe_non (nomark _)) (pe_or (pe_cmpR op_isN1 (pv 2) pe_non (nomark _)) (pe_one (pe_callTy cg_bool (by rfl) m_bool (by decide +kernel) (pa_cons (pe_cmpR og_le (pv 1) (pv 2) (nomark _)) pa_nil))))))))))), (sat_is_stretch h).2⟩
  exact cal_mk F G g fun _ _ _ _ _ _ us hl => match us, hl with | [_], _ => rfl
theorem calK_is_stretch_value {f : Addr} {fd : FuncData} (F : Fun K "is_stretch" "is_stretch" s_is_stretch f fd) (g : mg "is_stretch" = some (.ref f)) (C_is_value : C8.Cal P w K mg base 2 "is_value" (sp_is_value K) []) (m_isinstance : mg "isinstance" = none) (m_tuple : mg "tuple" = none) (m_len : mg "len" = none) (m_bool : mg "bool" = none) : CalK P w K mg base 3 "is_stretch" (sp_is_stretch K) ["value"] [0] := by
  have G : FnOk P w K mg base CX0 3 f fd ["value"] (sp_is_stretch K) := by
    refine F.ok sc_is_stretch (fun vs H Q E h => (sat_is_stretch h).1) (fun cdv A outer s H vs Q E hr h => ?_)
    have nd := sc_is_stretch.nd
    exact ⟨_, (pss_cons (ps_if (pt_cmpR op_isN1 (pv 0) pe_non (nomark _)) (pss_one (ps_ret pe_bl)) pss_nil)
  (pss_cons (ps_if (PW.pt (pw_or (pt_not (pt_val (pe_callB cg_isi (by rfl) m_isinstance (by decide +kernel) (pa_cons (pv 0) (pa_cons (pe_bltn (v := .ty "tuple") (u := .type "tuple") (by rfl) m_tuple (by decide +kernel) rfl) pa_nil))))) (pw_or1 (pt_cmpR (og_ne hr.units) (pe_callB cg_len (by rfl) m_len (by decide +kernel) (pa_cons (pv 0) pa_nil)) pe_int (nomark _))))) (pss_one (ps_ret pe_bl)) pss_nil)
  (pss_cons (ps_asg (pv 0) (pg_tup rfl (pgs_cons (pg_name (i := 1) nd rfl (.inl rfl)) (pgs_cons (pg_name (i := 2) nd rfl (.inl rfl)) pgs_nil))))
  (pss_cons (ps_if (PW.pt (pw_or (pt_not (pt_val (C8.pe_c C_is_value hr (by decide) (by rfl) (pa_cons (pv 1) pa_nil)))) (pw_or1 (pt_not (pt_val (C8.pe_c C_is_value hr (by decide) (by rfl) (pa_cons (pv 2) pa_nil))))))) (pss_one (ps_ret pe_bl)) pss_nil)
  (pss_one (ps_ret (pe_or (pe_cmpR op_isN1 (pv 1) pe_non (nomark _)) (pe_or (pe_cmpR op_isN1 (pv 2) pe_non (nomark _)) (pe_one (pe_callTy cg_bool (by rfl) m_bool (by decide +kernel) (pa_cons (pe_cmpR og_le (pv 1) (pv 2) (nomark _)) pa_nil))))))))))), (sat_is_stretch h).2⟩
  exact calK_mk F G g (by decide) fun _ _ _ _ _ _ ws hl => match ws, hl with | [_], _ => rfl
theorem cal_in_stretch {f : Addr} {fd : FuncData} (F : Fun K "in_stretch" "in_stretch" s_in_stretch f fd) (g : mg "in_stretch" = some (.ref f)) (m_bool : mg "bool" = none) : C8.Cal P w K mg base 1 "in_stretch" (sp_in_stretch K) [] := by
  have G : FnOk P w K mg base CX0 1 f fd ["stretch", "value"] (sp_in_stretch K) := by
    refine F.ok sc_in_stretch (fun vs H Q E h => (sat_in_stretch h).1) (fun cdv A outer s H vs Q E hr h => ?_)
    have nd := sc_in_stretch.nd
    exact ⟨_, (pss_cons (ps_if (PW.pt (pw_or (pt_cmpR op_isN1 (pv 0) pe_non (nomark _)) (pw_or1 (pt_cmpR op_isN1 (pv 1) pe_non (nomark _))))) (pss_one (ps_ret (pe_and (pe_cmpR op_isN1 (pv 0) pe_non (nomark _)) (pe_one (pe_cmpR op_isN1 (pv 1) pe_non (nomark _)))))) pss_nil)
  (pss_cons (ps_asg (pv 0) (pg_tup rfl (pgs_cons (pg_name (i := 2) nd rfl (.inl rfl)) (pgs_cons (pg_name (i := 3) nd rfl (.inl rfl)) pgs_nil))))
  (pss_one (ps_ret (pe_and (pe_or (pe_cmpR op_isN1 (pv 2) pe_non (nomark _)) (pe_one (pe_callTy cg_bool (by rfl) m_bool (by decide +kernel) (pa_cons (pe_cmpR og_le (pv 2) (pv 1) (nomark _)) pa_nil)))) (pe_one (pe_or (pe_cmpR op_isN1 (pv 3) pe_non (nomark _)) (pe_one (pe_callTy cg_bool (by rfl) m_bool (by decide +kernel) (pa_cons (pe_cmpR og_le (pv 1) (pv 3) (nomark _)) pa_nil)))))))))), (sat_in_stretch h).2⟩
  exact cal_mk F G g fun _ _ _ _ _ _ us hl => match us, hl with | [_, _], _ => rfl
theorem calK_in_stretch_value_stretch {f : Addr} {fd : FuncData} (F : Fun K "in_stretch" "in_stretch" s_in_stretch f fd) (g : mg "in_stretch" = some (.ref f)) (m_bool : mg "bool" = none) : CalK P w K mg base 1 "in_stretch" (sp_in_stretch K) ["value", "stretch"] [1, 0] := by
  have G : FnOk P w K mg base CX0 1 f fd ["stretch", "value"] (sp_in_stretch K) := by
    refine F.ok sc_in_stretch (fun vs H Q E h => (sat_in_stretch h).1) (fun cdv A outer s H vs Q E hr h => ?_)
    have nd := sc_in_stretch.nd
    exact ⟨_, (pss_cons (ps_if (PW.pt (pw_or (pt_cmpR op_isN1 (pv 0) pe_non (nomark _)) (pw_or1 (pt_cmpR op_isN1 (pv 1) pe_non (nomark _))))) (pss_one (ps_ret (pe_and (pe_cmpR op_isN1 (pv 0) pe_non (nomark _)) (pe_one (pe_cmpR op_isN1 (pv 1) pe_non (nomark _)))))) pss_nil)
  (pss_cons (ps_asg (pv 0) (pg_tup rfl (pgs_cons (pg_name (i := 2) nd rfl (.inl rfl)) (pgs_cons (pg_name (i := 3) nd rfl (.inl rfl)) pgs_nil))))
  (pss_one (ps_ret (pe_and (pe_or (pe_cmpR op_isN1 (pv 2) pe_non (nomark _)) (pe_one (pe_callTy cg_bool (by rfl) m_bool (by decide +kernel) (pa_cons (pe_cmpR og_le (pv 2) (pv 1) (nomark _)) pa_nil)))) (pe_one (pe_or (pe_cmpR op_isN1 (pv 3) pe_non (nomark _)) (pe_one (pe_callTy cg_bool (by rfl) m_bool (by decide +kernel) (pa_cons (pe_cmpR og_le (pv 1) (pv 3) (nomark _)) pa_nil)))))))))), (sat_in_stretch h).2⟩
  exact calK_mk F G g (by decide) fun _ _ _ _ _ _ ws hl => match ws, hl with | [_, _], _ => rfl
theorem cal_common {f : Addr} {fd : FuncData} (F : Fun K "common" "common" s_common f fd) (g : mg "common" = some (.ref f)) (m_min : mg "min" = none) (m_max : mg "max" = none) : C8.Cal P w K mg base 1 "common" (sp_common K) [] := by
  have G : FnOk P w K mg base CX0 1 f fd ["one", "other"] (sp_common K) := by
    refine F.ok sc_common (fun vs H Q E h => (sat_common h).1) (fun cdv A outer s H vs Q E hr h => ?_)
    have nd := sc_common.nd
    exact ⟨_, (pss_cons (ps_if (PW.pt (pw_or (pt_cmpR op_isN1 (pv 0) pe_non (nomark _)) (pw_or1 (pt_cmpR op_isN1 (pv 1) pe_non (nomark _))))) (pss_one (ps_ret (pe_ifExp (PW.pt (pw_and (pt_cmpR op_isN1 (pv 0) pe_non (nomark _)) (pw_and1 (pt_cmpR op_isN1 (pv 1) pe_non (nomark _))))) (pe_lst (pa_cons pe_non pa_nil)) (pe_lst pa_nil)))) pss_nil)
  (pss_cons (ps_setLc (i := 2) (own := [("low", 4)]) (g := (gName 4)) (tt := (tTest (tOp rNotN (tVar 4) (tC .non)))) rfl nd rfl rfl (sw_true rfl rfl rfl (by decide +kernel)) (pi_tup (pe_tup (pa_cons (pe_ix ix_seq (pv 0) pe_int (fun _ _ => rfl)) (pa_cons (pe_ix ix_seq (pv 1) pe_int (fun _ _ => rfl)) pa_nil)))) (blkOk_by (N := ["one", "other", "lows", "highs", "low", "high"]) (sc := defScope s_common) (by decide +kernel)) (fun _ _ _ _ _ => (pg_name (i := 4) nd rfl (.inl rfl))) (fun _ _ _ _ _ => (pts_one (pt_cmpR op_notN1 (pv 4) pe_non (nomark _)))) (fun _ _ _ _ _ => (pv 4)))
  (pss_cons (ps_setLc (i := 3) (own := [("high", 5)]) (g := (gName 5)) (tt := (tTest (tOp rNotN (tVar 5) (tC .non)))) rfl nd rfl rfl (sw_true rfl rfl rfl (by decide +kernel)) (pi_tup (pe_tup (pa_cons (pe_ix ix_seq (pv 0) pe_int (fun _ _ => rfl)) (pa_cons (pe_ix ix_seq (pv 1) pe_int (fun _ _ => rfl)) pa_nil)))) (blkOk_by (N := ["one", "other", "lows", "highs", "low", "high"]) (sc := defScope s_common) (by decide +kernel)) (fun _ _ _ _ _ => (pg_name (i := 5) nd rfl (.inl rfl))) (fun _ _ _ _ _ => (pts_one (pt_cmpR op_notN1 (pv 5) pe_non (nomark _)))) (fun _ _ _ _ _ => (pv 5)))
  (pss_cons (ps_par (i := 4) (j := 5) (by rfl) nd rfl rfl (by decide) rfl rfl (pa_cons (pe_bK (ck_max rfl hr.units) (by rfl) m_max (by decide +kernel) (pa_cons (pv 2) pa_nil) (pk_cons pe_non pk_nil)) (pa_cons (pe_bK (ck_min rfl hr.units) (by rfl) m_min (by decide +kernel) (pa_cons (pv 3) pa_nil) (pk_cons pe_non pk_nil)) pa_nil)) (by rfl))
  (pss_cons (ps_if (PW.pt (pw_and (pt_cmpR op_notN1 (pv 4) pe_non (nomark _)) (pw_and (pt_cmpR op_notN1 (pv 5) pe_non (nomark _)) (pw_and1 (pt_cmpR og_gt (pv 4) (pv 5) (nomark _)))))) (pss_one (ps_ret (pe_lst pa_nil))) pss_nil)
  (pss_one (ps_ret (pe_lst (pa_cons (pe_tup (pa_cons (pv 4) (pa_cons (pv 5) pa_nil))) pa_nil))))))))), (sat_common h).2⟩
  exact cal_mk F G g fun _ _ _ _ _ _ us hl => match us, hl with | [_, _], _ => rfl
theorem calK_common_one_other {f : Addr} {fd : FuncData} (F : Fun K "common" "common" s_common f fd) (g : mg "common" = some (.ref f)) (m_min : mg "min" = none) (m_max : mg "max" = none) : CalK P w K mg base 1 "common" (sp_common K) ["one", "other"] [0, 1] := by
  have G : FnOk P w K mg base CX0 1 f fd ["one", "other"] (sp_common K) := by
    refine F.ok sc_common (fun vs H Q E h => (sat_common h).1) (fun cdv A outer s H vs Q E hr h => ?_)
    have nd := sc_common.nd
    exact ⟨_, (pss_cons (ps_if (PW.pt (pw_or (pt_cmpR op_isN1 (pv 0) pe_non (nomark _)) (pw_or1 (pt_cmpR op_isN1 (pv 1) pe_non (nomark _))))) (pss_one (ps_ret (pe_ifExp (PW.pt (pw_and (pt_cmpR op_isN1 (pv 0) pe_non (nomark _)) (pw_and1 (pt_cmpR op_isN1 (pv 1) pe_non (nomark _))))) (pe_lst (pa_cons pe_non pa_nil)) (pe_lst pa_nil)))) pss_nil)
  (pss_cons (ps_setLc (i := 2) (own := [("low", 4)]) (g := (gName 4)) (tt := (tTest (tOp rNotN (tVar 4) (tC .non)))) rfl nd rfl rfl (sw_true rfl rfl rfl (by decide +kernel)) (pi_tup (pe_tup (pa_cons (pe_ix ix_seq (pv 0) pe_int (fun _ _ => rfl)) (pa_cons (pe_ix ix_seq (pv 1) pe_int (fun _ _ => rfl)) pa_nil)))) (blkOk_by (N := ["one", "other", "lows", "highs", "low", "high"]) (sc := defScope s_common) (by decide +kernel)) (fun _ _ _ _ _ => (pg_name (i := 4) nd rfl (.inl rfl))) (fun _ _ _ _ _ => (pts_one (pt_cmpR op_notN1 (pv 4) pe_non (nomark _)))) (fun _ _ _ _ _ => (pv 4)))
  (pss_cons (ps_setLc (i := 3) (own := [("high", 5)]) (g := (gName 5)) (tt := (tTest (tOp rNotN (tVar 5) (tC .non)))) rfl nd rfl rfl (sw_true rfl rfl rfl (by decide +kernel)) (pi_tup (pe_tup (pa_cons (pe_ix ix_seq (pv 0) pe_int (fun _ _ => rfl)) (pa_cons (pe_ix ix_seq (pv 1) pe_int (fun _ _ => rfl)) pa_nil)))) (blkOk_by (N := ["one", "other", "lows", "highs", "low", "high"]) (sc := defScope s_common) (by decide +kernel)) (fun _ _ _ _ _ => (pg_name (i := 5) nd rfl (.inl rfl))) (fun _ _ _ _ _ => (pts_one (pt_cmpR op_notN1 (pv 5) pe_non (nomark _)))) (fun _ _ _ _ _ => (pv 5)))
  (pss_cons (ps_par (i := 4) (j := 5) (by rfl) nd rfl rfl (by decide) rfl rfl (pa_cons (pe_bK (ck_max rfl hr.units) (by rfl) m_max (by decide +kernel) (pa_cons (pv 2) pa_nil) (pk_cons pe_non pk_nil)) (pa_cons (pe_bK (ck_min rfl hr.units) (by rfl) m_min (by decide +kernel) (pa_cons (pv 3) pa_nil) (pk_cons pe_non pk_nil)) pa_nil)) (by rfl))
  (pss_cons (ps_if (PW.pt (pw_and (pt_cmpR op_notN1 (pv 4) pe_non (nomark _)) (pw_and (pt_cmpR op_notN1 (pv 5) pe_non (nomark _)) (pw_and1 (pt_cmpR og_gt (pv 4) (pv 5) (nomark _)))))) (pss_one (ps_ret (pe_lst pa_nil))) pss_nil)
  (pss_one (ps_ret (pe_lst (pa_cons (pe_tup (pa_cons (pv 4) (pa_cons (pv 5) pa_nil))) pa_nil))))))))), (sat_common h).2⟩
  exact calK_mk F G g (by decide) fun _ _ _ _ _ _ ws hl => match ws, hl with | [_, _], _ => rfl
theorem cal_open {f : Addr} {fd : FuncData} (F : Fun K "_law_open" "_law_open" s_open f fd) (g : mg "_law_open" = some (.ref f)) (m_list : mg "list" = none) : C8.Cal P w K mg base 1 "_law_open" (sp_open K) [] := by
  have G : FnOk P w K mg base CX0 1 f fd ["_law_script"] (sp_open K) := by
    refine F.ok sc_open (fun vs H Q E h => (sat_open h).1) (fun cdv A outer s H vs Q E hr h => ?_)
    have nd := sc_open.nd
    exact ⟨_, (pss_one (ps_ret (pe_lst (pa_cons (pe_callTy cg_list (by rfl) m_list (by decide +kernel) (pa_cons (pe_slice og_sl (pv 0) po_none (po_some pe_int)) pa_nil)) (pa_cons pe_int (pa_cons pe_int (pa_cons pe_int (pa_cons pe_int pa_nil)))))))), (sat_open h).2⟩
  exact cal_mk F G g fun _ _ _ _ _ _ us hl => match us, hl with | [_], _ => rfl
theorem cal_draw {f : Addr} {fd : FuncData} (F : Fun K "_law_draw" "_law_draw" s_draw f fd) (g : mg "_law_draw" = some (.ref f)) (m_len : mg "len" = none) (m_int : mg "int" = none) : C8.Cal P w K mg base 1 "_law_draw" (sp_draw K) [] := by
  have G : FnOk P w K mg base CX0 1 f fd ["_law_bag", "_law_many"] (sp_draw K) := by
    refine F.ok sc_draw (fun vs H Q E h => (sat_draw h).1) (fun cdv A outer s H vs Q E hr h => ?_)
    have nd := sc_draw.nd
    exact ⟨_, (pss_cons (ps_if (PW.pt (pw_and (pt_cmpR (og_eq hr.units) (pe_ix ix_seq (pv 0) pe_int (fun _ _ => rfl)) pe_int (nomark _)) (pw_and1 (pt_cmpR (og_lt hr.units) (pe_ix ix_seq (pv 0) pe_int (fun _ _ => rfl)) (pe_callB cg_len (by rfl) m_len (by decide +kernel) (pa_cons (pe_ix ix_seq (pv 0) pe_int (fun _ _ => rfl)) pa_nil)) (nomark _))))) (pss_cons (ps_set (i := 2) nd rfl (.inl rfl) (pe_ix ix_seq (pe_ix ix_seq (pv 0) pe_int (fun _ _ => rfl)) (pe_ix ix_seq (pv 0) pe_int (fun _ _ => rfl)) (fun _ _ => rfl)))
  (pss_cons (ps_asg (pe_op og_add (pe_ix ix_seq (pv 0) pe_int (fun _ _ => rfl)) pe_int) (pg_sub (pv 0) pe_int set_list))
  (pss_cons (ps_asg (pe_ifExp (pt_cmpR og_ge (pv 2) (pe_op og_pow pe_int pe_int) (nomark _)) (pv 2) pe_int) (pg_sub (pv 0) pe_int set_list))
  (pss_one (ps_asg (pe_op og_mod (pe_callTy cg_int (by rfl) m_int (by decide +kernel) (pa_cons (pe_op og_add (pe_op og_add (pe_op og_mul (pe_ix ix_seq (pv 0) pe_int (fun _ _ => rfl)) pe_int) (pe_op og_mul (pe_op og_mod (pe_callTy cg_int (by rfl) m_int (by decide +kernel) (pa_cons (pv 2) pa_nil)) pe_int) pe_int)) pe_int) pa_nil)) pe_int) (pg_sub (pv 0) pe_int set_list)))))) pss_nil)
  (pss_cons (ps_if (pt_cmpR og_gt (pe_ix ix_seq (pv 0) pe_int (fun _ _ => rfl)) pe_int (nomark _)) (pss_cons (ps_set (i := 3) nd rfl (.inl rfl) (pe_op og_mod (pe_callTy cg_int (by rfl) m_int (by decide +kernel) (pa_cons (pe_ix ix_seq (pv 0) pe_int (fun _ _ => rfl)) pa_nil)) (pv 1)))
  (pss_cons (ps_asg (pe_op og_fdiv (pe_ix ix_seq (pv 0) pe_int (fun _ _ => rfl)) (pv 1)) (pg_sub (pv 0) pe_int set_list))
  (pss_one (ps_ret (pv 3))))) pss_nil)
  (pss_cons (ps_asg (pe_op og_add (pe_ix ix_seq (pv 0) pe_int (fun _ _ => rfl)) pe_int) (pg_sub (pv 0) pe_int set_list))
  (pss_cons (ps_set (i := 4) nd rfl (.inl rfl) (pe_ix ix_seq (pv 0) pe_int (fun _ _ => rfl)))
  (pss_cons (ps_asg (pe_op og_mod (pe_callTy cg_int (by rfl) m_int (by decide +kernel) (pa_cons (pe_op og_add (pe_op og_add (pe_op og_add (pe_op og_mul (pv 4) (pv 4)) (pe_op og_mul pe_int (pv 4))) (pe_op og_mul pe_int (pe_ix ix_seq (pv 0) pe_int (fun _ _ => rfl)))) pe_int) pa_nil)) pe_int) (pg_sub (pv 0) pe_int set_list))
  (pss_one (ps_ret (pe_op og_mod (pe_callTy cg_int (by rfl) m_int (by decide +kernel) (pa_cons (pe_op og_add (pe_op og_add (pe_op og_fdiv (pe_ix ix_seq (pv 0) pe_int (fun _ _ => rfl)) pe_int) (pe_op og_mul (pv 4) pe_int)) (pe_ix ix_seq (pv 0) pe_int (fun _ _ => rfl))) pa_nil)) (pv 1))))))))), (sat_draw h).2⟩
  exact cal_mk F G g fun _ _ _ _ _ _ us hl => match us, hl with | [_, _], _ => rfl
theorem cal_of {f : Addr} {fd : FuncData} (F : Fun K "_law_of" "_law_of" s_of f fd) (g : mg "_law_of" = some (.ref f)) (C__law_draw : C8.Cal P w K mg base 1 "_law_draw" (sp_draw K) []) (m_len : mg "len" = none) : C8.Cal P w K mg base 2 "_law_of" (sp_of K) [] := by
  have G : FnOk P w K mg base CX0 2 f fd ["_law_bag", "_law_things"] (sp_of K) := by
    refine F.ok sc_of (fun vs H Q E h => (sat_of h).1) (fun cdv A outer s H vs Q E hr h => ?_)
    have nd := sc_of.nd
    exact ⟨_, (pss_one (ps_ret (pe_ix ix_seq (pv 1) (C8.pe_c C__law_draw hr (by decide) (by rfl) (pa_cons (pv 0) (pa_cons (pe_callB cg_len (by rfl) m_len (by decide +kernel) (pa_cons (pv 1) pa_nil)) pa_nil))) (fun _ _ => rfl)))), (sat_of h).2⟩
  exact cal_mk F G g fun _ _ _ _ _ _ us hl => match us, hl with | [_, _], _ => rfl
theorem cal_like {f : Addr} {fd : FuncData} (F : Fun K "_law_like" "_law_like" s_like f fd) (g : mg "_law_like" = some (.ref f)) (m_isinstance : mg "isinstance" = none) (m_tuple : mg "tuple" = none) (m_list : mg "list" = none) (m_len : mg "len" = none) (m_all : mg "all" = none) (m_zip : mg "zip" = none) (m_bool : mg "bool" = none) (m_int : mg "int" = none) (m_str : mg "str" = none) : ∀ n, C8.Cal P w K mg base n "_law_like" (sp_like K n) []
  | 0 => ⟨f, fd, ["_law_found", "_law_due"], [], fnOk_never (never_like K), g, F.kp, F.binds fun _ _ _ _ _ _ us hl => match us, hl with | [_, _], _ => rfl, .nil⟩
  | n + 1 => by
    have C__law_like := cal_like F g m_isinstance m_tuple m_list m_len m_all m_zip m_bool m_int m_str n
    have G : FnOk P w K mg base CX0 (n + 1) f fd ["_law_found", "_law_due"] (sp_like K (n + 1)) := by
      refine F.ok sc_like (fun vs H Q E h => (sat_like h).1) (fun cdv A outer s H vs Q E hr h => ?_)
      have nd := sc_like.nd
      exact ⟨_, (pss_cons (ps_if (pt_val (pe_callB cg_isi (by rfl) m_isinstance (by decide +kernel) (pa_cons (pv 1) (pa_cons (pe_tup (pa_cons (pe_bltn (v := .ty "list") (u := .type "list") (by rfl) m_list (by decide +kernel) rfl) (pa_cons (pe_bltn (v := .ty "tuple") (u := .type "tuple") (by rfl) m_tuple (by decide +kernel) rfl) pa_nil))) pa_nil)))) (pss_cons (ps_if (PW.pt (pw_or (pt_cmpR (og_ne hr.units) (pe_callB cg_isi (by rfl) m_isinstance (by decide +kernel) (pa_cons (pv 0) (pa_cons (pe_bltn (v := .ty "list") (u := .type "list") (by rfl) m_list (by decide +kernel) rfl) pa_nil))) (pe_callB cg_isi (by rfl) m_isinstance (by decide +kernel) (pa_cons (pv 1) (pa_cons (pe_bltn (v := .ty "list") (u := .type "list") (by rfl) m_list (by decide +kernel) rfl) pa_nil))) (nomark _)) (pw_or1 (pt_cmpR (og_ne hr.units) (pe_callB cg_isi (by rfl) m_isinstance (by decide +kernel) (pa_cons (pv 0) (pa_cons (pe_bltn (v := .ty "tuple") (u := .type "tuple") (by rfl) m_tuple (by decide +kernel) rfl) pa_nil))) (pe_callB cg_isi (by rfl) m_isinstance (by decide +kernel) (pa_cons (pv 1) (pa_cons (pe_bltn (v := .ty "tuple") (u := .type "tuple") (by rfl) m_tuple (by decide +kernel) rfl) pa_nil))) (nomark _))))) (pss_one (ps_ret pe_bl)) pss_nil)
    (pss_one (ps_ret (pe_and (pe_cmpR (og_eq hr.units) (pe_callB cg_len (by rfl) m_len (by decide +kernel) (pa_cons (pv 0) pa_nil)) (pe_callB cg_len (by rfl) m_len (by decide +kernel) (pa_cons (pv 1) pa_nil)) (nomark _)) (pe_one (pe_callB (cr_all rfl) (by rfl) m_all (by decide +kernel) (pa_cons (pe_lc (own := [("_law_one_z", 2), ("_law_other_z", 3)]) (g := (gTup K 2 (gCons (gName 2) (gCons (gName 3) gNil)))) (tt := tYes) rfl nd (pi_zipA (by rfl) m_zip (pa_cons (pv 0) (pa_cons (pv 1) pa_nil))) (blkOk_by (N := ["_law_found", "_law_due", "_law_one_z", "_law_other_z"]) (sc := defScope s_like) (by decide +kernel)) (fun _ _ _ _ _ => (pg_tup rfl (pgs_cons (pg_name (i := 2) nd rfl (.inl rfl)) (pgs_cons (pg_name (i := 3) nd rfl (.inl rfl)) pgs_nil)))) (fun _ _ _ _ _ => pts_nil) (fun _ _ _ _ _ => (C8.pe_c C__law_like hr (by first | decide | exact Nat.le_refl _) (by rfl) (pa_cons (pv 2) (pa_cons (pv 3) pa_nil))))) pa_nil))))))) pss_nil)
    (pss_cons (ps_if (PW.pt (pw_or (pt_cmpR op_isN1 (pv 1) pe_non (nomark _)) (pw_or1 (pt_cmpR op_isN1 (pv 0) pe_non (nomark _))))) (pss_one (ps_ret (pe_and (pe_cmpR op_isN1 (pv 1) pe_non (nomark _)) (pe_one (pe_cmpR op_isN1 (pv 0) pe_non (nomark _)))))) pss_nil)
    (pss_cons (ps_if (PW.pt (pw_or (pt_cmpR (og_ne hr.units) (pe_callB cg_isi (by rfl) m_isinstance (by decide +kernel) (pa_cons (pv 0) (pa_cons (pe_bltn (v := .ty "bool") (u := .type "bool") (by rfl) m_bool (by decide +kernel) rfl) pa_nil))) (pe_callB cg_isi (by rfl) m_isinstance (by decide +kernel) (pa_cons (pv 1) (pa_cons (pe_bltn (v := .ty "bool") (u := .type "bool") (by rfl) m_bool (by decide +kernel) rfl) pa_nil))) (nomark _)) (pw_or1 (pt_cmpR (og_ne hr.units) (pe_callB cg_isi (by rfl) m_isinstance (by decide +kernel) (pa_cons (pv 0) (pa_cons (pe_bltn (v := .ty "int") (u := .type "int") (by rfl) m_int (by decide +kernel) rfl) pa_nil))) (pe_callB cg_isi (by rfl) m_isinstance (by decide +kernel) (pa_cons (pv 1) (pa_cons (pe_bltn (v := .ty "int") (u := .type "int") (by rfl) m_int (by decide +kernel) rfl) pa_nil))) (nomark _))))) (pss_one (ps_ret pe_bl)) pss_nil)
    (pss_one (ps_ret (pe_and (pe_cmpR (og_eq hr.units) (pe_callB cg_isi (by rfl) m_isinstance (by decide +kernel) (pa_cons (pv 0) (pa_cons (pe_bltn (v := .ty "str") (u := .type "str") (by rfl) m_str (by decide +kernel) rfl) pa_nil))) (pe_callB cg_isi (by rfl) m_isinstance (by decide +kernel) (pa_cons (pv 1) (pa_cons (pe_bltn (v := .ty "str") (u := .type "str") (by rfl) m_str (by decide +kernel) rfl) pa_nil))) (nomark _)) (pe_one (pe_cmpR (og_eq hr.units) (pv 0) (pv 1) (nomark _))))))))), (sat_like h).2⟩
    exact cal_mk F G g fun _ _ _ _ _ _ us hl => match us, hl with | [_, _], _ => rfl
theorem cal_stretch {f : Addr} {fd : FuncData} (F : Fun K "_law_stretch" "_law_stretch" s_stretch f fd) (g : mg "_law_stretch" = some (.ref f)) (C__law_draw : C8.Cal P w K mg base 1 "_law_draw" (sp_draw K) []) (C__law_of : C8.Cal P w K mg base 2 "_law_of" (sp_of K) []) (m_max : mg "max" = none) (m_min : mg "min" = none) : C8.Cal P w K mg base 3 "_law_stretch" (sp_stretch K) [] := by
  have G : FnOk P w K mg base CX0 3 f fd ["_law_bag", "_law_numbers"] (sp_stretch K) := by
    refine F.ok sc_stretch (fun vs H Q E h => (sat_stretch h).1) (fun cdv A outer s H vs Q E hr h => ?_)
    have nd := sc_stretch.nd
    exact ⟨_, (pss_cons (ps_if (pt_cmpR (og_eq hr.units) (C8.pe_c C__law_draw hr (by decide) (by rfl) (pa_cons (pv 0) (pa_cons pe_int pa_nil))) pe_int (nomark _)) (pss_one (ps_ret pe_non)) pss_nil)
  (pss_cons (ps_par (i := 2) (j := 3) (by rfl) nd rfl rfl (by decide) rfl rfl (pa_cons (C8.pe_c C__law_of hr (by decide) (by rfl) (pa_cons (pv 0) (pa_cons (pe_lst (pa_cons pe_non (pa_cons (C8.pe_c C__law_of hr (by decide) (by rfl) (pa_cons (pv 0) (pa_cons (pv 1) pa_nil))) pa_nil))) pa_nil))) (pa_cons (C8.pe_c C__law_of hr (by decide) (by rfl) (pa_cons (pv 0) (pa_cons (pe_lst (pa_cons pe_non (pa_cons (C8.pe_c C__law_of hr (by decide) (by rfl) (pa_cons (pv 0) (pa_cons (pv 1) pa_nil))) pa_nil))) pa_nil))) pa_nil)) (by rfl))
  (pss_cons (ps_if (PW.pt (pw_or (pt_cmpR op_isN1 (pv 2) pe_non (nomark _)) (pw_or1 (pt_cmpR op_isN1 (pv 3) pe_non (nomark _))))) (pss_one (ps_ret (pe_tup (pa_cons (pv 2) (pa_cons (pv 3) pa_nil))))) pss_nil)
  (pss_one (ps_ret (pe_tup (pa_cons (pe_callB (cg_min2 rfl) (by rfl) m_min (by decide +kernel) (pa_cons (pv 2) (pa_cons (pv 3) pa_nil))) (pa_cons (pe_callB (cg_max2 rfl) (by rfl) m_max (by decide +kernel) (pa_cons (pv 2) (pa_cons (pv 3) pa_nil))) pa_nil)))))))), (sat_stretch h).2⟩
  exact cal_mk F G g fun _ _ _ _ _ _ us hl => match us, hl with | [_, _], _ => rfl
theorem cal_in {f : Addr} {fd : FuncData} (F : Fun K "_law_in" "_law_in" s_in f fd) (g : mg "_law_in" = some (.ref f)) : C8.Cal P w K mg base 1 "_law_in" (sp_in K) [] := by
  have G : FnOk P w K mg base CX0 1 f fd ["_law_stretch_z", "_law_value_z"] (sp_in K) := by
    refine F.ok sc_in (fun vs H Q E h => (sat_in h).1) (fun cdv A outer s H vs Q E hr h => ?_)
    have nd := sc_in.nd
    exact ⟨_, (pss_cons (ps_if (PW.pt (pw_or (pt_cmpR op_isN1 (pv 0) pe_non (nomark _)) (pw_or1 (pt_cmpR op_isN1 (pv 1) pe_non (nomark _))))) (pss_one (ps_ret (pe_and (pe_cmpR op_isN1 (pv 0) pe_non (nomark _)) (pe_one (pe_cmpR op_isN1 (pv 1) pe_non (nomark _)))))) pss_nil)
  (pss_one (ps_ret (pe_and (pe_or (pe_cmpR op_isN1 (pe_ix ix_seq (pv 0) pe_int (fun _ _ => rfl)) pe_non (nomark _)) (pe_one (pe_cmpR og_le (pe_ix ix_seq (pv 0) pe_int (fun _ _ => rfl)) (pv 1) (nomark _)))) (pe_one (pe_or (pe_cmpR op_isN1 (pe_ix ix_seq (pv 0) pe_int (fun _ _ => rfl)) pe_non (nomark _)) (pe_one (pe_cmpR og_le (pv 1) (pe_ix ix_seq (pv 0) pe_int (fun _ _ => rfl)) (nomark _))))))))), (sat_in h).2⟩
  exact cal_mk F G g fun _ _ _ _ _ _ us hl => match us, hl with | [_, _], _ => rfl
theorem ok_law {f : Addr} {fd : FuncData} (F : Fun K "law" "law" s_law f fd) (C__law_open : C8.Cal P w K mg base 1 "_law_open" (sp_open K) []) (C__law_of : C8.Cal P w K mg base 2 "_law_of" (sp_of K) []) (C__law_draw : C8.Cal P w K mg base 1 "_law_draw" (sp_draw K) []) (C__law_stretch : C8.Cal P w K mg base 3 "_law_stretch" (sp_stretch K) []) (C__law_like : C8.Cal P w K mg base 9 "_law_like" (sp_like K 9) []) (C_is_stretch : C8.Cal P w K mg base 3 "is_stretch" (sp_is_stretch K) []) (C__law_in : C8.Cal P w K mg base 1 "_law_in" (sp_in K) []) (C_in_stretch : C8.Cal P w K mg base 1 "in_stretch" (sp_in_stretch K) []) (C_common : C8.Cal P w K mg base 1 "common" (sp_common K) []) (C_is_stretch_value : CalK P w K mg base 3 "is_stretch" (sp_is_stretch K) ["value"] [0]) (C_common_one_other : CalK P w K mg base 1 "common" (sp_common K) ["one", "other"] [0, 1]) (C_in_stretch_value_stretch : CalK P w K mg base 1 "in_stretch" (sp_in_stretch K) ["value", "stretch"] [1, 0]) (m_range : mg "range" = none) (m_list : mg "list" = none) (m_int : mg "int" = none) (m_len : mg "len" = none) : FnOk P w K mg base CX0 10 f fd ["_law_script"] (sp_law K) := by
  have G : FnOk P w K mg base CX0 10 f fd ["_law_script"] (sp_law K) := by
    refine F.ok sc_law (fun vs H Q E h => (sat_law h).1) (fun cdv A outer s H vs Q E hr h => ?_)
    have nd := sc_law.nd
    exact ⟨_, (pss_cons (ps_set (i := 1) nd rfl (.inr rfl) (C8.pe_c C__law_open hr (by decide) (by rfl) (pa_cons (pv 0) pa_nil)))
  (pss_cons (ps_for PassesOwn.never rfl (pi_range1 (by rfl) m_range (pa_cons pe_int pa_nil)) (pg_name (i := 2) nd rfl (.inl rfl)) (pss_cons (ps_set (i := 3) nd rfl (.inr rfl) (C8.pe_c C__law_of hr (by decide) (by rfl) (pa_cons (pv 1) (pa_cons (pe_lst (pa_cons pe_int (pa_cons (pe_un un_neg pe_int) (pa_cons (pe_op og_pow pe_int pe_int) (pa_cons (pe_op og_sub pe_int (pe_op og_pow pe_int pe_int)) pa_nil))))) pa_nil))))
  (pss_cons (ps_setLc (i := 4) (own := [("_law_k", 14)]) (g := (gName 14)) (tt := tYes) rfl nd rfl rfl (sw_true rfl rfl rfl (by decide +kernel)) (pi_range1 (by rfl) m_range (pa_cons pe_int pa_nil)) (blkOk_by (N := ["_law_script", "_law_bag", "_law_turn", "_law_low", "_law_numbers", "_law_one_z", "_law_other_z", "_law_values", "_law_both", "_law_told", "_law_a", "_law_b", "_law_found", "_law_odd", "_law_k", "_law_value_z"]) (sc := defScope s_law) (by decide +kernel)) (fun _ _ _ _ _ => (pg_name (i := 14) nd rfl (.inl rfl))) (fun _ _ _ _ _ => pts_nil) (fun _ _ _ _ _ => (pe_op og_add (pv 3) (C8.pe_c C__law_draw hr (by decide) (by rfl) (pa_cons (pv 1) (pa_cons pe_int pa_nil))))))
  (pss_cons (ps_asg (pe_tup (pa_cons (C8.pe_c C__law_stretch hr (by decide) (by rfl) (pa_cons (pv 1) (pa_cons (pv 4) pa_nil))) (pa_cons (C8.pe_c C__law_stretch hr (by decide) (by rfl) (pa_cons (pv 1) (pa_cons (pv 4) pa_nil))) pa_nil))) (pg_tup rfl (pgs_cons (pg_name (i := 5) nd rfl (.inr rfl)) (pgs_cons (pg_name (i := 6) nd rfl (.inr rfl)) pgs_nil))))
  (pss_cons (ps_set (i := 7) nd rfl (.inl rfl) (pe_op og_add (pe_lst (pa_cons pe_non pa_nil)) (pe_listRg rfl (by rfl) m_list (prg_2 (by rfl) m_range (pe_op og_sub (pv 3) pe_int) (pe_op og_add (pv 3) pe_int)))))
  (pss_cons (ps_if (pt_not (pt_val (C8.pe_c C__law_like hr (by decide) (by rfl) (pa_cons (pe_lst (pa_cons (C8.pe_c C_is_stretch hr (by decide) (by rfl) (pa_cons (pv 5) pa_nil)) (pa_cons (pe_cK C_is_stretch_value hr (by decide) (by rfl) (pk_cons (pv 6) pk_nil)) pa_nil))) (pa_cons (pe_lst (pa_cons pe_bl (pa_cons pe_bl pa_nil))) pa_nil))))) (pss_one (ps_ret pe_bl)) pss_nil)
  (pss_cons (ps_if (pt_not (pt_val (C8.pe_c C__law_like hr (by decide) (by rfl) (pa_cons (pe_lc (own := [("_law_value_z", 15)]) (g := (gName 15)) (tt := tYes) rfl nd (pi_list (pv 7)) (blkOk_by (N := ["_law_script", "_law_bag", "_law_turn", "_law_low", "_law_numbers", "_law_one_z", "_law_other_z", "_law_values", "_law_both", "_law_told", "_law_a", "_law_b", "_law_found", "_law_odd", "_law_k", "_law_value_z"]) (sc := defScope s_law) (by decide +kernel)) (fun _ _ _ _ _ => (pg_name (i := 15) nd rfl (.inl rfl))) (fun _ _ _ _ _ => pts_nil) (fun _ _ _ _ _ => (C8.pe_c C_in_stretch hr (by decide) (by rfl) (pa_cons (pv 5) (pa_cons (pv 15) pa_nil))))) (pa_cons (pe_lc (own := [("_law_value_z", 15)]) (g := (gName 15)) (tt := tYes) rfl nd (pi_list (pv 7)) (blkOk_by (N := ["_law_script", "_law_bag", "_law_turn", "_law_low", "_law_numbers", "_law_one_z", "_law_other_z", "_law_values", "_law_both", "_law_told", "_law_a", "_law_b", "_law_found", "_law_odd", "_law_k", "_law_value_z"]) (sc := defScope s_law) (by decide +kernel)) (fun _ _ _ _ _ => (pg_name (i := 15) nd rfl (.inl rfl))) (fun _ _ _ _ _ => pts_nil) (fun _ _ _ _ _ => (C8.pe_c C__law_in hr (by decide) (by rfl) (pa_cons (pv 5) (pa_cons (pv 15) pa_nil))))) pa_nil))))) (pss_one (ps_ret pe_bl)) pss_nil)
  (pss_cons (ps_setLc (i := 8) (own := [("_law_value_z", 15)]) (g := (gName 15)) (tt := (tAnd (tB (tCall (sp_in K) [] E0 (tCons (tVar 5) (tCons (tVar 15) tNil)))) (tB (tCall (sp_in K) [] E0 (tCons (tVar 6) (tCons (tVar 15) tNil)))))) rfl nd rfl rfl (sw_true rfl rfl rfl (by decide +kernel)) (pi_list (pv 7)) (blkOk_by (N := ["_law_script", "_law_bag", "_law_turn", "_law_low", "_law_numbers", "_law_one_z", "_law_other_z", "_law_values", "_law_both", "_law_told", "_law_a", "_law_b", "_law_found", "_law_odd", "_law_k", "_law_value_z"]) (sc := defScope s_law) (by decide +kernel)) (fun _ _ _ _ _ => (pg_name (i := 15) nd rfl (.inl rfl))) (fun _ _ _ _ _ => (pts_one (PW.pt (pw_and (pt_val (C8.pe_c C__law_in hr (by decide) (by rfl) (pa_cons (pv 5) (pa_cons (pv 15) pa_nil)))) (pw_and1 (pt_val (C8.pe_c C__law_in hr (by decide) (by rfl) (pa_cons (pv 6) (pa_cons (pv 15) pa_nil))))))))) (fun _ _ _ _ _ => (pv 15)))
  (pss_cons (ps_set (i := 9) nd rfl (.inr rfl) (C8.pe_c C_common hr (by decide) (by rfl) (pa_cons (pv 5) (pa_cons (pv 6) pa_nil))))
  (pss_cons (ps_if (PW.pt (pw_or (pt_not (pt_val (C8.pe_c C__law_like hr (by decide) (by rfl) (pa_cons (pe_callB cg_len (by rfl) m_len (by decide +kernel) (pa_cons (pv 9) pa_nil)) (pa_cons (pe_callTy cg_int (by rfl) m_int (by decide +kernel) (pa_cons (pe_cmpR (og_ne hr.units) (pv 8) (pe_lst pa_nil) (nomark _)) pa_nil)) pa_nil))))) (pw_or1 (pt_not (pt_val (C8.pe_c C__law_like hr (by decide) (by rfl) (pa_cons (pe_cK C_common_one_other hr (by decide) (by rfl) (pk_cons (pv 6) (pk_cons (pv 5) pk_nil))) (pa_cons (pv 9) pa_nil)))))))) (pss_one (ps_ret pe_bl)) pss_nil)
  (pss_cons (ps_if (PW.pt (pw_and (pt_cmpR (og_ne hr.units) (pv 9) (pe_lst pa_nil) (nomark _)) (pw_and1 (PW.pt (pw_or (pt_not (pt_val (C8.pe_c C_is_stretch hr (by decide) (by rfl) (pa_cons (pe_ix ix_seq (pv 9) pe_int (fun _ _ => rfl)) pa_nil)))) (pw_or1 (pt_cmpR (og_ne hr.units) (pe_lc (own := [("_law_value_z", 15)]) (g := (gName 15)) (tt := (tB (tCall (sp_in K) [] E0 (tCons (tOp (rIx K) (tVar 9) (tC (.int 0))) (tCons (tVar 15) tNil))))) rfl nd (pi_list (pv 7)) (blkOk_by (N := ["_law_script", "_law_bag", "_law_turn", "_law_low", "_law_numbers", "_law_one_z", "_law_other_z", "_law_values", "_law_both", "_law_told", "_law_a", "_law_b", "_law_found", "_law_odd", "_law_k", "_law_value_z"]) (sc := defScope s_law) (by decide +kernel)) (fun _ _ _ _ _ => (pg_name (i := 15) nd rfl (.inl rfl))) (fun _ _ _ _ _ => (pts_one (pt_val (C8.pe_c C__law_in hr (by decide) (by rfl) (pa_cons (pe_ix ix_seq (pv 9) pe_int (fun _ _ => rfl)) (pa_cons (pv 15) pa_nil)))))) (fun _ _ _ _ _ => (pv 15))) (pv 8) (nomark _)))))))) (pss_one (ps_ret pe_bl)) pss_nil)
  (pss_cons (ps_expr (pe_bm PySem.F.plainAttrs_list PySem.F.slot_list_append PySem.F.type_list_append mt_append (pv 9) (pa_cons pe_str pa_nil)))
  (pss_cons (ps_if (pt_cmpR (og_ne hr.units) (pe_callB cg_len (by rfl) m_len (by decide +kernel) (pa_cons (C8.pe_c C_common hr (by decide) (by rfl) (pa_cons (pv 5) (pa_cons (pv 6) pa_nil))) pa_nil)) (pe_callTy cg_int (by rfl) m_int (by decide +kernel) (pa_cons (pe_cmpR (og_ne hr.units) (pv 8) (pe_lst pa_nil) (nomark _)) pa_nil)) (nomark _)) (pss_one (ps_ret pe_bl)) pss_nil)
  (pss_cons (ps_par (i := 10) (j := 11) (by rfl) nd rfl rfl (by decide) rfl rfl (pa_cons (pe_ix ix_seq (pv 4) pe_int (fun _ _ => rfl)) (pa_cons (pe_ix ix_seq (pv 4) pe_int (fun _ _ => rfl)) pa_nil)) (by rfl))
  (pss_cons (ps_set (i := 12) nd rfl (.inl rfl) (pe_lst (pa_cons (C8.pe_c C_is_stretch hr (by decide) (by rfl) (pa_cons (pe_tup (pa_cons (pv 10) (pa_cons (pv 11) pa_nil))) pa_nil)) (pa_cons (C8.pe_c C_is_stretch hr (by decide) (by rfl) (pa_cons (pe_tup (pa_cons (pv 11) (pa_cons (pv 10) pa_nil))) pa_nil)) (pa_cons (C8.pe_c C_is_stretch hr (by decide) (by rfl) (pa_cons (pe_tup (pa_cons (pv 10) (pa_cons (pv 10) pa_nil))) pa_nil)) (pa_cons (C8.pe_c C_is_stretch hr (by decide) (by rfl) (pa_cons (pe_tup (pa_cons (pv 10) (pa_cons (pe_op og_sub (pv 10) pe_int) pa_nil))) pa_nil)) (pa_cons (pe_cK C_in_stretch_value_stretch hr (by decide) (by rfl) (pk_cons (pv 10) (pk_cons (pe_tup (pa_cons (pv 10) (pa_cons (pv 10) pa_nil))) pk_nil))) pa_nil)))))))
  (pss_one (ps_if (pt_not (pt_val (C8.pe_c C__law_like hr (by decide) (by rfl) (pa_cons (pv 12) (pa_cons (pe_lst (pa_cons (pe_cmpR og_le (pv 10) (pv 11) (nomark _)) (pa_cons (pe_cmpR og_le (pv 11) (pv 10) (nomark _)) (pa_cons pe_bl (pa_cons pe_bl (pa_cons pe_bl pa_nil)))))) pa_nil))))) (pss_one (ps_ret pe_bl)) pss_nil)))))))))))))))))
  (pss_cons (ps_set (i := 13) nd rfl (.inl rfl) (C8.pe_c C__law_of hr (by decide) (by rfl) (pa_cons (pv 1) (pa_cons (pe_lst (pa_cons pe_int (pa_cons pe_bl (pa_cons pe_str (pa_cons pe_str (pa_cons pe_str (pa_cons (pe_tup (pa_cons pe_int pa_nil)) (pa_cons (pe_tup (pa_cons pe_int (pa_cons pe_int (pa_cons pe_int pa_nil)))) (pa_cons (pe_lst (pa_cons pe_int (pa_cons pe_int pa_nil))) (pa_cons (pe_lst (pa_cons pe_non (pa_cons pe_non pa_nil))) (pa_cons (pe_tup (pa_cons pe_non (pa_cons pe_bl pa_nil))) (pa_cons (pe_tup (pa_cons pe_bl (pa_cons pe_int pa_nil))) (pa_cons (pe_tup (pa_cons pe_str (pa_cons pe_int pa_nil))) (pa_cons (pe_tup pa_nil) (pa_cons (pe_tup (pa_cons (pe_tup (pa_cons pe_int (pa_cons pe_int pa_nil))) pa_nil)) pa_nil))))))))))))))) pa_nil))))
  (pss_one (ps_ret (C8.pe_c C__law_like hr (by decide) (by rfl) (pa_cons (pe_lst (pa_cons (C8.pe_c C_is_stretch hr (by decide) (by rfl) (pa_cons (pv 13) pa_nil)) (pa_cons (C8.pe_c C_is_stretch hr (by decide) (by rfl) (pa_cons pe_non pa_nil)) (pa_cons (C8.pe_c C_is_stretch hr (by decide) (by rfl) (pa_cons (pe_tup (pa_cons pe_non (pa_cons pe_non pa_nil))) pa_nil)) (pa_cons (C8.pe_c C_common hr (by decide) (by rfl) (pa_cons (pe_tup (pa_cons pe_non (pa_cons pe_int pa_nil))) (pa_cons (pe_tup (pa_cons pe_int (pa_cons pe_non pa_nil))) pa_nil))) (pa_cons (C8.pe_c C_common hr (by decide) (by rfl) (pa_cons pe_non (pa_cons pe_non pa_nil))) pa_nil)))))) (pa_cons (pe_lst (pa_cons pe_bl (pa_cons pe_bl (pa_cons pe_bl (pa_cons (pe_lst pa_nil) (pa_cons (pe_lst (pa_cons pe_non pa_nil)) pa_nil)))))) pa_nil)))))))), (sat_law h).2⟩
  exact G
end
/-! ### the end -/
theorem all_mk {l : PySem.W.OpenLaw} {w : World} {K : PySem.W.Frag} {h : Heap} {mg : Str → Option Value} {fa : Addr} (X : K.In h) (G : h.Ns mainGlobals mg) (hfa : mg "law" = some (.ref fa))
    {f0 : Addr} {od0 an0 : Option Addr} {sl0 : Array (Option Value)} {oc0 kV0 dc0 pm0 cd0 ct0 : Value}
    {f1 : Addr} {od1 an1 : Option Addr} {sl1 : Array (Option Value)} {oc1 kV1 dc1 pm1 cd1 ct1 : Value}
    {f2 : Addr} {od2 an2 : Option Addr} {sl2 : Array (Option Value)} {oc2 kV2 dc2 pm2 cd2 ct2 : Value}
    {f3 : Addr} {od3 an3 : Option Addr} {sl3 : Array (Option Value)} {oc3 kV3 dc3 pm3 cd3 ct3 : Value}
    {f4 : Addr} {od4 an4 : Option Addr} {sl4 : Array (Option Value)} {oc4 kV4 dc4 pm4 cd4 ct4 : Value}
    {f5 : Addr} {od5 an5 : Option Addr} {sl5 : Array (Option Value)} {oc5 kV5 dc5 pm5 cd5 ct5 : Value}
    {f6 : Addr} {od6 an6 : Option Addr} {sl6 : Array (Option Value)} {oc6 kV6 dc6 pm6 cd6 ct6 : Value}
    {f7 : Addr} {od7 an7 : Option Addr} {sl7 : Array (Option Value)} {oc7 kV7 dc7 pm7 cd7 ct7 : Value}
    {f8 : Addr} {od8 an8 : Option Addr} {sl8 : Array (Option Value)} {oc8 kV8 dc8 pm8 cd8 ct8 : Value}
    {f9 : Addr} {od9 an9 : Option Addr} {sl9 : Array (Option Value)} {oc9 kV9 dc9 pm9 cd9 ct9 : Value}
    {f10 : Addr} {od10 an10 : Option Addr} {sl10 : Array (Option Value)} {oc10 kV10 dc10 pm10 cd10 ct10 : Value}
    {f11 : Addr} {od11 an11 : Option Addr} {sl11 : Array (Option Value)} {oc11 kV11 dc11 pm11 cd11 ct11 : Value}
    (a0 : PySem.W.nsIn K mainGlobals "is_number" = some (some (.ref f0))) (l0 : K.lookup f0 = some ⟨oc0, od0, .func (PySem.W.fnOf "is_number" "is_number" (defArgs s_is_number) (defBody s_is_number) (defScope s_is_number) .none kV0 dc0 pm0 an0 cd0 ct0), sl0⟩) (c0 : PySem.W.codeIn K cd0 "is_number" = true) (k0 : PySem.W.keepIn K (.ref f0) = true)
    (a1 : PySem.W.nsIn K mainGlobals "is_value" = some (some (.ref f1))) (l1 : K.lookup f1 = some ⟨oc1, od1, .func (PySem.W.fnOf "is_value" "is_value" (defArgs s_is_value) (defBody s_is_value) (defScope s_is_value) .none kV1 dc1 pm1 an1 cd1 ct1), sl1⟩) (c1 : PySem.W.codeIn K cd1 "is_value" = true) (k1 : PySem.W.keepIn K (.ref f1) = true)
    (a2 : PySem.W.nsIn K mainGlobals "is_stretch" = some (some (.ref f2))) (l2 : K.lookup f2 = some ⟨oc2, od2, .func (PySem.W.fnOf "is_stretch" "is_stretch" (defArgs s_is_stretch) (defBody s_is_stretch) (defScope s_is_stretch) .none kV2 dc2 pm2 an2 cd2 ct2), sl2⟩) (c2 : PySem.W.codeIn K cd2 "is_stretch" = true) (k2 : PySem.W.keepIn K (.ref f2) = true)
    (a3 : PySem.W.nsIn K mainGlobals "in_stretch" = some (some (.ref f3))) (l3 : K.lookup f3 = some ⟨oc3, od3, .func (PySem.W.fnOf "in_stretch" "in_stretch" (defArgs s_in_stretch) (defBody s_in_stretch) (defScope s_in_stretch) .none kV3 dc3 pm3 an3 cd3 ct3), sl3⟩) (c3 : PySem.W.codeIn K cd3 "in_stretch" = true) (k3 : PySem.W.keepIn K (.ref f3) = true)
    (a4 : PySem.W.nsIn K mainGlobals "common" = some (some (.ref f4))) (l4 : K.lookup f4 = some ⟨oc4, od4, .func (PySem.W.fnOf "common" "common" (defArgs s_common) (defBody s_common) (defScope s_common) .none kV4 dc4 pm4 an4 cd4 ct4), sl4⟩) (c4 : PySem.W.codeIn K cd4 "common" = true) (k4 : PySem.W.keepIn K (.ref f4) = true)
    (a5 : PySem.W.nsIn K mainGlobals "_law_open" = some (some (.ref f5))) (l5 : K.lookup f5 = some ⟨oc5, od5, .func (PySem.W.fnOf "_law_open" "_law_open" (defArgs s_open) (defBody s_open) (defScope s_open) .none kV5 dc5 pm5 an5 cd5 ct5), sl5⟩) (c5 : PySem.W.codeIn K cd5 "_law_open" = true) (k5 : PySem.W.keepIn K (.ref f5) = true)
    (a6 : PySem.W.nsIn K mainGlobals "_law_draw" = some (some (.ref f6))) (l6 : K.lookup f6 = some ⟨oc6, od6, .func (PySem.W.fnOf "_law_draw" "_law_draw" (defArgs s_draw) (defBody s_draw) (defScope s_draw) .none kV6 dc6 pm6 an6 cd6 ct6), sl6⟩) (c6 : PySem.W.codeIn K cd6 "_law_draw" = true) (k6 : PySem.W.keepIn K (.ref f6) = true)
    (a7 : PySem.W.nsIn K mainGlobals "_law_of" = some (some (.ref f7))) (l7 : K.lookup f7 = some ⟨oc7, od7, .func (PySem.W.fnOf "_law_of" "_law_of" (defArgs s_of) (defBody s_of) (defScope s_of) .none kV7 dc7 pm7 an7 cd7 ct7), sl7⟩) (c7 : PySem.W.codeIn K cd7 "_law_of" = true) (k7 : PySem.W.keepIn K (.ref f7) = true)
    (a8 : PySem.W.nsIn K mainGlobals "_law_like" = some (some (.ref f8))) (l8 : K.lookup f8 = some ⟨oc8, od8, .func (PySem.W.fnOf "_law_like" "_law_like" (defArgs s_like) (defBody s_like) (defScope s_like) .none kV8 dc8 pm8 an8 cd8 ct8), sl8⟩) (c8 : PySem.W.codeIn K cd8 "_law_like" = true) (k8 : PySem.W.keepIn K (.ref f8) = true)
    (a9 : PySem.W.nsIn K mainGlobals "_law_stretch" = some (some (.ref f9))) (l9 : K.lookup f9 = some ⟨oc9, od9, .func (PySem.W.fnOf "_law_stretch" "_law_stretch" (defArgs s_stretch) (defBody s_stretch) (defScope s_stretch) .none kV9 dc9 pm9 an9 cd9 ct9), sl9⟩) (c9 : PySem.W.codeIn K cd9 "_law_stretch" = true) (k9 : PySem.W.keepIn K (.ref f9) = true)
    (a10 : PySem.W.nsIn K mainGlobals "_law_in" = some (some (.ref f10))) (l10 : K.lookup f10 = some ⟨oc10, od10, .func (PySem.W.fnOf "_law_in" "_law_in" (defArgs s_in) (defBody s_in) (defScope s_in) .none kV10 dc10 pm10 an10 cd10 ct10), sl10⟩) (c10 : PySem.W.codeIn K cd10 "_law_in" = true) (k10 : PySem.W.keepIn K (.ref f10) = true)
    (a11 : PySem.W.nsIn K mainGlobals "law" = some (some (.ref f11))) (l11 : K.lookup f11 = some ⟨oc11, od11, .func (PySem.W.fnOf "law" "law" (defArgs s_law) (defBody s_law) (defScope s_law) .none kV11 dc11 pm11 an11 cd11 ct11), sl11⟩) (c11 : PySem.W.codeIn K cd11 "law" = true) (k11 : PySem.W.keepIn K (.ref f11) = true)
    (z_all : PySem.W.nsIn K mainGlobals "all" = some none)
    (z_bool : PySem.W.nsIn K mainGlobals "bool" = some none)
    (z_int : PySem.W.nsIn K mainGlobals "int" = some none)
    (z_isinstance : PySem.W.nsIn K mainGlobals "isinstance" = some none)
    (z_len : PySem.W.nsIn K mainGlobals "len" = some none)
    (z_list : PySem.W.nsIn K mainGlobals "list" = some none)
    (z_max : PySem.W.nsIn K mainGlobals "max" = some none)
    (z_min : PySem.W.nsIn K mainGlobals "min" = some none)
    (z_range : PySem.W.nsIn K mainGlobals "range" = some none)
    (z_str : PySem.W.nsIn K mainGlobals "str" = some none)
    (z_tuple : PySem.W.nsIn K mainGlobals "tuple" = some none)
    (z_zip : PySem.W.nsIn K mainGlobals "zip" = some none) :
    ∃ fd : FuncData, (∀ (s : Shared) (v : Value), BindsTo s fd ⟨[v], []⟩ [("_law_script", v)]) ∧ ∀ base : Heap, K.In base → base.Ns mainGlobals mg → FnOk l.prog w K mg base CX0 10 fa fd ["_law_script"] (sp_law K) := by
  have F0 := fun_mk (st := s_is_number) l0 c0 k0
  have g0 := PySem.W.mg_of X G a0
  have F1 := fun_mk (st := s_is_value) l1 c1 k1
  have g1 := PySem.W.mg_of X G a1
  have F2 := fun_mk (st := s_is_stretch) l2 c2 k2
  have g2 := PySem.W.mg_of X G a2
  have F3 := fun_mk (st := s_in_stretch) l3 c3 k3
  have g3 := PySem.W.mg_of X G a3
  have F4 := fun_mk (st := s_common) l4 c4 k4
  have g4 := PySem.W.mg_of X G a4
  have F5 := fun_mk (st := s_open) l5 c5 k5
  have g5 := PySem.W.mg_of X G a5
  have F6 := fun_mk (st := s_draw) l6 c6 k6
  have g6 := PySem.W.mg_of X G a6
  have F7 := fun_mk (st := s_of) l7 c7 k7
  have g7 := PySem.W.mg_of X G a7
  have F8 := fun_mk (st := s_like) l8 c8 k8
  have g8 := PySem.W.mg_of X G a8
  have F9 := fun_mk (st := s_stretch) l9 c9 k9
  have g9 := PySem.W.mg_of X G a9
  have F10 := fun_mk (st := s_in) l10 c10 k10
  have g10 := PySem.W.mg_of X G a10
  have F11 := fun_mk (st := s_law) l11 c11 k11
  have g11 := PySem.W.mg_of X G a11
  have m_all := PySem.W.mg_none_of X G z_all
  have m_bool := PySem.W.mg_none_of X G z_bool
  have m_int := PySem.W.mg_none_of X G z_int
  have m_isinstance := PySem.W.mg_none_of X G z_isinstance
  have m_len := PySem.W.mg_none_of X G z_len
  have m_list := PySem.W.mg_none_of X G z_list
  have m_max := PySem.W.mg_none_of X G z_max
  have m_min := PySem.W.mg_none_of X G z_min
  have m_range := PySem.W.mg_none_of X G z_range
  have m_str := PySem.W.mg_none_of X G z_str
  have m_tuple := PySem.W.mg_none_of X G z_tuple
  have m_zip := PySem.W.mg_none_of X G z_zip
  have e := hfa.symm.trans g11
  cases e
  refine ⟨PySem.W.fnOf "law" "law" (defArgs s_law) (defBody s_law) (defScope s_law) .none kV11 dc11 pm11 an11 cd11 ct11, fun s v => .of_eq rfl, fun base _ _ => ?_⟩
  have C_is_number := cal_is_number (P := l.prog) (w := w) (base := base) F0 g0 m_isinstance m_int m_bool
  have C_is_value := cal_is_value (P := l.prog) (w := w) (base := base) F1 g1 C_is_number
  have C_is_stretch := cal_is_stretch (P := l.prog) (w := w) (base := base) F2 g2 C_is_value m_isinstance m_tuple m_len m_bool
  have C_is_stretch_value := calK_is_stretch_value (P := l.prog) (w := w) (base := base) F2 g2 C_is_value m_isinstance m_tuple m_len m_bool
  have C_in_stretch := cal_in_stretch (P := l.prog) (w := w) (base := base) F3 g3 m_bool
  have C_in_stretch_value_stretch := calK_in_stretch_value_stretch (P := l.prog) (w := w) (base := base) F3 g3 m_bool
  have C_common := cal_common (P := l.prog) (w := w) (base := base) F4 g4 m_min m_max
  have C_common_one_other := calK_common_one_other (P := l.prog) (w := w) (base := base) F4 g4 m_min m_max
  have C__law_open := cal_open (P := l.prog) (w := w) (base := base) F5 g5 m_list
  have C__law_draw := cal_draw (P := l.prog) (w := w) (base := base) F6 g6 m_len m_int
  have C__law_of := cal_of (P := l.prog) (w := w) (base := base) F7 g7 C__law_draw m_len
  have C__law_like := cal_like (P := l.prog) (w := w) (base := base) F8 g8 m_isinstance m_tuple m_list m_len m_all m_zip m_bool m_int m_str 9
  have C__law_stretch := cal_stretch (P := l.prog) (w := w) (base := base) F9 g9 C__law_draw C__law_of m_max m_min
  have C__law_in := cal_in (P := l.prog) (w := w) (base := base) F10 g10 
  exact ok_law F11 C__law_open C__law_of C__law_draw C__law_stretch C__law_like C_is_stretch C__law_in C_in_stretch C_common C_is_stretch_value C_common_one_other C_in_stretch_value_stretch m_range m_list m_int m_len
end K04
open PySem PySem.W PyProof.Rows
set_option maxRecDepth 100000 in
set_option maxHeartbeats 0 in
theorem PySem.Challenge.cw_eachentry_k04_stretches_judged_holds : PySem.Challenge.rw_eachentry_k04_stretches_judged.Holds := by
  w_on; o_law; k_head; (case hw => w_witness2)
  k_fill
  refine L2.walk_of (l := PySem.Challenge.rw_eachentry_k04_stretches_judged) (n := 63) (k := 10) (x := "_law_script") (CX := fun _ => L2.CX0) (sp := fun w => EE.sp_law _) rfl (by decide) rfl ⟨rfl, by decide, by decide⟩ (fun w h Y => PySem.W.kIn_of Y) ?F (fun _ _ a ns hl _ hS => ⟨a, ns, rfl, hS, fun _ => rfl⟩) (fun _ _ _ _ _ h => h)
  case F =>
    intro w mg fa h KX G hmg
    refine' K04.all_mk KX G hmg ?a0 ?l0 ?c0 ?k0 ?a1 ?l1 ?c1 ?k1 ?a2 ?l2 ?c2 ?k2 ?a3 ?l3 ?c3 ?k3 ?a4 ?l4 ?c4 ?k4 ?a5 ?l5 ?c5 ?k5 ?a6 ?l6 ?c6 ?k6 ?a7 ?l7 ?c7 ?k7 ?a8 ?l8 ?c8 ?k8 ?a9 ?l9 ?c9 ?k9 ?a10 ?l10 ?c10 ?k10 ?a11 ?l11 ?c11 ?k11 ?z_all ?z_bool ?z_int ?z_isinstance ?z_len ?z_list ?z_max ?z_min ?z_range ?z_str ?z_tuple ?z_zip
    (case a0 => k_is); (case l0 => k_is); (case c0 => k_is); (case k0 => k_is); (case a1 => k_is); (case l1 => k_is); (case c1 => k_is); (case k1 => k_is); (case a2 => k_is); (case l2 => k_is); (case c2 => k_is); (case k2 => k_is); (case a3 => k_is); (case l3 => k_is); (case c3 => k_is); (case k3 => k_is); (case a4 => k_is); (case l4 => k_is); (case c4 => k_is); (case k4 => k_is); (case a5 => k_is); (case l5 => k_is); (case c5 => k_is); (case k5 => k_is); (case a6 => k_is); (case l6 => k_is); (case c6 => k_is); (case k6 => k_is); (case a7 => k_is); (case l7 => k_is); (case c7 => k_is); (case k7 => k_is); (case a8 => k_is); (case l8 => k_is); (case c8 => k_is); (case k8 => k_is); (case a9 => k_is); (case l9 => k_is); (case c9 => k_is); (case k9 => k_is); (case a10 => k_is); (case l10 => k_is); (case c10 => k_is); (case k10 => k_is); (case a11 => k_is); (case l11 => k_is); (case c11 => k_is); (case k11 => k_is); (case z_all => k_is); (case z_bool => k_is); (case z_int => k_is); (case z_isinstance => k_is); (case z_len => k_is); (case z_list => k_is); (case z_max => k_is); (case z_min => k_is); (case z_range => k_is); (case z_str => k_is); (case z_tuple => k_is); (case z_zip => k_is)
