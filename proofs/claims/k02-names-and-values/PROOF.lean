import PyProof.Rows.All
import Wide.All
import OpenK.AllK
import Wide.FinOn
import HandS.ForMost
import HandS.Walk
import HandS.Steps
import HandS.Evl
import HandS.Zip
import HandS.IsInst
import HandS.Wide
import HandS.TupAny
import HandS.SortInts
import KE.LtData
import KE.DataEq
import HandS.Codes
import KE.DataMinMax
import HandS.Text
import HandS.Style
import HandS.TryOnly
import PySem.Challenge.RW_eachentry_k02_names_and_values
set_option Elab.async false
set_option linter.all false
set_option maxRecDepth 100000
set_option maxHeartbeats 3000000
/-! The unchanging heap G under the heap H, with a list L of the objects that may change. -/
namespace EE
open PySem PySem.Spec PyProof.Rows L2 Evl RZ

/-- G: what stays; L: what may change; both stand in H -/
structure Stt (G H : Hp) (L : List (Addr × HO)) : Prop where
  ex : Ex G H
  has : ∀ p, p ∈ L → H p.1 = some p.2
  out : ∀ p, p ∈ L → G p.1 = none
  nd : (L.map (·.1)).Nodup

theorem Ex.upd2 {G H : Hp} {p : Addr} {o : HO} (e : Ex G H) : Ex (upd G p o) (upd H p o) := fun a u h => by
  unfold upd at h ⊢
  by_cases c : a = p
  · rw [if_pos c] at h ⊢; exact h
  · rw [if_neg c] at h ⊢; exact e a u h
section
variable {G H : Hp} {L : List (Addr × HO)} {p b : Addr} {o o' : HO}
theorem Stt.free (S : Stt G H L) (h : H p = none) : G p = none := fresh_back S.ex h
theorem Stt.ne (S : Stt G H L) (h : H p = none) : ∀ q, q ∈ L → q.1 ≠ p := fun q hq z => by
  have := S.has q hq
  rw [z, h] at this
  cases this
theorem Stt.new (S : Stt G H L) (h : H p = none) : Stt (upd G p o) (upd H p o) L :=
  ⟨Ex.upd2 S.ex, fun q hq => by rw [upd_ne (S.ne h q hq)]; exact S.has q hq, fun q hq => by rw [upd_ne (S.ne h q hq)]; exact S.out q hq, S.nd⟩
theorem Stt.newE (S : Stt G H L) (h : H p = none) : Ex G (upd G p o) := Ex.new (S.free h)
theorem Stt.mkL (S : Stt G H L) (h : H p = none) : Stt G (upd H p o) ((p, o) :: L) := by
  refine ⟨S.ex.trans (Ex.new h), fun q hq => ?_, fun q hq => ?_, ?_⟩
  · cases hq with
    | head => exact upd_same
    | tail _ hq => rw [upd_ne (S.ne h q hq)]; exact S.has q hq
  · cases hq with
    | head => exact S.free h
    | tail _ hq => exact S.out q hq
  · rw [List.map_cons, List.nodup_cons]
    refine ⟨fun hm => ?_, S.nd⟩
    obtain ⟨q, hq, e⟩ := List.mem_map.mp hm
    exact S.ne h q hq e
theorem Stt.at (S : Stt G H L) (i : Nat) (h : L[i]? = some (b, o)) : H b = some o := S.has (b, o) (List.mem_of_getElem? h)
theorem Stt.drop (S : Stt G H ((p, o) :: L)) : Stt G H L :=
  ⟨S.ex, fun q hq => S.has q (List.mem_cons_of_mem _ hq), fun q hq => S.out q (List.mem_cons_of_mem _ hq), (List.nodup_cons.mp S.nd).2⟩
/-- what changed no longer will -/
theorem Stt.frz (S : Stt G H ((p, o) :: L)) : Stt (upd G p o) H L := by
  have hp : H p = some o := S.has (p, o) (List.mem_cons_self ..)
  refine ⟨fun a u h => ?_, S.drop.has, fun q hq => ?_, S.drop.nd⟩
  · unfold upd at h
    by_cases c : a = p
    · rw [if_pos c] at h
      cases h
      rw [c]; exact hp
    · rw [if_neg c] at h; exact S.ex a u h
  · have hne : q.1 ≠ p := fun z => (List.nodup_cons.mp S.nd).1 (List.mem_map.mpr ⟨q, hq, z⟩)
    rw [upd_ne hne]
    exact S.out q (List.mem_cons_of_mem _ hq)
theorem Stt.frzE (S : Stt G H ((p, o) :: L)) : Ex G (upd G p o) := Ex.new (S.out (p, o) (List.mem_cons_self ..))
theorem Stt.wr (S : Stt G H L) (i : Nat) (h : L[i]? = some (b, o)) : Stt G (upd H b o') (L.set i (b, o')) := by
  have hi : i < L.length := (List.getElem?_eq_some_iff.mp h).1
  have hb : (b, o) ∈ L := List.mem_of_getElem? h
  have hmap : (L.set i (b, o')).map (·.1) = L.map (·.1) := by
    rw [List.map_set]
    apply List.ext_getElem?
    intro j
    rw [List.getElem?_set]
    by_cases c : i = j
    · subst c
      rw [if_pos rfl, if_pos (by rw [List.length_map]; exact hi), List.getElem?_map, h]
      rfl
    · rw [if_neg c]
  have key : ∀ q, q ∈ L.set i (b, o') → q = (b, o') ∨ (q ∈ L ∧ q.1 ≠ b) := fun q hq => by
    obtain ⟨j, hj⟩ := List.getElem?_of_mem hq
    rw [List.getElem?_set] at hj
    by_cases c : i = j
    · subst c
      rw [if_pos rfl, if_pos hi] at hj
      exact .inl (Option.some.inj hj).symm
    · rw [if_neg c] at hj
      refine .inr ⟨List.mem_of_getElem? hj, fun z => c ?_⟩
      have h1 : (L.map (·.1))[i]? = some b := by rw [List.getElem?_map, h]; rfl
      have h2 : (L.map (·.1))[j]? = some b := by rw [List.getElem?_map, hj, ← z]; rfl
      have hi' : i < (L.map (·.1)).length := by rw [List.length_map]; exact hi
      exact (List.getElem?_inj hi' S.nd).mp (h1.trans h2.symm)
  refine ⟨fun a u ha => ?_, fun q hq => ?_, fun q hq => ?_, by rw [hmap]; exact S.nd⟩
  · rw [upd_ne (ne_of_none ha (S.out (b, o) hb))]
    exact S.ex a u ha
  · rcases key q hq with rfl | ⟨hq, hne⟩
    · exact upd_same
    · rw [upd_ne hne]; exact S.has q hq
  · rcases key q hq with rfl | ⟨hq, hne⟩
    · exact S.out (b, o) hb
    · exact S.out q hq
theorem Stt.nil (H : Hp) : Stt H H [] := ⟨Ex.refl H, (fun _ h => nomatch h), (fun _ h => nomatch h), List.nodup_nil⟩
theorem Stt.out_nil {G H : Hp} (S : Stt G H []) : Stt H H [] := Stt.nil H
end

/-! ### data -/
mutual
theorem Dp.ex {K : PySem.W.Frag} {H H' : Hp} (e : Ex H H') : ∀ (d : PyData) (v : V), Dp K H v d → Dp K H' v d
  | .none, _, h => by cases h; exact .non
  | .bool b, _, h => by cases h; exact .bl b
  | .int i, _, h => by cases h; exact .int i
  | .str x, _, h => by cases h; exact .str x
  | .list ds, _, h => by
    cases h with
    | lst hs ha => exact .lst (ex_l e hs) (DpAll.ex e ds _ ha)
  | .tuple ds, _, h => by
    cases h with
    | tup hs ha => exact .tup (ex_t e hs) (DpAll.ex e ds _ ha)
  | .dict _, _, h => by cases h
theorem DpAll.ex {K : PySem.W.Frag} {H H' : Hp} (e : Ex H H') : ∀ (ds : List PyData) (vs : List V), DpAll K H vs ds → DpAll K H' vs ds
  | [], _, h => by cases h; exact .nil
  | d :: ds, _, h => by
    cases h with
    | cons h1 h2 => exact .cons (Dp.ex e d _ h1) (DpAll.ex e ds _ h2)
end
theorem DpAll.length {K : PySem.W.Frag} {H : Hp} : ∀ {vs : List V} {ds : List PyData}, DpAll K H vs ds → vs.length = ds.length
  | _, _, .nil => rfl
  | _, _, .cons _ h => by rw [List.length_cons, List.length_cons, DpAll.length h]
theorem DpAll.get {K : PySem.W.Frag} {H : Hp} : ∀ {vs : List V} {ds : List PyData} {i : Nat} {v : V}, DpAll K H vs ds → vs[i]? = some v → ∃ d, ds[i]? = some d ∧ Dp K H v d
  | _, _, _, _, .nil, h => by simp at h
  | _, _, 0, _, .cons h1 _, h => by
    cases (Option.some.inj h)
    exact ⟨_, rfl, h1⟩
  | _, _, i + 1, _, .cons _ h2, h => DpAll.get (i := i) h2 h
theorem DpAll.append {K : PySem.W.Frag} {H : Hp} : ∀ {vs ws : List V} {ds es : List PyData}, DpAll K H vs ds → DpAll K H ws es → DpAll K H (vs ++ ws) (ds ++ es)
  | _, _, _, _, .nil, h => h
  | _, _, _, _, .cons h1 h2, h => .cons h1 (DpAll.append h2 h)
theorem DpAll.snoc {K : PySem.W.Frag} {H : Hp} {vs : List V} {ds : List PyData} {v : V} {d : PyData} (h : DpAll K H vs ds) (h1 : Dp K H v d) : DpAll K H (vs ++ [v]) (ds ++ [d]) := DpAll.append h (.cons h1 .nil)
theorem DpAll.take {K : PySem.W.Frag} {H : Hp} : ∀ {vs : List V} {ds : List PyData} (n : Nat), DpAll K H vs ds → DpAll K H (vs.take n) (ds.take n)
  | _, _, 0, _ => .nil
  | _, _, _ + 1, .nil => .nil
  | _, _, n + 1, .cons h1 h2 => .cons h1 (DpAll.take n h2)
theorem DpAll.drop {K : PySem.W.Frag} {H : Hp} : ∀ {vs : List V} {ds : List PyData} (n : Nat), DpAll K H vs ds → DpAll K H (vs.drop n) (ds.drop n)
  | _, _, 0, h => h
  | _, _, _ + 1, .nil => .nil
  | _, _, n + 1, .cons _ h2 => DpAll.drop n h2
theorem DpAll.ints {K : PySem.W.Frag} {H : Hp} : ∀ (ns : List Int), DpAll K H (ns.map V.int) (ns.map PyData.int)
  | [] => .nil
  | n :: ns => .cons (.int n) (DpAll.ints ns)
theorem DpAll.bools {K : PySem.W.Frag} {H : Hp} : ∀ (ns : List Bool), DpAll K H (ns.map V.bl) (ns.map PyData.bool)
  | [] => .nil
  | n :: ns => .cons (.bl n) (DpAll.bools ns)

/-! Readings by the head of what is read; rules that serve several kinds of values. -/
section
variable {K : PySem.W.Frag} {σ : L2.St} {H : Hp} {v x y : V} {ta tb tc te : TE} {t u : TT} {Q : VK} {QT : Bool → Hp → Prop} {QA : List V → Hp → Prop} {D : Ends} {tr : TA} {t1 t2 : TS} {i : Nat}
theorem rd_var (h : σ[i]? = some (some v)) (q : Q v H) : tVar i σ H Q := ⟨v, h, q⟩
theorem rd_c (q : Q v H) : tC v σ H Q := q
theorem rd_op {r : R2} (q : ta σ H fun x H1 => tb σ H1 fun y H2 => r x y H2 Q) : tOp r ta tb σ H Q := q
theorem rd_un {r : V → Hp → VK → Prop} (q : ta σ H fun x H1 => r x H1 Q) : tUn r ta σ H Q := q
theorem rd_test (q : te σ H fun x H1 => ∃ k, x = .bl k ∧ QT k H1) : tTest te σ H QT := q
theorem rd_B (q : te σ H fun x H1 => ∃ k, x = .bl k ∧ QT k H1) : tB te σ H QT := q
theorem rd_bl {P : Bool → Prop} {k : Bool} (q : P k) : ∃ c, V.bl k = V.bl c ∧ P c := ⟨k, rfl, q⟩
theorem rd_and (q : t σ H fun c H1 => if c = true then u σ H1 QT else QT false H1) : tAnd t u σ H QT := q
theorem rd_or (q : t σ H fun c H1 => if c = true then QT true H1 else u σ H1 QT) : tOr t u σ H QT := q
theorem rd_not (q : t σ H fun c H1 => QT (!c) H1) : tNot t σ H QT := q
theorem rd_andV (q : ta σ H fun x H1 => ∃ c, x = .bl c ∧ if c = true then tb σ H1 Q else Q (.bl false) H1) : tAndV ta tb σ H Q := q
theorem rd_orV (q : ta σ H fun x H1 => ∃ c, x = .bl c ∧ if c = true then Q (.bl true) H1 else tb σ H1 Q) : tOrV ta tb σ H Q := q
theorem rd_notV (q : ta σ H fun x H1 => ∃ c, x = .bl c ∧ Q (.bl (!c)) H1) : tNotV ta σ H Q := q
theorem rd_if (q : t σ H fun c H1 => if c = true then ta σ H1 Q else tb σ H1 Q) : tIf t ta tb σ H Q := q
theorem rd_nil (q : QA [] H) : tNil σ H QA := q
theorem rd_cons (q : ta σ H fun x H1 => tr σ H1 fun xs H2 => QA (x :: xs) H2) : tCons ta tr σ H QA := q
theorem rd_cb {r : List V → Hp → VK → Prop} (q : tr σ H fun vs H1 => r vs H1 Q) : tCB r tr σ H Q := q
theorem rd_call {sp : Sp} {E : XK} (q : tr σ H fun vs H1 => sp (vs ++ []) H1 Q E) : tCall sp [] E tr σ H Q := q
theorem rd_callK {sp : Sp} {gV : List V → List V → List V} {E : XK} {tk : TA} (q : tr σ H fun vs H1 => tk σ H1 fun zs H2 => sp (gV vs zs) H2 Q E) : tCallK sp gV E tr tk σ H Q := q
theorem rd_seq (q : t1 { D with nx := t2 D } σ H) : tSeq t1 t2 D σ H := q
theorem rd_ifs (q : t σ H fun b H1 => if b = true then t1 D σ H1 else t2 D σ H1) : tIfS t t1 t2 D σ H := q
theorem rd_next (q : D.nx σ H) : tNext D σ H := q
theorem rd_ret (q : te σ H D.rt) : tRet te D σ H := q
theorem rd_drop (q : te σ H fun _ H1 => D.nx σ H1) : tDrop te D σ H := q
theorem rd_asg {g : TG} (q : te σ H fun x H1 => g x σ H1 D.nx) : tAsg te g D σ H := q
theorem rd_name {N : L2.St → Hp → Prop} (q : N (σ.set i (some v)) H) : gName i v σ H N := q
theorem rd_tup (q : tr σ H fun xs H1 => xs.length ≤ sizeLine ∧ ∀ p, H1 p = none → Q (.ref p) (upd H1 p (.tup xs))) : tTup tr σ H Q := q
theorem rd_lst (q : tr σ H fun xs H1 => xs.length ≤ sizeLine ∧ ∀ p, H1 p = none → Q (.ref p) (upd H1 p (.lst xs))) : tLst tr σ H Q := q
theorem rd_par {i j : Nat} (q : tr σ H fun vs H1 => ∃ v w, vs = [v, w] ∧ D.nx ((σ.set i (some v)).set j (some w)) H1) : tPar i j tr D σ H := q
theorem rd_two {P : V → V → Prop} {a b : V} (q : P a b) : ∃ v w, [a, b] = [v, w] ∧ P v w := ⟨a, b, rfl, q⟩
theorem rd_bm {T : String} {r : V → List V → Hp → VK → Prop} (q : te σ H fun x H1 => tyV K T x H1 ∧ tr σ H1 fun xs H2 => r x xs H2 Q) : tBM K T r te tr σ H Q := q
theorem rd_app {a : Addr} {xs : List V} (h : H a = some (.lst xs)) (z : xs.length < 1000000) (q : Q .non (upd H a (.lst (xs ++ [v])))) : rAppend (.ref a) [v] H Q := ⟨a, xs, v, rfl, rfl, h, Nat.lt_of_lt_of_le z (by decide), q⟩
theorem ty_list {a : Addr} {xs : List V} (h : SqL K H a xs) : tyV K "list" (.ref a) H := .inl ⟨rfl, _, h⟩
theorem rd_sl {r : V → Option Int → Option Int → Hp → VK → Prop} {tl th : TO} (q : te σ H fun x H1 => tl σ H1 fun l H2 => th σ H2 fun u H3 => r x l u H3 Q) : tSl r te tl th σ H Q := q
theorem rd_noPart {QO : Option Int → Hp → Prop} (q : QO none H) : tNoPart σ H QO := q
theorem rd_part {QO : Option Int → Hp → Prop} (q : te σ H fun x H1 => ∃ i, x = .int i ∧ QO (some i) H1) : tPart te σ H QO := q
theorem rd_int {P : Int → Prop} {k : Int} (q : P k) : ∃ i, V.int k = V.int i ∧ P i := ⟨k, rfl, q⟩
theorem rd_dec {A B p : Prop} [Decidable p] (h1 : p → A) (h2 : ¬ p → B) : if decide p = true then A else B := by
  by_cases h : p
  · rw [decide_eq_true h, if_pos rfl]; exact h1 h
  · rw [decide_eq_false h, if_neg Bool.false_ne_true]; exact h2 h
theorem rd_decN {A B p : Prop} [Decidable p] (h1 : p → B) (h2 : ¬ p → A) : if (!decide p) = true then A else B := by
  by_cases h : p
  · rw [decide_eq_true h, if_neg (show ¬ (!true) = true by decide)]; exact h1 h
  · rw [decide_eq_false h, if_pos (show (!false) = true by decide)]; exact h2 h
theorem rd_nT {A B : Prop} (h : B) : if (!true) = true then A else B := by rw [if_neg (show ¬ (!true) = true by decide)]; exact h
theorem rd_nF {A B : Prop} (h : A) : if (!false) = true then A else B := by rw [if_pos (show (!false) = true by decide)]; exact h
theorem rd_iT {A B : Prop} (h : A) : if true = true then A else B := h
theorem rd_iF {A B : Prop} (h : B) : if false = true then A else B := by rw [if_neg Bool.false_ne_true]; exact h
/-! operators of ints -/
theorem rd_I0 {g : Int → Int → V} {a b : Int} (q : Q (g a b) H) : rI0 g (.int a) (.int b) H Q := ⟨a, b, rfl, rfl, q⟩
theorem rd_I {C : Int → Int → Prop} {g : Int → Int → V} {a b : Int} (c : C a b) (q : Q (g a b) H) : rI C g (.int a) (.int b) H Q := ⟨a, b, rfl, rfl, c, q⟩
theorem rd_U {g : Int → V} {a : Int} (q : Q (g a) H) : rU g (.int a) H Q := ⟨a, rfl, q⟩
/-! is None -/
theorem rd_isN (q : Q (.bl (decide (x = .non))) H) : rIsN x .non H Q := ⟨rfl, q⟩
theorem rd_notN (q : Q (.bl (!decide (x = .non))) H) : rNotN x .non H Q := ⟨rfl, q⟩
theorem int_non {a : Int} : decide (V.int a = V.non) = false := decide_eq_false (fun z => nomatch z)
theorem str_non {a : Str} : decide (V.str a = V.non) = false := decide_eq_false (fun z => nomatch z)
theorem bl_non {a : Bool} : decide (V.bl a = V.non) = false := decide_eq_false (fun z => nomatch z)
theorem ref_non {a : Addr} : decide (V.ref a = V.non) = false := decide_eq_false (fun z => nomatch z)
theorem non_non : decide (V.non = V.non) = true := decide_eq_true rfl
theorem int_eq {a b : Int} : decide (V.int a = V.int b) = decide (a = b) := by
  by_cases h : a = b
  · subst h; rw [decide_eq_true rfl, decide_eq_true rfl]
  · rw [decide_eq_false h, decide_eq_false (fun z => h (V.int.inj z))]
theorem bl_eq {a b : Bool} : decide (V.bl a = V.bl b) = decide (a = b) := by
  by_cases h : a = b
  · subst h; rw [decide_eq_true rfl, decide_eq_true rfl]
  · rw [decide_eq_false h, decide_eq_false (fun z => h (V.bl.inj z))]
theorem str_eq {a b : Str} : decide (V.str a = V.str b) = decide (a = b) := by
  by_cases h : a = b
  · subst h; rw [decide_eq_true rfl, decide_eq_true rfl]
  · rw [decide_eq_false h, decide_eq_false (fun z => h (V.str.inj z))]
end

/-! ### rules of several kinds -/
/-- a + b -/
def rStrAdd : R2 := fun x y H Q => ∃ i j, x = .str i ∧ y = .str j ∧ i.length + j.length ≤ sizeLine ∧ Q (.str (i ++ j)) H
def gAdd (K : PySem.W.Frag) : R2 := fun x y H Q => rI0 (fun i j => .int (i + j)) x y H Q ∨ rStrAdd x y H Q ∨ rCat x y H Q ∨ rCatA K x y H Q
/-- a == b: scalars; data -/
def gEq (K : PySem.W.Frag) : R2 := fun x y H Q => rEq x y H Q ∨ rEqD K x y H Q
def gNe (K : PySem.W.Frag) : R2 := fun x y H Q => rNe x y H Q ∨ rNeD K x y H Q
/-- a * b: ints; a list's copies -/
def gMul : R2 := fun x y H Q => rI CMul (fun i j => .int (i * j)) x y H Q ∨ rRep x y H Q
/-- a < b -/
def rStrLt : R2 := fun x y H Q => ∃ i j, x = .str i ∧ y = .str j ∧ Q (.bl (decide (i.cps.toList < j.cps.toList))) H
/-- a < b of data that can be compared place by place -/
def rLtD (K : PySem.W.Frag) : R2 := fun x y H Q => ∃ d e, Dp K H x d ∧ Dp K H y e ∧ PySem.W.alike d e = true ∧ d ≠ .none ∧ PyData.depth d ≤ 64 ∧ Q (.bl (PySem.W.dataLt d e)) H
theorem op_ltD {X : Cx} (hu : X.A.units + 64 < cLine) : OpR X (compareOp .Lt) (rLtD X.K) := by
  rintro pins s σ H x y v u Q hI hv hu' ⟨d, e, hd, he, hal, hno, hdep, hQ⟩
  have ⟨l1, hr1⟩ := Dp.reads hI d x v hd hv
  have ⟨l2, hr2⟩ := Dp.reads hI e y u he hu'
  have room : X.A.units + min d.depth e.depth < cLine := by
    have hm := Nat.min_le_left d.depth e.depth
    omega
  exact PySem.W.rcLt_alike d e X.A s v u l1 l2 hr1 hr2 hal hno room _ _ _ _ ⟨.bl _, H, hI, rfl, hQ⟩
def gLt (K : PySem.W.Frag) : R2 := fun x y H Q => rI0 (fun i j => .bl (decide (i < j))) x y H Q ∨ rStrLt x y H Q ∨ rLtD K x y H Q
/-- x in y: a sign of a text; of a list or tuple of flat things; data in a list -/
def gIn (K : PySem.W.Frag) : R2 := fun x y H Q => rInS x y H Q ∨ rIn K false x y H Q
def gNotIn (K : PySem.W.Frag) : R2 := fun x y H Q => rNotInS x y H Q ∨ rIn K true x y H Q
def gSl (K : PySem.W.Frag) : V → Option Int → Option Int → Hp → VK → Prop := fun x lo hi H Q => rSlL K x lo hi H Q ∨ rSlS x lo hi H Q ∨ rSlT K x lo hi H Q
def rSeqOf (K : PySem.W.Frag) (x : V) (H : Hp) (xs : List V) : Prop := ∃ p, x = .ref p ∧ (SqL K H p xs ∨ SqT K H p xs)
def gLen (K : PySem.W.Frag) : List V → Hp → VK → Prop := fun xs H Q => ∃ x n, xs = [x] ∧ LenV K x H n ∧ Q (.int n) H
def gInt : List V → Hp → VK → Prop := fun xs H Q => ((∃ i, xs = [.int i] ∧ Q (.int i) H) ∨ ∃ k, xs = [.bl k] ∧ Q (.int (if k then 1 else 0)) H) ∨ (∃ a n, xs = [.str a] ∧ PySem.intText? a = some n ∧ a.length ≤ 640 ∧ Q (.int n) H)
def gBool : List V → Hp → VK → Prop := fun xs H Q => (∃ i, xs = [.int i] ∧ Q (.bl (i != 0)) H) ∨ ∃ k, xs = [.bl k] ∧ Q (.bl k) H
def gList (K : PySem.W.Frag) : List V → Hp → VK → Prop := fun xs H Q => ∃ p ys, xs = [.ref p] ∧ (SqL K H p ys ∨ SqT K H p ys) ∧ ∀ l, H l = none → Q (.ref l) (upd H l (.lst ys))
def gTuple (K : PySem.W.Frag) : List V → Hp → VK → Prop := fun xs H Q => ∃ p ys, xs = [.ref p] ∧ ((SqL K H p ys ∧ ∀ l, H l = none → Q (.ref l) (upd H l (.tup ys))) ∨ (SqT K H p ys ∧ Q (.ref p) H))
def gIsi (K : PySem.W.Frag) : List V → Hp → VK → Prop := fun xs H Q => rIsi K xs H Q ∨ rIsiT K xs H Q
def gRange1 : Nat := 0
section
variable {X : Cx}
theorem og_add : OpR X (binaryOp .Add) (gAdd X.K) := op_add.or (op_add_str.or (op_cat.or op_catA))
theorem og_sub : OpR X (binaryOp .Sub) (rI0 fun i j => .int (i - j)) := op_sub
theorem og_mul : OpR X (binaryOp .Mult) gMul := op_mul.or op_rep
theorem og_mod : OpR X (binaryOp .Mod) (rI (fun _ j => j ≠ 0) fun i j => .int (i.fmod j)) := op_modN
theorem og_fdiv : OpR X (binaryOp .FloorDiv) (rI CDivN fun i j => .int (i.fdiv j)) := op_fdivN
theorem og_pow : OpR X (binaryOp .Pow) (rI CPow fun i j => .int (i ^ j.toNat)) := op_pow
theorem og_eq (hu : X.A.units + 64 < cLine) : OpR X (compareOp .Eq) (gEq X.K) := op_eq.or (op_eqD hu)
theorem og_ne (hu : X.A.units + 64 < cLine) : OpR X (compareOp .NotEq) (gNe X.K) := op_ne.or (op_neD hu)
theorem og_lt (hu : X.A.units + 64 < cLine) : OpR X (compareOp .Lt) (gLt X.K) := op_lt.or (op_lt_str.or (op_ltD hu))
theorem og_le : OpR X (compareOp .LtE) (rI0 fun i j => .bl (decide (i ≤ j))) := op_le
theorem og_gt : OpR X (compareOp .Gt) (rI0 fun i j => .bl (decide (j < i))) := op_gt
theorem og_ge : OpR X (compareOp .GtE) (rI0 fun i j => .bl (decide (j ≤ i))) := op_ge
theorem og_in : OpR X (compareOp .In) (gIn X.K) := op_inS.or op_in_seq
theorem og_notIn : OpR X (compareOp .NotIn) (gNotIn X.K) := op_notInS.or op_notIn_seq
theorem og_sl : SlR X (gSl X.K) := sl_list.or (sl_str.or sl_tup)
theorem cg_len : CallR X (.builtin "len") (gLen X.K) := call_len
theorem cg_int : CallR X (.type "int") gInt := call_int1.or call_int_str
theorem cg_bool : CallR X (.type "bool") gBool := call_bool1
theorem cg_list : CallR X (.type "list") (gList X.K) := call_list_of
theorem cg_tuple : CallR X (.type "tuple") (gTuple X.K) := call_tuple_of
theorem cg_isi : CallR X (.builtin "isinstance") (gIsi X.K) := call_isi.or call_isiT
end
section
variable {K : PySem.W.Frag} {σ : L2.St} {H : Hp} {v x y : V} {Q : VK}
theorem rd_addI {a b : Int} (q : Q (.int (a + b)) H) : gAdd K (.int a) (.int b) H Q := .inl ⟨a, b, rfl, rfl, q⟩
theorem rd_addS {a b : Str} (h : a.length + b.length ≤ sizeLine) (q : Q (.str (a ++ b)) H) : gAdd K (.str a) (.str b) H Q := .inr (.inl ⟨a, b, rfl, rfl, h, q⟩)
theorem rd_addL {a b : Addr} {xs ys : List V} (h1 : H a = some (.lst xs)) (h2 : H b = some (.lst ys)) (h : xs.length + ys.length ≤ sizeLine) (q : ∀ p, H p = none → Q (.ref p) (upd H p (.lst (xs ++ ys)))) : gAdd K (.ref a) (.ref b) H Q := .inr (.inr (.inl ⟨a, b, xs, ys, rfl, rfl, h1, h2, h, q⟩))
theorem rd_mulI {a b : Int} (h : CMul a b) (q : Q (.int (a * b)) H) : gMul (.int a) (.int b) H Q := .inl ⟨a, b, rfl, rfl, h, q⟩
theorem rd_eqI {a b : Int} (q : Q (.bl (decide (a = b))) H) : gEq K (.int a) (.int b) H Q := .inl ⟨rfl, by rw [int_eq]; exact q⟩
theorem rd_neI {a b : Int} (q : Q (.bl (!decide (a = b))) H) : gNe K (.int a) (.int b) H Q := .inl ⟨rfl, by rw [int_eq]; exact q⟩
theorem rd_eqB {a b : Bool} (q : Q (.bl (decide (a = b))) H) : gEq K (.bl a) (.bl b) H Q := .inl ⟨rfl, by rw [bl_eq]; exact q⟩
theorem rd_neB {a b : Bool} (q : Q (.bl (!decide (a = b))) H) : gNe K (.bl a) (.bl b) H Q := .inl ⟨rfl, by rw [bl_eq]; exact q⟩
theorem rd_eqS {a b : Str} (q : Q (.bl (decide (a = b))) H) : gEq K (.str a) (.str b) H Q := .inl ⟨rfl, by rw [str_eq]; exact q⟩
theorem rd_neS {a b : Str} (q : Q (.bl (!decide (a = b))) H) : gNe K (.str a) (.str b) H Q := .inl ⟨rfl, by rw [str_eq]; exact q⟩
theorem rd_eqD {d e : PyData} (h1 : Dp K H x d) (h2 : Dp K H y e) (s1 : SeqAt.shaped d = true) (s2 : SeqAt.shaped e = true) (q : Q (.bl (PyData.eqv d e)) H) : gEq K x y H Q := .inr ⟨d, e, h1, h2, s1, s2, q⟩
theorem rd_neD {d e : PyData} (h1 : Dp K H x d) (h2 : Dp K H y e) (s1 : SeqAt.shaped d = true) (s2 : SeqAt.shaped e = true) (q : Q (.bl (!PyData.eqv d e)) H) : gNe K x y H Q := .inr ⟨d, e, h1, h2, s1, s2, q⟩
theorem rd_ltI {a b : Int} (q : Q (.bl (decide (a < b))) H) : gLt K (.int a) (.int b) H Q := .inl ⟨a, b, rfl, rfl, q⟩
theorem rd_ltD {d e : PyData} (h1 : Dp K H x d) (h2 : Dp K H y e) (a : PySem.W.alike d e = true) (n : d ≠ .none) (z : PyData.depth d ≤ 64) (q : Q (.bl (PySem.W.dataLt d e)) H) : gLt K x y H Q := .inr (.inr ⟨d, e, h1, h2, a, n, z, q⟩)
theorem rd_intI {a : Int} (q : Q (.int a) H) : gInt [.int a] H Q := .inl (.inl ⟨a, rfl, q⟩)
theorem rd_intB {k : Bool} (q : Q (.int (if k then 1 else 0)) H) : gInt [.bl k] H Q := .inl (.inr ⟨k, rfl, q⟩)
theorem rd_boolB {k : Bool} (q : Q (.bl k) H) : gBool [.bl k] H Q := .inr ⟨k, rfl, q⟩
theorem rd_boolI {k : Int} (q : Q (.bl (k != 0)) H) : gBool [.int k] H Q := .inl ⟨k, rfl, q⟩
theorem rd_lenL {a : Addr} {xs : List V} (h : SqL K H a xs) (q : Q (.int xs.length) H) : gLen K [.ref a] H Q := ⟨.ref a, xs.length, rfl, .inl ⟨xs, h, rfl⟩, q⟩
theorem rd_lenT {a : Addr} {xs : List V} (h : SqT K H a xs) (q : Q (.int xs.length) H) : gLen K [.ref a] H Q := ⟨.ref a, xs.length, rfl, .inr ⟨xs, h, rfl⟩, q⟩
theorem rd_lenS {z : Str} (h : z.length ≤ sizeLine) (q : Q (.int z.length) H) : gLen K [.str z] H Q := ⟨.str z, z.length, rfl, ⟨h, rfl⟩, q⟩
theorem rd_ixL {a : Addr} {xs : List V} {i : Int} (h : SqL K H a xs) (e : atI xs i = some v) (q : Q v H) : rIx K (.ref a) (.int i) H Q := .inl ⟨a, xs, i, v, rfl, rfl, h, e, q⟩
theorem rd_ixT {a : Addr} {xs : List V} {i : Int} (h : SqT K H a xs) (e : atI xs i = some v) (q : Q v H) : rIx K (.ref a) (.int i) H Q := .inr (.inl ⟨a, xs, i, v, rfl, rfl, h, e, q⟩)
theorem rd_ixS {z : Str} {c : Nat} {i : Int} (h : z.length ≤ sizeLine) (e : atI z.cps.toList i = some c) (q : Q (.str ⟨#[c]⟩) H) : rIx K (.str z) (.int i) H Q := .inr (.inr ⟨z, i, c, rfl, rfl, h, e, q⟩)
theorem rd_all {a : Addr} {bs : List Bool} (h : SqL K H a (bs.map V.bl)) (q : Q (.bl (bs.all id)) H) : rAll K [.ref a] H Q := ⟨a, bs, rfl, h, q⟩
theorem rd_any {a : Addr} {bs : List Bool} (h : SqL K H a (bs.map V.bl)) (q : Q (.bl (bs.any id)) H) : rAny K [.ref a] H Q := ⟨a, bs, rfl, h, q⟩
theorem rd_slL {a : Addr} {xs : List V} {lo hi : Option Int} (h : SqL K H a xs) (q : ∀ p, H p = none → Q (.ref p) (upd H p (.lst (cutV xs lo hi)))) : gSl K (.ref a) lo hi H Q := .inl ⟨a, xs, rfl, h, q⟩
end

/-! The law's bag of draws. -/
theorem rd_sub {to ti : TE} {t : TSet} {v : V} {σ : L2.St} {H : Hp} {N : L2.St → Hp → Prop} (q : to σ H fun o H1 => ti σ H1 fun i H2 => t o i v H2 fun H3 => N σ H3) : gSub to ti t v σ H N := q
theorem rd_setL {p : Addr} {xs : List V} {k : Int} {j : Nat} {v : V} {H : Hp} {Q : Hp → Prop} (h : H p = some (.lst xs)) (e : ixN xs.length k = some j) (q : Q (upd H p (.lst (xs.set j v)))) : rSetL (.ref p) (.int k) v H Q := ⟨p, xs, k, j, rfl, rfl, h, e, q⟩
local macro_rules | `(tactic| walk_at "sql") => `(tactic| first
  | exact sq_of (by assumption)
  | assumption
  | exact ex_l (Stt.ex (by assumption)) (by assumption)
  | exact sq_of upd_same)
local macro_rules | `(tactic| walk_at "sqt") => `(tactic| first
  | exact st_of (by assumption)
  | assumption
  | exact ex_t (Stt.ex (by assumption)) (by assumption)
  | exact st_of upd_same)
local macro_rules | `(tactic| walk_at "ix") => `(tactic| first
  | ((with_reducible refine' rd_ixL ?h1 ?h2 ?_); (case h1 => walk_at "sql"); (case h2 => exact rfl))
  | ((with_reducible refine' rd_ixT ?h1 ?h2 ?_); (case h1 => walk_at "sqt"); (case h2 => exact rfl)))
local macro_rules | `(tactic| walk_at "go1") => `(tactic| first
  | with_reducible refine rd_seq ?_
  | with_reducible refine rd_op ?_
  | with_reducible refine rd_c ?_
  | ((with_reducible refine' rd_var ?hv ?_); (case hv => exact rfl))
  | with_reducible refine rd_cons ?_
  | with_reducible refine rd_nil ?_
  | with_reducible refine rd_asg ?_
  | with_reducible refine rd_name ?_
  | with_reducible refine rd_ret ?_
  | with_reducible refine rd_ifs ?_
  | with_reducible refine rd_test ?_
  | with_reducible refine rd_B ?_
  | with_reducible refine rd_bl ?_
  | with_reducible refine rd_and ?_
  | with_reducible refine rd_or ?_
  | with_reducible refine rd_not ?_
  | with_reducible refine rd_andV ?_
  | with_reducible refine rd_orV ?_
  | with_reducible refine rd_notV ?_
  | with_reducible refine rd_if ?_
  | with_reducible refine rd_iT ?_
  | with_reducible refine rd_iF ?_
  | with_reducible refine rd_nT ?_
  | with_reducible refine rd_nF ?_
  | with_reducible refine rd_cb ?_
  | with_reducible refine rd_call ?_
  | with_reducible refine rd_callK ?_
  | with_reducible refine rd_next ?_
  | with_reducible refine rd_drop ?_
  | with_reducible refine rd_par ?_
  | with_reducible refine rd_two ?_
  | with_reducible refine rd_bm ?_
  | with_reducible refine rd_tup ?_
  | with_reducible refine rd_lst ?_
  | with_reducible refine rd_sl ?_
  | with_reducible refine rd_noPart ?_
  | with_reducible refine rd_part ?_
  | with_reducible refine rd_int ?_
  | with_reducible refine rd_un ?_
  | with_reducible refine rd_I0 ?_
  | with_reducible refine rd_U ?_
  | with_reducible refine rd_isN ?_
  | with_reducible refine rd_notN ?_
  | with_reducible refine rd_addI ?_
  | with_reducible refine rd_eqI ?_
  | with_reducible refine rd_neI ?_
  | with_reducible refine rd_eqB ?_
  | with_reducible refine rd_neB ?_
  | with_reducible refine rd_eqS ?_
  | with_reducible refine rd_neS ?_
  | with_reducible refine rd_ltI ?_
  | with_reducible refine rd_intI ?_
  | with_reducible refine rd_intB ?_
  | with_reducible refine rd_boolB ?_
  | with_reducible refine rd_boolI ?_
  | with_reducible refine rd_sub ?_
  | walk_at "ix")
local macro_rules | `(tactic| walk_at "go") => `(tactic| (repeat walk_at "go1"); (try dsimp only))
local macro_rules | `(tactic| walk_at "dec") => `(tactic| first
  | ((with_reducible refine rd_dec (fun e => ?_) (fun e => ?_)) <;> first | (exfalso; revert e; decide) | (exfalso; cases e; done) | exact absurd rfl e | skip)
  | ((with_reducible refine rd_decN (fun e => ?_) (fun e => ?_)) <;> first | (exfalso; revert e; decide) | (exfalso; cases e; done) | exact absurd rfl e | skip))

def bagO (c : Addr) (i r x n : Int) : HO := .lst [.ref c, .int i, .int r, .int x, .int n]
def Bag (K : PySem.W.Frag) (G H : Hp) (b : Addr) (L : List (Addr × HO)) : Prop :=
  ∃ (c : Addr) (i r x n : Int) (ns : List Int), Stt G H ((b, .lst [.ref c, .int i, .int r, .int x, .int n]) :: L) ∧ SqL K G c (ns.map V.int) ∧ 0 ≤ i ∧ 0 ≤ r ∧ 0 ≤ x ∧ x < 2147483587 ∧ 0 ≤ n
def sp_draw (K : PySem.W.Frag) : Sp := fun vs H Q _ => ∃ (b : Addr) (m : Int) (G : Hp) (L : List (Addr × HO)), vs = [.ref b, .int m] ∧ 0 < m ∧ m < 1073741824 ∧ Bag K G H b L ∧
  ∀ d H', 0 ≤ d → d < m → Bag K G H' b L → Q (.int d) H'
def t_draw_0a_3 (K : PySem.W.Frag) : TS :=
  (tAsg (tOp (rI (fun _ j => j ≠ 0) fun i j => .int (i.fmod j)) (tCB gInt (tCons (tOp (gAdd K) (tOp (gAdd K) (tOp gMul (tOp (rIx K) (tVar 0) (tC (.int 3))) (tC (.int 40039))) (tOp gMul (tOp (rI (fun _ j => j ≠ 0) fun i j => .int (i.fmod j)) (tCB gInt (tCons (tVar 2) tNil)) (tC (.int 2147483549))) (tC (.int 337)))) (tC (.int 2017))) tNil)) (tC (.int 2147483587))) (gSub (tVar 0) (tC (.int 3)) rSetL))
def t_draw_0a_2 (K : PySem.W.Frag) : TS :=
  (tSeq (tAsg (tIf (tTest (tOp (rI0 fun i j => .bl (decide (j ≤ i))) (tVar 2) (tOp (rI CPow fun i j => .int (i ^ j.toNat)) (tC (.int 10)) (tC (.int 18))))) (tVar 2) (tC (.int 0))) (gSub (tVar 0) (tC (.int 2)) rSetL))
  (t_draw_0a_3 K))
def t_draw_0a_1 (K : PySem.W.Frag) : TS :=
  (tSeq (tAsg (tOp (gAdd K) (tOp (rIx K) (tVar 0) (tC (.int 1))) (tC (.int 1))) (gSub (tVar 0) (tC (.int 1)) rSetL))
  (t_draw_0a_2 K))
def t_draw_1a_2 (K : PySem.W.Frag) : TS :=
  (tRet (tVar 3))
def t_draw_1a_1 (K : PySem.W.Frag) : TS :=
  (tSeq (tAsg (tOp (rI CDivN fun i j => .int (i.fdiv j)) (tOp (rIx K) (tVar 0) (tC (.int 2))) (tVar 1)) (gSub (tVar 0) (tC (.int 2)) rSetL))
  (t_draw_1a_2 K))
def t_draw_5 (K : PySem.W.Frag) : TS :=
  (tRet (tOp (rI (fun _ j => j ≠ 0) fun i j => .int (i.fmod j)) (tCB gInt (tCons (tOp (gAdd K) (tOp (gAdd K) (tOp (rI CDivN fun i j => .int (i.fdiv j)) (tOp (rIx K) (tVar 0) (tC (.int 3))) (tC (.int 61))) (tOp gMul (tVar 4) (tC (.int 32003)))) (tOp (rIx K) (tVar 0) (tC (.int 4)))) tNil)) (tVar 1)))
def t_draw_4 (K : PySem.W.Frag) : TS :=
  (tSeq (tAsg (tOp (rI (fun _ j => j ≠ 0) fun i j => .int (i.fmod j)) (tCB gInt (tCons (tOp (gAdd K) (tOp (gAdd K) (tOp (gAdd K) (tOp gMul (tVar 4) (tVar 4)) (tOp gMul (tC (.int 65063)) (tVar 4))) (tOp gMul (tC (.int 6679)) (tOp (rIx K) (tVar 0) (tC (.int 4))))) (tC (.int 40009))) tNil)) (tC (.int 2147483587))) (gSub (tVar 0) (tC (.int 3)) rSetL))
  (t_draw_5 K))
def t_draw_3 (K : PySem.W.Frag) : TS :=
  (tSeq (tAsg (tOp (rIx K) (tVar 0) (tC (.int 3))) (gName 4))
  (t_draw_4 K))
def t_draw_2 (K : PySem.W.Frag) : TS :=
  (tSeq (tAsg (tOp (gAdd K) (tOp (rIx K) (tVar 0) (tC (.int 4))) (tC (.int 1))) (gSub (tVar 0) (tC (.int 4)) rSetL))
  (t_draw_3 K))
def t_draw_1 (K : PySem.W.Frag) : TS :=
  (tSeq (tIfS (tTest (tOp (rI0 fun i j => .bl (decide (j < i))) (tOp (rIx K) (tVar 0) (tC (.int 2))) (tC (.int 0)))) (tSeq (tAsg (tOp (rI (fun _ j => j ≠ 0) fun i j => .int (i.fmod j)) (tCB gInt (tCons (tOp (rIx K) (tVar 0) (tC (.int 2))) tNil)) (tVar 1)) (gName 3))
  (t_draw_1a_1 K)) tNext)
  (t_draw_2 K))
def t_draw (K : PySem.W.Frag) : TS :=
  (tSeq (tIfS (tAnd (tTest (tOp (gEq K) (tOp (rIx K) (tVar 0) (tC (.int 2))) (tC (.int 0)))) (tTest (tOp (gLt K) (tOp (rIx K) (tVar 0) (tC (.int 1))) (tCB (gLen K) (tCons (tOp (rIx K) (tVar 0) (tC (.int 0))) tNil))))) (tSeq (tAsg (tOp (rIx K) (tOp (rIx K) (tVar 0) (tC (.int 0))) (tOp (rIx K) (tVar 0) (tC (.int 1)))) (gName 2))
  (t_draw_0a_1 K)) tNext)
  (t_draw_1 K))
theorem fmod_lo (a : Int) {b : Int} (h : 0 < b) : 0 ≤ a.fmod b := by rw [Int.fmod_eq_emod_of_nonneg a (by omega)]; exact Int.emod_nonneg a (by omega)
theorem fmod_hi (a : Int) {b : Int} (h : 0 < b) : a.fmod b < b := by rw [Int.fmod_eq_emod_of_nonneg a (by omega)]; exact Int.emod_lt_of_pos a h
theorem fdiv_lo {a b : Int} (ha : 0 ≤ a) (h : 0 < b) : 0 ≤ a.fdiv b := by rw [Int.fdiv_eq_ediv_of_nonneg a (by omega)]; exact Int.ediv_nonneg ha (by omega)
theorem read_draw_1 {K : PySem.W.Frag} {b c : Addr} {m i r x n : Int} {ns : List Int} {G H : Hp} {L : List (Addr × HO)} {D : Ends} {s2 s3 s4 : Option V} (m0 : 0 < m) (m1 : m < 1073741824)
    (S : Stt G H ((b, .lst [.ref c, .int i, .int r, .int x, .int n]) :: L)) (hc : SqL K G c (ns.map V.int)) (hi : 0 ≤ i) (hr : 0 ≤ r) (hx : 0 ≤ x) (hx2 : x < 2147483587) (hn : 0 ≤ n)
    (q : ∀ d H', 0 ≤ d → d < m → Bag K G H' b L → D.rt (.int d) H') : t_draw_1 K D [some (.ref b), some (.int m), s2, s3, s4] H := by
  have hb := S.at 0 rfl
  unfold t_draw_1
  walk_at "go"
  refine rd_dec (fun e => ?_) (fun e => ?_)
  · walk_at "go"
    refine rd_I (by omega) ?_
    walk_at "go"
    unfold t_draw_1a_1
    walk_at "go"
    refine rd_I ⟨by omega, by omega⟩ ?_
    walk_at "go"
    refine rd_setL hb rfl ?_
    unfold t_draw_1a_2
    walk_at "go"
    exact q _ _ (fmod_lo _ m0) (fmod_hi _ m0) ⟨c, i, r.fdiv m, x, n, ns, S.wr 0 rfl, hc, hi, fdiv_lo hr m0, hx, hx2, hn⟩
  · walk_at "go"
    unfold t_draw_2
    walk_at "go"
    refine rd_setL hb rfl ?_
    have S2 : Stt G (upd H b _) ((b, .lst [.ref c, .int i, .int r, .int x, .int (n + 1)]) :: L) := S.wr 0 rfl
    have hb2 := S2.at 0 rfl
    unfold t_draw_3
    walk_at "go"
    unfold t_draw_4
    walk_at "go"
    refine rd_mulI (.inl ⟨by omega, by omega⟩) ?_
    walk_at "go"
    refine rd_mulI (.inl ⟨by omega, by omega⟩) ?_
    walk_at "go"
    refine rd_mulI (.inl ⟨by omega, by omega⟩) ?_
    walk_at "go"
    refine rd_I (by decide) ?_
    walk_at "go"
    refine rd_setL hb2 rfl ?_
    have S3 : Stt G _ ((b, .lst [.ref c, .int i, .int r, .int ((x * x + 65063 * x + 6679 * (n + 1) + 40009).fmod 2147483587), .int (n + 1)]) :: L) := S2.wr 0 rfl
    have hb3 := S3.at 0 rfl
    unfold t_draw_5
    walk_at "go"
    refine rd_I ⟨by decide, by decide⟩ ?_
    walk_at "go"
    refine rd_mulI (.inl ⟨by omega, by omega⟩) ?_
    walk_at "go"
    refine rd_I (by omega) ?_
    exact q _ _ (fmod_lo _ m0) (fmod_hi _ m0) ⟨c, i, r, _, n + 1, ns, S3, hc, hi, hr, fmod_lo _ (by decide), fmod_hi _ (by decide), by omega⟩
theorem read_draw {K : PySem.W.Frag} {b : Addr} {m : Int} {G H : Hp} {L : List (Addr × HO)} {D : Ends} {s2 s3 s4 : Option V} (m0 : 0 < m) (m1 : m < 1073741824)
    (B : Bag K G H b L) (q : ∀ d H', 0 ≤ d → d < m → Bag K G H' b L → D.rt (.int d) H') : t_draw K D [some (.ref b), some (.int m), s2, s3, s4] H := by
  obtain ⟨c, i, r, x, n, ns, S, hc, hi, hr, hx, hx2, hn⟩ := B
  obtain ⟨j, rfl⟩ : ∃ j : Nat, i = (j : Int) := ⟨i.toNat, by omega⟩
  have hb := S.at 0 rfl
  unfold t_draw
  walk_at "go"
  refine rd_dec (fun e => ?_) (fun e => ?_)
  · walk_at "go"
    refine rd_lenL (ex_l S.ex hc) ?_
    walk_at "go"
    refine rd_dec (fun e2 => ?_) (fun e2 => ?_)
    · walk_at "go"
      rw [List.length_map] at e2
      have hi2 : j < ns.length := by omega
      refine rd_ixL (ex_l S.ex hc) (v := .int ns[j]) ?_ ?_
      · refine atI_nat ?_
        rw [List.getElem?_map, List.getElem?_eq_getElem hi2]
        rfl
      walk_at "go"
      unfold t_draw_0a_1
      walk_at "go"
      refine rd_setL hb rfl ?_
      have S2 : Stt G _ ((b, .lst [.ref c, .int ((j : Int) + 1), .int r, .int x, .int n]) :: L) := S.wr 0 rfl
      have hb2 := S2.at 0 rfl
      unfold t_draw_0a_2
      walk_at "go"
      refine rd_I ⟨by decide, by decide, by decide⟩ ?_
      walk_at "go"
      have key : ∀ r', 0 ≤ r' → t_draw_0a_3 K { D with nx := t_draw_1 K D } [some (.ref b), some (.int m), some (.int ns[j]), s3, s4] (upd (upd H b (.lst [.ref c, .int ((j : Int) + 1), .int r, .int x, .int n])) b (.lst [.ref c, .int ((j : Int) + 1), .int r', .int x, .int n])) := by
        intro r' hr'
        have S3 : Stt G _ ((b, .lst [.ref c, .int ((j : Int) + 1), .int r', .int x, .int n]) :: L) := S2.wr 0 rfl
        have hb3 := S3.at 0 rfl
        unfold t_draw_0a_3
        walk_at "go"
        refine rd_mulI (.inr ⟨by decide, by decide⟩) ?_
        walk_at "go"
        refine rd_I (by decide) ?_
        walk_at "go"
        refine rd_mulI (.inr ⟨by decide, by decide⟩) ?_
        walk_at "go"
        refine rd_I (by decide) ?_
        walk_at "go"
        refine rd_setL hb3 rfl ?_
        refine read_draw_1 m0 m1 (S3.wr 0 rfl) hc (by omega) hr' (fmod_lo _ (by decide)) (fmod_hi _ (by decide)) hn q
      refine rd_dec (fun e3 => ?_) (fun e3 => ?_)
      · walk_at "go"
        refine rd_setL hb2 rfl ?_
        exact key _ (by have e3' : (10 : Int) ^ (18 : Int).toNat ≤ ns[j] := e3; have : (0 : Int) < 10 ^ (18 : Int).toNat := by decide
                        omega)
      · walk_at "go"
        refine rd_setL hb2 rfl ?_
        exact key 0 (by decide)
    · walk_at "go"
      exact read_draw_1 m0 m1 S hc hi hr hx hx2 hn q
  · walk_at "go"
    exact read_draw_1 m0 m1 S hc hi hr hx hx2 hn q

/-! Comprehensions and loops over the unchanging heap. -/
/-- what may be said of the heaps: it stays behind a new object, a list at its head may be written -/
structure Wd (W : Hp → Hp → List (Addr × HO) → Prop) : Prop where
  ex : ∀ {G H L}, W G H L → Ex G H
  new : ∀ {G H L p o}, W G H L → H p = none → W (upd G p o) (upd H p o) L
  mk2 : ∀ {G H L p o}, W G H L → H p = none → W G (upd H p o) ((p, o) :: L)
  get : ∀ {G H L p o}, W G H ((p, o) :: L) → H p = some o
  set : ∀ {G H L p o o'}, W G H ((p, o) :: L) → W G (upd H p o') ((p, o') :: L)
  free : ∀ {G H L p}, W G H L → H p = none → G p = none
  drop : ∀ {G H L p o}, W G H ((p, o) :: L) → W G H L
  frz : ∀ {G H L p o}, W G H ((p, o) :: L) → W (upd G p o) H L ∧ Ex G (upd G p o)
theorem stt_world : Wd Stt := ⟨Stt.ex, Stt.new, Stt.mkL, fun S => S.at 0 rfl, fun S => S.wr 0 rfl, Stt.free, Stt.drop, fun S => ⟨S.frz, S.frzE⟩⟩
theorem Wd.newE {W : Hp → Hp → List (Addr × HO) → Prop} (hW : Wd W) {G H : Hp} {L : List (Addr × HO)} {p : Addr} {o : HO} (S : W G H L) (h : H p = none) : Ex G (upd G p o) := Ex.new (hW.free S h)
section
variable {W : Hp → Hp → List (Addr × HO) → Prop} {K : PySem.W.Frag} {J : It} {n : Nat} {Gw : Hp → Prop} {Y : Nat → Hp → V → Hp → Prop} {G H : Hp} {L : List (Addr × HO)} {σ : L2.St} {g : TG} {tt : TT} {te : TE} {vs : List Nat} {Q : VK}
/-- what is read of a comprehension behind its source -/
def LcG (J : It) (g : TG) (tt : TT) (te : TE) (vs : List Nat) (σ : L2.St) (H : Hp) (Q : VK) : Prop := tLc (fun _ H R => R J H) g tt te vs σ H Q
theorem rd_lc {wi : TI} (q : wi σ H fun J H1 => LcG J g tt te vs σ H1 Q) : tLc wi g tt te vs σ H Q := q
theorem rd_yes {QT : Bool → Hp → Prop} (q : QT true H) : tYes σ H QT := q
/-- a comprehension over a walk -/
theorem lc_go (hW : Wd W) (w : Walk J n Gw Y) (S : W G H L) (hn : n < 1000000) (It : Nat → V → Hp → Prop) (Inv : Nat → List V → Hp → Prop)
    (hG : ∀ H', Ex G H' → Gw H')
    (hY : ∀ i x G1 H1 H2 L1, i < n → Ex G G1 → W G1 H1 L1 → Y i H1 x H2 → ∃ G2, Ex G1 G2 ∧ W G2 H2 L1 ∧ It i x G2)
    (h0 : Inv 0 [] G) (hM : ∀ i acc G1 G2, Ex G1 G2 → Inv i acc G1 → Inv i acc G2)
    (hS : ∀ D i x acc G1 H1, i < n → acc.length ≤ i → Ex G G1 → W G1 H1 ((D, .lst acc) :: L) → Inv i acc G1 → It i x G1 → ∀ (Kp : VK) (Sk : Hp → Prop),
      (∀ v G2 H2, Ex G1 G2 → W G2 H2 ((D, .lst acc) :: L) → Inv (i + 1) (acc ++ [v]) G2 → Kp v H2) →
      (∀ G2 H2, Ex G1 G2 → W G2 H2 ((D, .lst acc) :: L) → Inv (i + 1) acc G2 → Sk H2) →
      g x (wipe σ vs) H1 fun σ2 H2 => wipe σ2 vs = wipe σ vs ∧ tt σ2 H2 fun b H3 => if b = true then te σ2 H3 Kp else Sk H3)
    (q : ∀ D acc G2 H2, Ex G G2 → W G2 H2 ((D, .lst acc) :: L) → Inv n acc G2 → acc.length ≤ n → Q (.ref D) H2) :
    LcG J g tt te vs σ H Q := by
  intro D hD
  refine lc_it w (fun i H' => ∃ G1 acc, Ex G G1 ∧ W G1 H' ((D, .lst acc) :: L) ∧ Inv i acc G1 ∧ acc.length ≤ i) ⟨G, [], Ex.refl G, hW.mk2 S hD, h0, Nat.le_refl _⟩
    (fun i H' _ ⟨G1, acc, e1, S1, _, _⟩ => hG H' (e1.trans (hW.ex S1))) (fun i x H1 H2 hi ⟨G1, acc, e1, S1, I1, l1⟩ y => ?_) (fun H' ⟨G1, acc, e1, S1, I1, l1⟩ => q D acc G1 H' e1 S1 I1 l1)
  obtain ⟨G2, e2, S2, it2⟩ := hY i x G1 H1 H2 _ hi e1 S1 y
  have hsz : sizeLine = 16777216 := sizeLine_eq
  refine hS D i x acc G2 H2 hi l1 (e1.trans e2) S2 (hM i acc G1 G2 e2 I1) it2 _ _ (fun v G3 H3 e3 S3 I3 => ?_) (fun G3 H3 e3 S3 I3 => ?_)
  · exact ⟨acc, hW.get S3, by omega, G3, acc ++ [v], e1.trans (e2.trans e3), hW.set S3, I3, by rw [List.length_append, List.length_singleton]; omega⟩
  · exact ⟨G3, acc, e1.trans (e2.trans e3), S3, I3, by omega⟩
end
/-! ### new objects -/
section
variable {W : Hp → Hp → List (Addr × HO) → Prop} {G H : Hp} {L : List (Addr × HO)} {o : HO} {Q : Addr → Prop} {xs : List V}
theorem mk_im (hW : Wd W) (S : W G H L) (q : ∀ p G', Ex G G' → W G' (upd H p o) L → G' p = some o → Q p) : ∀ p, H p = none → Q p := fun p hp =>
  q p _ (hW.newE S hp) (hW.new S hp) upd_same
theorem mk_mu (hW : Wd W) (S : W G H L) (q : ∀ p, W G (upd H p o) ((p, o) :: L) → Q p) : ∀ p, H p = none → Q p := fun p hp =>
  q p (hW.mk2 S hp)
theorem mk_lst (hW : Wd W) (S : W G H L) (hz : xs.length ≤ 100000) (q : ∀ p G', Ex G G' → W G' (upd H p (.lst xs)) L → G' p = some (.lst xs) → Q p) : xs.length ≤ sizeLine ∧ ∀ p, H p = none → Q p := ⟨sz_of hz, mk_im hW S q⟩
theorem mk_tup (hW : Wd W) (S : W G H L) (hz : xs.length ≤ 100000) (q : ∀ p G', Ex G G' → W G' (upd H p (.tup xs)) L → G' p = some (.tup xs) → Q p) : xs.length ≤ sizeLine ∧ ∀ p, H p = none → Q p := ⟨sz_of hz, mk_im hW S q⟩
theorem mk_lstM (hW : Wd W) (S : W G H L) (hz : xs.length ≤ 100000) (q : ∀ p, W G (upd H p (.lst xs)) ((p, .lst xs) :: L) → Q p) : xs.length ≤ sizeLine ∧ ∀ p, H p = none → Q p := ⟨sz_of hz, mk_mu hW S q⟩
end
/-! ### a for -/
section
variable {J : It} {n : Nat} {Gw : Hp → Prop} {Y : Nat → Hp → V → Hp → Prop} {G H : Hp} {σ : L2.St} {g : TG} {tb : TS} {D : Ends}
def ForG (J : It) (g : TG) (tb : TS) (D : Ends) (σ : L2.St) (H : Hp) : Prop := tFor (fun _ H R => R J H) g tb D σ H
theorem rd_for {wi : TI} (q : wi σ H fun J H1 => ForG J g tb D σ H1) : tFor wi g tb D σ H := q
theorem for_go (w : Walk J n Gw Y) (Inv : Nat → L2.St → Hp → Hp → Prop) (h0 : Inv 0 σ G H) (hG : ∀ i σ1 G1 H1, i ≤ n → Inv i σ1 G1 H1 → Gw H1)
    (hS : ∀ i x σ1 G1 H1 H2, i < n → Inv i σ1 G1 H1 → Y i H1 x H2 → ∀ N : L2.St → Hp → Prop, (∀ σ2 G2 H2, Inv (i + 1) σ2 G2 H2 → N σ2 H2) → g x σ1 H2 fun σ2 H3 => tb { D with nx := N, ct := N, bk := D.nx } σ2 H3)
    (hd : ∀ σ1 G1 H1, Inv n σ1 G1 H1 → D.nx σ1 H1) : ForG J g tb D σ H := by
  refine for_it w (fun i σ1 H1 => ∃ G1, Inv i σ1 G1 H1) ⟨G, h0⟩ (fun i σ1 H1 hi ⟨G1, h1⟩ => hG i σ1 G1 H1 hi h1) (fun i x σ1 H1 H2 hi ⟨G1, h1⟩ y => ?_) (fun σ1 H1 ⟨G1, h1⟩ => hd σ1 G1 H1 h1)
  exact hS i x σ1 G1 H1 H2 hi h1 y _ fun σ2 G2 H3 h2 => ⟨G2, h2⟩
end
/-! ### the sources -/
section
variable {K : PySem.W.Frag} {σ : L2.St} {H G : Hp} {a b : Addr} {xs ys : List V} {ta : TA} {te : TE} {R : It → Hp → Prop}
theorem rd_zipA (q : ta σ H fun vs H1 => ∃ a b xs ys, vs = [.ref a, .ref b] ∧ ((SqL K H1 a xs ∧ SqL K H1 b ys ∧ R (Itz K a b) H1) ∨ (SqT K H1 a xs ∧ SqT K H1 b ys ∧ R (ItzT K a b) H1))) : iZipA K ta σ H R := q
theorem rd_zipL {P : It → Prop} (h1 : SqL K H a xs) (h2 : SqL K H b ys) (q : P (Itz K a b)) : ∃ a' b' xs ys, [V.ref a, V.ref b] = [V.ref a', V.ref b'] ∧ ((SqL K H a' xs ∧ SqL K H b' ys ∧ P (Itz K a' b')) ∨ (SqT K H a' xs ∧ SqT K H b' ys ∧ P (ItzT K a' b'))) :=
  ⟨a, b, xs, ys, rfl, .inl ⟨h1, h2, q⟩⟩
theorem rd_zipT {P : It → Prop} (h1 : SqT K H a xs) (h2 : SqT K H b ys) (q : P (ItzT K a b)) : ∃ a' b' xs ys, [V.ref a, V.ref b] = [V.ref a', V.ref b'] ∧ ((SqL K H a' xs ∧ SqL K H b' ys ∧ P (Itz K a' b')) ∨ (SqT K H a' xs ∧ SqT K H b' ys ∧ P (ItzT K a' b'))) :=
  ⟨a, b, xs, ys, rfl, .inr ⟨h1, h2, q⟩⟩
theorem walk_zipT {n : Nat} (hn : n = min xs.length ys.length) : Walk (ItzT K a b) n (fun H => SqT K H a xs ∧ SqT K H b ys) (YPair (fun i => xs[i]?) (fun i => ys[i]?)) where
  goes := fun i _ hi hq =>
    have a1 : i < xs.length := by omega
    have a2 : i < ys.length := by omega
    ⟨xs, ys, _, _, hq.1, hq.2, List.getElem?_eq_getElem a1, List.getElem?_eq_getElem a2⟩
  stops := fun _ hq => ⟨xs, ys, hq.1, hq.2, by omega⟩
  yields := fun _ _ _ _ _ hq ⟨T, c, d, e1, e2, e3, e4, e5⟩ => ⟨T, c, d, e1, e2, e3, e4 xs hq.1, e5 ys hq.2⟩
def ItPair (K : PySem.W.Frag) (xs ys : Nat → Option V) (i : Nat) (x : V) (G : Hp) : Prop := ∃ T u w, x = .ref T ∧ SqT K G T [u, w] ∧ xs i = some u ∧ ys i = some w
theorem item_pair {W : Hp → Hp → List (Addr × HO) → Prop} (hW : Wd W) {xs ys : Nat → Option V} {i : Nat} {x : V} {G1 H1 H2 : Hp} {L1 : List (Addr × HO)} (S : W G1 H1 L1) (y : YPair xs ys i H1 x H2) :
    ∃ G2, Ex G1 G2 ∧ W G2 H2 L1 ∧ ItPair K xs ys i x G2 := by
  obtain ⟨T, u, z, rfl, hT, rfl, h1, h2⟩ := y
  exact ⟨_, hW.newE S hT, hW.new S hT, T, u, z, rfl, st_of upd_same, h1, h2⟩
theorem item_at {W : Hp → Hp → List (Addr × HO) → Prop} {i : Nat} {x : V} {G1 H1 H2 : Hp} {L1 : List (Addr × HO)} (S : W G1 H1 L1) (y : YAt xs i H1 x H2) :
    ∃ G2, Ex G1 G2 ∧ W G2 H2 L1 ∧ xs[i]? = some x := by
  obtain ⟨rfl, h⟩ := y
  exact ⟨G1, Ex.refl _, S, h⟩
theorem item_fn {W : Hp → Hp → List (Addr × HO) → Prop} {f : Nat → V} {i : Nat} {x : V} {G1 H1 H2 : Hp} {L1 : List (Addr × HO)} (S : W G1 H1 L1) (y : YFn f i H1 x H2) :
    ∃ G2, Ex G1 G2 ∧ W G2 H2 L1 ∧ x = f i := by
  obtain ⟨rfl, h⟩ := y
  exact ⟨G1, Ex.refl _, S, h⟩
/-- targets -/
theorem rd_gtup2 {i j : Nat} {T : Addr} {x y : V} {N : L2.St → Hp → Prop} (h : SqT K H T [x, y]) (q : N ((σ.set i (some x)).set j (some y)) H) : gTup K 2 (gCons (gName i) (gCons (gName j) gNil)) (.ref T) σ H N :=
  ⟨T, [x, y], rfl, h, rfl, x, [y], rfl, y, [], rfl, rfl, q⟩
end
section
variable {K : PySem.W.Frag} {σ : L2.St} {H : Hp} {a : Addr} {xs : List V} {te : TE} {R : It → Hp → Prop} {z : Str}
theorem rd_il (q : te σ H fun x H1 => ∃ a, x = .ref a ∧ (∃ xs, SqL K H1 a xs) ∧ R (Itl K a) H1) : iList K te σ H R := q
theorem rd_it (q : te σ H fun x H1 => ∃ a, x = .ref a ∧ (∃ xs, SqT K H1 a xs) ∧ R (Itt K a) H1) : iTup K te σ H R := q
theorem rd_is (q : te σ H fun x H1 => ∃ z, x = .str z ∧ R (Its z) H1) : iStr te σ H R := q
theorem rd_rng1 {ta : TA} (q : ta σ H fun vs H1 => ∃ j : Int, vs = [.int j] ∧ -(2 ^ 62) ≤ j ∧ j < 2 ^ 62 ∧ R (Itr 0 j.toNat) H1) : iRng1 ta σ H R := q
theorem rd_rng1i {P : It → Prop} {n : Int} (h1 : -(2 ^ 62) ≤ n) (h2 : n < 2 ^ 62) (q : P (Itr 0 n.toNat)) : ∃ j : Int, [V.int n] = [.int j] ∧ -(2 ^ 62) ≤ j ∧ j < 2 ^ 62 ∧ P (Itr 0 j.toNat) := ⟨n, rfl, h1, h2, q⟩
end

/-! The law's likeness of data. -/

mutual
def lk : PyData → PyData → Bool
  | .none, .none => true
  | .bool a, .bool b => decide (a = b)
  | .int a, .int b => decide (a = b)
  | .str a, .str b => decide (a = b)
  | .list xs, .list ys => lkAll xs ys
  | .tuple xs, .tuple ys => lkAll xs ys
  | _, _ => false
def lkAll : List PyData → List PyData → Bool
  | [], [] => true
  | x :: xs, y :: ys => lk x y && lkAll xs ys
  | _, _ => false
end
mutual
theorem lk_refl : ∀ d, PyData.plain d = true → lk d d = true
  | .none, _ => rfl
  | .bool b, _ => decide_eq_true rfl
  | .int i, _ => decide_eq_true rfl
  | .str s, _ => decide_eq_true rfl
  | .list xs, h => lkAll_refl xs h
  | .tuple xs, h => lkAll_refl xs h
  | .dict _, h => by cases h
theorem lkAll_refl : ∀ ds, PyData.plainAll ds = true → lkAll ds ds = true
  | [], _ => rfl
  | x :: xs, h => by
    have h' := Bool.and_eq_true_iff.mp (show (PyData.plain x && PyData.plainAll xs) = true from h)
    show (lk x x && lkAll xs xs) = true
    rw [lk_refl x h'.1, lkAll_refl xs h'.2]; rfl
end
mutual
theorem Dp.plain {K : PySem.W.Frag} {H : Hp} : ∀ (d : PyData) (v : V), Dp K H v d → PyData.plain d = true
  | .none, _, _ => rfl
  | .bool _, _, _ => rfl
  | .int _, _, _ => rfl
  | .str _, _, _ => rfl
  | .list ds, _, h => by cases h with | lst hs ha => exact DpAll.plain ds _ ha
  | .tuple ds, _, h => by cases h with | tup hs ha => exact DpAll.plain ds _ ha
  | .dict _, _, h => by cases h
theorem DpAll.plain {K : PySem.W.Frag} {H : Hp} : ∀ (ds : List PyData) (vs : List V), DpAll K H vs ds → PyData.plainAll ds = true
  | [], _, _ => rfl
  | d :: ds, _, h => by
    cases h with
    | cons h1 h2 =>
      show (PyData.plain d && PyData.plainAll ds) = true
      rw [Dp.plain d _ h1, DpAll.plain ds _ h2]; rfl
end
theorem lkAll_zip : ∀ (ds es : List PyData), ds.length = es.length → lkAll ds es = (List.zipWith lk ds es).all id
  | [], [], _ => rfl
  | d :: ds, e :: es, h => by
    show (lk d e && lkAll ds es) = (id (lk d e) && (List.zipWith lk ds es).all id)
    rw [lkAll_zip ds es (by simpa using h)]
    rfl
  | [], _ :: _, h => nomatch h
  | _ :: _, [], h => nomatch h
theorem lkAll_len : ∀ (ds es : List PyData), ds.length ≠ es.length → lkAll ds es = false
  | [], [], h => (h rfl).elim
  | d :: ds, e :: es, h => by
    show (lk d e && lkAll ds es) = false
    rw [lkAll_len ds es (fun z => h (by simp [z])), Bool.and_false]
  | [], _ :: _, _ => rfl
  | _ :: _, [], _ => rfl
/-! ### kinds -/
def tyN : PyData → String
  | .none => "NoneType"
  | .bool _ => "bool"
  | .int _ => "int"
  | .str _ => "str"
  | .list _ => "list"
  | .tuple _ => "tuple"
  | .dict _ => "dict"
theorem SqL.ty {K : PySem.W.Frag} {H : Hp} {a : Addr} {xs : List V} (h : SqL K H a xs) : TyX K H (.ref a) (.type "list") := by
  rcases h with (h | ⟨o, h⟩) | ⟨o, its, n, h1, h2, _⟩
  · exact .base (.lst h)
  · exact .base (.frz h)
  · exact .kList h1 h2
theorem SqT.ty {K : PySem.W.Frag} {H : Hp} {a : Addr} {xs : List V} (h : SqT K H a xs) : TyX K H (.ref a) (.type "tuple") := by
  rcases h with (h | ⟨o, h⟩) | ⟨o, its, n, h1, h2, _⟩
  · exact .base (.tup h)
  · exact .fTuple h
  · exact .kTuple h1 h2
theorem Dp.ty {K : PySem.W.Frag} {H : Hp} {v : V} {d : PyData} (h : Dp K H v d) : TyX K H v (.type (tyN d)) := by
  cases h with
  | non => exact .base .non
  | bl b => exact .base (.bl b)
  | int i => exact .base (.int i)
  | str x => exact .base (.str x)
  | lst hs _ => exact SqL.ty hs
  | tup hs _ => exact SqT.ty hs
theorem rd_isi {K : PySem.W.Frag} {H : Hp} {v : V} {d : PyData} {T : String} {b : Bool} {Q : VK} (h : Dp K H v d) (k : kitB (tyN d) T = some b) (q : Q (.bl b) H) : gIsi K [v, .ty T] H Q :=
  .inl ⟨v, .ty T, .type (tyN d), .type T, b, rfl, .ty T, Dp.ty h, kit_ty k, q⟩
theorem rd_isi2 {K : PySem.W.Frag} {H : Hp} {v : V} {d : PyData} {T U : String} {tp : Addr} {b c : Bool} {Q : VK} (ht : H tp = some (.tup [.ty T, .ty U])) (h : Dp K H v d) (k1 : kitB (tyN d) T = some b) (k2 : kitB (tyN d) U = some c) {r : Bool} (er : (b || c) = r) (q : Q (.bl r) H) : gIsi K [v, .ref tp] H Q :=
  .inr ⟨v, tp, [.ty T, .ty U], .type (tyN d), [.type T, .type U], b || c, rfl, ht, .cons (.ty T) (.cons (.ty U) .nil), Dp.ty h,
    kitAny_cons (kit_ty k1) (fun hb => by subst hb; exact kitAny_cons (kit_ty k2) (fun hc => by subst hc; exact kitAny_nil) (fun hc => by subst hc; rfl)) (fun hb => by subst hb; rfl), by rw [er]; exact q⟩
theorem Stt.less {G G' H : Hp} {L : List (Addr × HO)} (e : Ex G G') (S : Stt G' H L) : Stt G H L := ⟨e.trans S.ex, S.has, fun p hp => fresh_back e (S.out p hp), S.nd⟩
theorem kt_NoneType_bool : kitB "NoneType" "bool" = some false := by decide +kernel
theorem kt_NoneType_int : kitB "NoneType" "int" = some false := by decide +kernel
theorem kt_NoneType_str : kitB "NoneType" "str" = some false := by decide +kernel
theorem kt_NoneType_list : kitB "NoneType" "list" = some false := by decide +kernel
theorem kt_NoneType_tuple : kitB "NoneType" "tuple" = some false := by decide +kernel
theorem kt_bool_bool : kitB "bool" "bool" = some true := by decide +kernel
theorem kt_bool_int : kitB "bool" "int" = some true := by decide +kernel
theorem kt_bool_str : kitB "bool" "str" = some false := by decide +kernel
theorem kt_bool_list : kitB "bool" "list" = some false := by decide +kernel
theorem kt_bool_tuple : kitB "bool" "tuple" = some false := by decide +kernel
theorem kt_int_bool : kitB "int" "bool" = some false := by decide +kernel
theorem kt_int_int : kitB "int" "int" = some true := by decide +kernel
theorem kt_int_str : kitB "int" "str" = some false := by decide +kernel
theorem kt_int_list : kitB "int" "list" = some false := by decide +kernel
theorem kt_int_tuple : kitB "int" "tuple" = some false := by decide +kernel
theorem kt_str_bool : kitB "str" "bool" = some false := by decide +kernel
theorem kt_str_int : kitB "str" "int" = some false := by decide +kernel
theorem kt_str_str : kitB "str" "str" = some true := by decide +kernel
theorem kt_str_list : kitB "str" "list" = some false := by decide +kernel
theorem kt_str_tuple : kitB "str" "tuple" = some false := by decide +kernel
theorem kt_list_bool : kitB "list" "bool" = some false := by decide +kernel
theorem kt_list_int : kitB "list" "int" = some false := by decide +kernel
theorem kt_list_str : kitB "list" "str" = some false := by decide +kernel
theorem kt_list_list : kitB "list" "list" = some true := by decide +kernel
theorem kt_list_tuple : kitB "list" "tuple" = some false := by decide +kernel
theorem kt_tuple_bool : kitB "tuple" "bool" = some false := by decide +kernel
theorem kt_tuple_int : kitB "tuple" "int" = some false := by decide +kernel
theorem kt_tuple_str : kitB "tuple" "str" = some false := by decide +kernel
theorem kt_tuple_list : kitB "tuple" "list" = some false := by decide +kernel
theorem kt_tuple_tuple : kitB "tuple" "tuple" = some true := by decide +kernel
/-- nested less than n deep, no list of a million things -/
def fit : Nat → PyData → Prop
  | 0, _ => False
  | n + 1, .list es => es.length < 1000000 ∧ ∀ e, e ∈ es → fit n e
  | n + 1, .tuple es => es.length < 1000000 ∧ ∀ e, e ∈ es → fit n e
  | _ + 1, _ => True
def sp_like (K : PySem.W.Frag) (n : Nat) : Sp := fun vs H Q _ => ∃ (G : Hp) (L : List (Addr × HO)) (x y : V) (d e : PyData), vs = [x, y] ∧ Stt G H L ∧ Dp K G x d ∧ Dp K G y e ∧ fit n e ∧ (∀ H', Stt G H' L → Q (.bl (lk d e)) H')
def t_like_0a_1 (K : PySem.W.Frag) (n : Nat) : TS :=
  (tRet (tAndV (tOp (gEq K) (tCB (gLen K) (tCons (tVar 0) tNil)) (tCB (gLen K) (tCons (tVar 1) tNil))) (tCB (rAll K) (tCons (tLc (iZipA K (tCons (tVar 0) (tCons (tVar 1) tNil))) (gTup K 2 (gCons (gName 2) (gCons (gName 3) gNil))) tYes (tCall (sp_like K n) [] E0 (tCons (tVar 2) (tCons (tVar 3) tNil))) [2, 3]) tNil))))
def t_like_3 (K : PySem.W.Frag) (n : Nat) : TS :=
  (tRet (tAndV (tOp (gEq K) (tCB (gIsi K) (tCons (tVar 0) (tCons (tC (.ty "str")) tNil))) (tCB (gIsi K) (tCons (tVar 1) (tCons (tC (.ty "str")) tNil)))) (tOp (gEq K) (tVar 0) (tVar 1))))
def t_like_2 (K : PySem.W.Frag) (n : Nat) : TS :=
  (tSeq (tIfS (tOr (tTest (tOp (gNe K) (tCB (gIsi K) (tCons (tVar 0) (tCons (tC (.ty "bool")) tNil))) (tCB (gIsi K) (tCons (tVar 1) (tCons (tC (.ty "bool")) tNil))))) (tTest (tOp (gNe K) (tCB (gIsi K) (tCons (tVar 0) (tCons (tC (.ty "int")) tNil))) (tCB (gIsi K) (tCons (tVar 1) (tCons (tC (.ty "int")) tNil)))))) (tRet (tC (.bl false))) tNext)
  (t_like_3 K n))
def t_like_1 (K : PySem.W.Frag) (n : Nat) : TS :=
  (tSeq (tIfS (tOr (tTest (tOp rIsN (tVar 1) (tC .non))) (tTest (tOp rIsN (tVar 0) (tC .non)))) (tRet (tAndV (tOp rIsN (tVar 1) (tC .non)) (tOp rIsN (tVar 0) (tC .non)))) tNext)
  (t_like_2 K n))
def t_like (K : PySem.W.Frag) (n : Nat) : TS :=
  (tSeq (tIfS (tB (tCB (gIsi K) (tCons (tVar 1) (tCons (tTup (tCons (tC (.ty "list")) (tCons (tC (.ty "tuple")) tNil))) tNil)))) (tSeq (tIfS (tOr (tTest (tOp (gNe K) (tCB (gIsi K) (tCons (tVar 0) (tCons (tC (.ty "list")) tNil))) (tCB (gIsi K) (tCons (tVar 1) (tCons (tC (.ty "list")) tNil))))) (tTest (tOp (gNe K) (tCB (gIsi K) (tCons (tVar 0) (tCons (tC (.ty "tuple")) tNil))) (tCB (gIsi K) (tCons (tVar 1) (tCons (tC (.ty "tuple")) tNil)))))) (tRet (tC (.bl false))) tNext)
  (t_like_0a_1 K n)) tNext)
  (t_like_1 K n))
local macro_rules | `(tactic| walk_at "kt") => `(tactic| first
  | exact kt_NoneType_bool
  | exact kt_NoneType_int
  | exact kt_NoneType_str
  | exact kt_NoneType_list
  | exact kt_NoneType_tuple
  | exact kt_bool_bool
  | exact kt_bool_int
  | exact kt_bool_str
  | exact kt_bool_list
  | exact kt_bool_tuple
  | exact kt_int_bool
  | exact kt_int_int
  | exact kt_int_str
  | exact kt_int_list
  | exact kt_int_tuple
  | exact kt_str_bool
  | exact kt_str_int
  | exact kt_str_str
  | exact kt_str_list
  | exact kt_str_tuple
  | exact kt_list_bool
  | exact kt_list_int
  | exact kt_list_str
  | exact kt_list_list
  | exact kt_list_tuple
  | exact kt_tuple_bool
  | exact kt_tuple_int
  | exact kt_tuple_str
  | exact kt_tuple_list
  | exact kt_tuple_tuple)
local macro_rules | `(tactic| walk_at "dp") => `(tactic| first
  | exact Dp.non | exact Dp.bl _ | exact Dp.int _ | exact Dp.str _ | assumption | exact Dp.ex (Stt.ex (by assumption)) _ _ (by assumption))
local macro_rules | `(tactic| walk_at "isi") => `(tactic| ((with_reducible refine' rd_isi ?h ?k ?_); (case h => walk_at "dp"); (case k => walk_at "kt")))
theorem read_like_list {K : PySem.W.Frag} {n : Nat} {G H : Hp} {L : List (Addr × HO)} {x y : V} {ds : List PyData} {es : List PyData} {D : Ends} {s2 s3 : Option V} (S : Stt G H L) (hx : Dp K G x (.list ds)) (hy : Dp K G y (.list es)) (hz : es.length < 1000000) (hn : ∀ e, e ∈ es → fit n e)
    (q : ∀ H', Stt G H' L → D.rt (.bl (lkAll ds es)) H') : t_like_0a_1 K n D [some x, some y, s2, s3] H := by
  unfold t_like_0a_1
  cases hx with
  | @lst a xs _ ha hA =>
  cases hy with
  | @lst b ys _ hb hB =>
  walk_at "go"
  refine rd_lenL (ex_l S.ex ha) ?_
  walk_at "go"
  refine rd_lenL (ex_l S.ex hb) ?_
  have hl1 := DpAll.length hA
  have hl2 := DpAll.length hB
  walk_at "go"
  refine rd_dec (fun e => ?_) (fun e => ?_)
  · have hl : ds.length = es.length := by omega
    walk_at "go"
    refine rd_lc ?_
    refine rd_zipA ?_
    walk_at "go"
    refine ⟨_, _, _, _, rfl, .inl ⟨ex_l S.ex ha, ex_l S.ex hb, ?_⟩⟩
    refine lc_go stt_world (walk_zip (n := ds.length) (by omega)) S (by omega) (ItPair K (fun i => xs[i]?) (fun i => ys[i]?)) (fun i acc _ => acc = (List.zipWith (fun d e => V.bl (lk d e)) ds es).take i)
      (fun H' e' => ⟨ex_l e' ha, ex_l e' hb⟩) (fun i x G1 H1 H2 L1 _ e1 S1 y => item_pair stt_world S1 y) rfl (fun _ _ _ _ _ h => h) ?_ ?_
    · intro D i x acc G1 H1 hi hacc e1 S1 I1 it Kp Sk kp sk
      obtain ⟨T, u, w, rfl, hT, hu, hw⟩ := it
      obtain ⟨d1, hd1, dp1⟩ := DpAll.get hA hu
      obtain ⟨d2, hd2, dp2⟩ := DpAll.get hB hw
      refine rd_gtup2 (ex_t S1.ex hT) ⟨rfl, ?_⟩
      refine rd_yes (rd_iT ?_)
      walk_at "go"
      refine ⟨G1, _, u, w, d1, d2, rfl, S1, Dp.ex e1 _ _ dp1, Dp.ex e1 _ _ dp2, hn d2 (List.mem_of_getElem? hd2), fun H2 S2 => kp _ G1 H2 (Ex.refl _) S2 ?_⟩
      rw [I1, List.take_add_one, List.getElem?_zipWith, hd1, hd2]
      rfl
    · intro D acc G2 H2 e2 S2 I2 _
      have hacc : acc = (List.zipWith lk ds es).map V.bl := by
        rw [I2, List.map_zipWith, List.take_of_length_le (by rw [List.length_zipWith]; omega)]
      subst hacc
      walk_at "go"
      refine rd_all (sq_of (S2.at 0 rfl)) ?_
      have := q H2 (S2.drop.less e2)
      rw [lkAll_zip ds es hl] at this
      exact this
  · walk_at "go"
    have := q H S
    rw [lkAll_len ds es (by omega)] at this
    exact this
theorem read_like_tup {K : PySem.W.Frag} {n : Nat} {G H : Hp} {L : List (Addr × HO)} {x y : V} {ds : List PyData} {es : List PyData} {D : Ends} {s2 s3 : Option V} (S : Stt G H L) (hx : Dp K G x (.tuple ds)) (hy : Dp K G y (.tuple es)) (hz : es.length < 1000000) (hn : ∀ e, e ∈ es → fit n e)
    (q : ∀ H', Stt G H' L → D.rt (.bl (lkAll ds es)) H') : t_like_0a_1 K n D [some x, some y, s2, s3] H := by
  unfold t_like_0a_1
  cases hx with
  | @tup a xs _ ha hA =>
  cases hy with
  | @tup b ys _ hb hB =>
  walk_at "go"
  refine rd_lenT (ex_t S.ex ha) ?_
  walk_at "go"
  refine rd_lenT (ex_t S.ex hb) ?_
  have hl1 := DpAll.length hA
  have hl2 := DpAll.length hB
  walk_at "go"
  refine rd_dec (fun e => ?_) (fun e => ?_)
  · have hl : ds.length = es.length := by omega
    walk_at "go"
    refine rd_lc ?_
    refine rd_zipA ?_
    walk_at "go"
    refine ⟨_, _, _, _, rfl, .inr ⟨ex_t S.ex ha, ex_t S.ex hb, ?_⟩⟩
    refine lc_go stt_world (walk_zipT (n := ds.length) (by omega)) S (by omega) (ItPair K (fun i => xs[i]?) (fun i => ys[i]?)) (fun i acc _ => acc = (List.zipWith (fun d e => V.bl (lk d e)) ds es).take i)
      (fun H' e' => ⟨ex_t e' ha, ex_t e' hb⟩) (fun i x G1 H1 H2 L1 _ e1 S1 y => item_pair stt_world S1 y) rfl (fun _ _ _ _ _ h => h) ?_ ?_
    · intro D i x acc G1 H1 hi hacc e1 S1 I1 it Kp Sk kp sk
      obtain ⟨T, u, w, rfl, hT, hu, hw⟩ := it
      obtain ⟨d1, hd1, dp1⟩ := DpAll.get hA hu
      obtain ⟨d2, hd2, dp2⟩ := DpAll.get hB hw
      refine rd_gtup2 (ex_t S1.ex hT) ⟨rfl, ?_⟩
      refine rd_yes (rd_iT ?_)
      walk_at "go"
      refine ⟨G1, _, u, w, d1, d2, rfl, S1, Dp.ex e1 _ _ dp1, Dp.ex e1 _ _ dp2, hn d2 (List.mem_of_getElem? hd2), fun H2 S2 => kp _ G1 H2 (Ex.refl _) S2 ?_⟩
      rw [I1, List.take_add_one, List.getElem?_zipWith, hd1, hd2]
      rfl
    · intro D acc G2 H2 e2 S2 I2 _
      have hacc : acc = (List.zipWith lk ds es).map V.bl := by
        rw [I2, List.map_zipWith, List.take_of_length_le (by rw [List.length_zipWith]; omega)]
      subst hacc
      walk_at "go"
      refine rd_all (sq_of (S2.at 0 rfl)) ?_
      have := q H2 (S2.drop.less e2)
      rw [lkAll_zip ds es hl] at this
      exact this
  · walk_at "go"
    have := q H S
    rw [lkAll_len ds es (by omega)] at this
    exact this
local macro_rules | `(tactic| walk_at "gk") => `(tactic| repeat (first | walk_at "go1" | walk_at "isi" | walk_at "dec"))
theorem read_like {K : PySem.W.Frag} {n : Nat} {G H : Hp} {L : List (Addr × HO)} {x y : V} {d e : PyData} {D : Ends} {s2 s3 : Option V} (S : Stt G H L) (hx : Dp K G x d) (hy : Dp K G y e) (hn : fit (n + 1) e)
    (q : ∀ H', Stt G H' L → D.rt (.bl (lk d e)) H') : t_like K n D [some x, some y, s2, s3] H := by
  unfold t_like
  walk_at "gk"
  refine ⟨(by decide : 2 ≤ sizeLine), fun p hp => ?_⟩
  have S1 := S.new (o := .tup [.ty "list", .ty "tuple"]) hp
  have e1 := S.newE (o := .tup [.ty "list", .ty "tuple"]) hp
  have q1 : ∀ H', Stt (upd G p (.tup [.ty "list", .ty "tuple"])) H' L → D.rt (.bl (lk d e)) H' := fun H' S' => q H' (S'.less e1)
  have hx1 := Dp.ex e1 _ _ hx
  have hy1 := Dp.ex e1 _ _ hy
  have hp1 : upd H p (.tup [.ty "list", .ty "tuple"]) p = some (.tup [.ty "list", .ty "tuple"]) := upd_same
  generalize upd G p (.tup [.ty "list", .ty "tuple"]) = G1 at *
  generalize upd H p (.tup [.ty "list", .ty "tuple"]) = H1 at *
  clear hx hy q S e1 hp
  walk_at "go"
  have hy2 := Dp.ex S1.ex _ _ hy1
  cases e with
  | list es =>
    refine rd_isi2 hp1 hy2 kt_list_list kt_list_tuple (r := true) rfl ?_
    walk_at "gk"
    cases d with
    | list ds =>
      walk_at "gk"
      exact read_like_list S1 hx1 hy1 hn.1 hn.2 q1
    | dict _ => cases hx1
    | _ =>
      walk_at "gk"
      exact q1 _ S1
  | tuple es =>
    refine rd_isi2 hp1 hy2 kt_tuple_list kt_tuple_tuple (r := true) rfl ?_
    walk_at "gk"
    cases d with
    | tuple ds =>
      walk_at "gk"
      exact read_like_tup S1 hx1 hy1 hn.1 hn.2 q1
    | dict _ => cases hx1
    | _ =>
      walk_at "gk"
      exact q1 _ S1
  | dict _ => cases hy1
  | none =>
    refine rd_isi2 hp1 hy2 kt_NoneType_list kt_NoneType_tuple (r := false) rfl ?_
    walk_at "gk"
    try dsimp only
    unfold t_like_1
    have hx2 := Dp.ex S1.ex _ _ hx1
    cases hy1
    cases d with
    | dict _ => cases hx1
    | _ =>
      cases hx1
      all_goals (walk_at "gk")
      all_goals (try dsimp only)
      all_goals first
        | exact q1 _ S1
        | (unfold t_like_2; walk_at "gk"; (try dsimp only); first | exact q1 _ S1 | (unfold t_like_3; walk_at "gk"; exact q1 _ S1))
  | bool b =>
    refine rd_isi2 hp1 hy2 kt_bool_list kt_bool_tuple (r := false) rfl ?_
    walk_at "gk"
    try dsimp only
    unfold t_like_1
    have hx2 := Dp.ex S1.ex _ _ hx1
    cases hy1
    cases d with
    | dict _ => cases hx1
    | _ =>
      cases hx1
      all_goals (walk_at "gk")
      all_goals (try dsimp only)
      all_goals first
        | exact q1 _ S1
        | (unfold t_like_2; walk_at "gk"; (try dsimp only); first | exact q1 _ S1 | (unfold t_like_3; walk_at "gk"; exact q1 _ S1))
  | int b =>
    refine rd_isi2 hp1 hy2 kt_int_list kt_int_tuple (r := false) rfl ?_
    walk_at "gk"
    try dsimp only
    unfold t_like_1
    have hx2 := Dp.ex S1.ex _ _ hx1
    cases hy1
    cases d with
    | dict _ => cases hx1
    | _ =>
      cases hx1
      all_goals (walk_at "gk")
      all_goals (try dsimp only)
      all_goals first
        | exact q1 _ S1
        | (unfold t_like_2; walk_at "gk"; (try dsimp only); first | exact q1 _ S1 | (unfold t_like_3; walk_at "gk"; exact q1 _ S1))
  | str b =>
    refine rd_isi2 hp1 hy2 kt_str_list kt_str_tuple (r := false) rfl ?_
    walk_at "gk"
    try dsimp only
    unfold t_like_1
    have hx2 := Dp.ex S1.ex _ _ hx1
    cases hy1
    cases d with
    | dict _ => cases hx1
    | _ =>
      cases hx1
      all_goals (walk_at "gk")
      all_goals (try dsimp only)
      all_goals first
        | exact q1 _ S1
        | (unfold t_like_2; walk_at "gk"; (try dsimp only); first | exact q1 _ S1 | (unfold t_like_3; walk_at "gk"; exact q1 _ S1))


theorem Stt.swap {G H : Hp} {x y : Addr × HO} {L : List (Addr × HO)} (S : Stt G H (x :: y :: L)) : Stt G H (y :: x :: L) := by
  have m : ∀ p, p ∈ y :: x :: L → p ∈ x :: y :: L := fun p hp => (List.Perm.swap x y L).mem_iff.mp hp
  refine ⟨S.ex, fun p hp => S.has p (m p hp), fun p hp => S.out p (m p hp), ?_⟩
  have h := S.nd
  simp only [List.map_cons, List.nodup_cons, List.mem_cons] at h ⊢
  exact ⟨fun z => z.elim (fun z => h.1 (.inl z.symm)) h.2.1, fun z => h.1 (.inr z), h.2.2⟩
theorem Bag.ex {K : PySem.W.Frag} {G H : Hp} {b : Addr} {L : List (Addr × HO)} (B : Bag K G H b L) : Ex G H := by
  obtain ⟨_, _, _, _, _, _, S, _⟩ := B
  exact S.ex
theorem bag_world (K : PySem.W.Frag) (b : Addr) : Wd fun G H L => Bag K G H b L where
  ex := Bag.ex
  new := fun ⟨c, i, r, x, n, ns, S, hc, h⟩ hp => ⟨c, i, r, x, n, ns, S.new hp, ex_l (S.newE hp) hc, h⟩
  mk2 := fun ⟨c, i, r, x, n, ns, S, hc, h⟩ hp => ⟨c, i, r, x, n, ns, (S.mkL hp).swap, hc, h⟩
  get := fun ⟨c, i, r, x, n, ns, S, hc, h⟩ => S.at 1 rfl
  set := fun ⟨c, i, r, x, n, ns, S, hc, h⟩ => ⟨c, i, r, x, n, ns, S.wr 1 rfl, hc, h⟩
  free := fun ⟨c, i, r, x, n, ns, S, hc, h⟩ hp => S.free hp
  drop := fun ⟨c, i, r, x, n, ns, S, hc, h⟩ => ⟨c, i, r, x, n, ns, S.swap.drop, hc, h⟩
  frz := fun ⟨c, i, r, x, n, ns, S, hc, h⟩ => ⟨⟨c, i, r, x, n, ns, S.swap.frz, ex_l S.swap.frzE hc, h⟩, S.swap.frzE⟩
/-- with the bag: what leaves all that may change keeps the bag -/
theorem Bag.stt {K : PySem.W.Frag} {G H : Hp} {b : Addr} {L : List (Addr × HO)} (B : Bag K G H b L) : ∃ M, Stt G H M ∧ ∀ G' H', Ex G G' → Stt G' H' M → Bag K G' H' b L := by
  obtain ⟨c, i, r, x, n, ns, S, hc, h⟩ := B
  exact ⟨_, S, fun G' H' e S' => ⟨c, i, r, x, n, ns, S', ex_l e hc, h⟩⟩
theorem cutV_take (ns : List Int) : cutV (ns.map V.int) none (some 63) = (ns.take 63).map V.int := by
  unfold cutV
  rw [HT.sIx_none, show HT.sIx (ns.map V.int).length (ns.map V.int).length (some 63) = min 63 (ns.map V.int).length from HT.sIx_nat _ _ 63]
  rw [List.drop_zero, Nat.sub_zero, List.map_take, ← List.take_take, List.take_length]
def sp_open (K : PySem.W.Frag) : Sp := fun vs H Q _ => ∃ (a : Addr) (ns : List Int) (G : Hp) (L : List (Addr × HO)), vs = [.ref a] ∧ Stt G H L ∧ SqL K G a (ns.map V.int) ∧ (∀ b G' H', Ex G G' → Bag K G' H' b L → Q (.ref b) H')
def t_open (K : PySem.W.Frag) : TS :=
  (tRet (tLst (tCons (tCB (gList K) (tCons (tSl (gSl K) (tVar 0) tNoPart (tPart (tC (.int 63)))) tNil)) (tCons (tC (.int 0)) (tCons (tC (.int 0)) (tCons (tC (.int 120121)) (tCons (tC (.int 0)) tNil)))))))
theorem read_open {K : PySem.W.Frag} {a : Addr} {ns : List Int} {G H : Hp} {L : List (Addr × HO)} {D : Ends} (S : Stt G H L) (ha : SqL K G a (ns.map V.int)) (q : ∀ b G' H', Ex G G' → Bag K G' H' b L → D.rt (.ref b) H') : t_open K D [some (.ref a)] H := by
  unfold t_open
  walk_at "go"
  refine rd_slL (ex_l S.ex ha) fun p hp => ?_
  have S1 := S.new (o := .lst (cutV (ns.map V.int) none (some 63))) hp
  have e1 := S.newE (o := .lst (cutV (ns.map V.int) none (some 63))) hp
  have h1 : upd H p (.lst (cutV (ns.map V.int) none (some 63))) p = some (.lst ((ns.take 63).map V.int)) := by rw [upd_same, cutV_take]
  walk_at "go"
  refine ⟨p, _, rfl, .inl (sq_of h1), fun c hc => ?_⟩
  have S2 := S1.new (o := .lst ((ns.take 63).map V.int)) hc
  have e2 := S1.newE (o := .lst ((ns.take 63).map V.int)) hc
  walk_at "go"
  refine ⟨by show 5 ≤ sizeLine; decide, fun b hb => ?_⟩
  have S3 := S2.mkL (o := .lst [.ref c, .int 0, .int 0, .int 120121, .int 0]) hb
  exact q b _ _ (e1.trans e2) ⟨c, 0, 0, 120121, 0, ns.take 63, S3, sq_of upd_same, by decide, by decide, by decide, by decide, by decide⟩
/-- one of some things -/
def sp_of (K : PySem.W.Frag) : Sp := fun vs H Q _ => ∃ (b a : Addr) (xs : List V) (G : Hp) (L : List (Addr × HO)), vs = [.ref b, .ref a] ∧ Bag K G H b L ∧ (∀ H', Bag K G H' b L → SqL K H' a xs ∨ SqT K H' a xs) ∧ 0 < xs.length ∧ xs.length < 1000000 ∧
  (∀ x H', x ∈ xs → Bag K G H' b L → Q x H')
def t_of (K : PySem.W.Frag) : TS :=
  (tRet (tOp (rIx K) (tVar 1) (tCall (sp_draw K) [] E0 (tCons (tVar 0) (tCons (tCB (gLen K) (tCons (tVar 1) tNil)) tNil)))))
theorem read_of {K : PySem.W.Frag} {b a : Addr} {xs : List V} {G H : Hp} {L : List (Addr × HO)} {D : Ends} (B : Bag K G H b L) (hs : ∀ H', Bag K G H' b L → SqL K H' a xs ∨ SqT K H' a xs) (h0 : 0 < xs.length) (h1 : xs.length < 1000000)
    (q : ∀ x H', x ∈ xs → Bag K G H' b L → D.rt x H') : t_of K D [some (.ref b), some (.ref a)] H := by
  unfold t_of
  walk_at "go"
  refine ⟨.ref a, xs.length, rfl, ?_, ?_⟩
  · rcases hs H B with h | h
    · exact .inl ⟨xs, h, rfl⟩
    · exact .inr ⟨xs, h, rfl⟩
  walk_at "go"
  refine ⟨b, _, G, L, rfl, by omega, by omega, B, fun d H' d0 d1 B' => ?_⟩
  obtain ⟨j, rfl⟩ : ∃ j : Nat, d = (j : Int) := ⟨d.toNat, by omega⟩
  have hj : j < xs.length := by omega
  have hat : atI xs (j : Int) = some xs[j] := atI_nat (List.getElem?_eq_getElem hj)
  rcases hs H' B' with h | h
  · exact rd_ixL h hat (q _ _ (List.getElem_mem hj) B')
  · exact rd_ixT h hat (q _ _ (List.getElem_mem hj) B')
theorem sat_draw {K : PySem.W.Frag} {vs : List V} {H : Hp} {Q : VK} {E : XK} (h : sp_draw K vs H Q E) : vs.length = 2 ∧ t_draw K { nx := fun _ H' => Q .non H', rt := Q } (vs.map some ++ List.replicate (5 - vs.length) none) H := by
  obtain ⟨b, m, G, L, rfl, m0, m1, B, q⟩ := h
  exact ⟨rfl, read_draw m0 m1 B q⟩
theorem sat_open {K : PySem.W.Frag} {vs : List V} {H : Hp} {Q : VK} {E : XK} (h : sp_open K vs H Q E) : vs.length = 1 ∧ t_open K { nx := fun _ H' => Q .non H', rt := Q } (vs.map some ++ List.replicate (1 - vs.length) none) H := by
  obtain ⟨a, ns, G, L, rfl, S, ha, q⟩ := h
  exact ⟨rfl, read_open S ha q⟩
theorem sat_of {K : PySem.W.Frag} {vs : List V} {H : Hp} {Q : VK} {E : XK} (h : sp_of K vs H Q E) : vs.length = 2 ∧ t_of K { nx := fun _ H' => Q .non H', rt := Q } (vs.map some ++ List.replicate (2 - vs.length) none) H := by
  obtain ⟨b, a, xs, G, L, rfl, B, hs, h0, h1, q⟩ := h
  exact ⟨rfl, read_of B hs h0 h1 q⟩
theorem never_like (K : PySem.W.Frag) : ∀ vs H Q E, sp_like K 0 vs H Q E → False := fun _ _ _ _ ⟨_, _, _, _, _, _, _, _, _, _, h, _⟩ => h
theorem sat_like {K : PySem.W.Frag} {n : Nat} {vs : List V} {H : Hp} {Q : VK} {E : XK} (h : sp_like K (n + 1) vs H Q E) : vs.length = 2 ∧ t_like K n { nx := fun _ H' => Q .non H', rt := Q } (vs.map some ++ List.replicate (4 - vs.length) none) H := by
  obtain ⟨G, L, x, y, d, e, rfl, S, hx, hy, hn, q⟩ := h
  exact ⟨rfl, read_like S hx hy hn q⟩

/-! One of some things, or of a text's signs. -/

def sp_ofS (K : PySem.W.Frag) : Sp := fun vs H Q _ => ∃ (b : Addr) (y : V) (G : Hp) (L : List (Addr × HO)), vs = [.ref b, y] ∧ Bag K G H b L ∧
  ((∃ (a : Addr) (xs : List V), y = .ref a ∧ (∀ H', Bag K G H' b L → SqL K H' a xs ∨ SqT K H' a xs) ∧ 0 < xs.length ∧ xs.length < 1000000 ∧ (∀ x H', x ∈ xs → Bag K G H' b L → Q x H')) ∨
   (∃ z : Str, y = .str z ∧ 0 < z.length ∧ z.length < 1000000 ∧ (∀ c H', c ∈ z.cps.toList → Bag K G H' b L → Q (.str ⟨#[c]⟩) H')))
def t_ofS (K : PySem.W.Frag) : TS :=
  (tRet (tOp (rIx K) (tVar 1) (tCall (sp_draw K) [] E0 (tCons (tVar 0) (tCons (tCB (gLen K) (tCons (tVar 1) tNil)) tNil)))))
theorem read_ofS {K : PySem.W.Frag} {b : Addr} {z : Str} {G H : Hp} {L : List (Addr × HO)} {D : Ends} (B : Bag K G H b L) (h0 : 0 < z.length) (h1 : z.length < 1000000)
    (q : ∀ c H', c ∈ z.cps.toList → Bag K G H' b L → D.rt (.str ⟨#[c]⟩) H') : t_ofS K D [some (.ref b), some (.str z)] H := by
  have hz : z.length ≤ sizeLine := by have : sizeLine = 16777216 := sizeLine_eq; omega
  unfold t_ofS
  walk_at "go"
  refine rd_lenS hz ?_
  walk_at "go"
  refine ⟨b, _, G, L, rfl, by omega, by omega, B, fun d H' d0 d1 B' => ?_⟩
  obtain ⟨j, rfl⟩ : ∃ j : Nat, d = (j : Int) := ⟨d.toNat, by omega⟩
  have hj : j < z.cps.toList.length := by
    have : z.cps.toList.length = z.length := Array.length_toList ..
    omega
  exact rd_ixS hz (atI_nat (List.getElem?_eq_getElem hj)) (q _ _ (List.getElem_mem hj) B')
theorem sat_ofS {K : PySem.W.Frag} {vs : List V} {H : Hp} {Q : VK} {E : XK} (h : sp_ofS K vs H Q E) : vs.length = 2 ∧ t_ofS K { nx := fun _ H' => Q .non H', rt := Q } (vs.map some ++ List.replicate (2 - vs.length) none) H := by
  obtain ⟨b, y, G, L, rfl, B, h⟩ := h
  rcases h with ⟨a, xs, rfl, hs, h0, h1, q⟩ | ⟨z, rfl, h0, h1, q⟩
  · exact ⟨rfl, read_of B hs h0 h1 q⟩
  · exact ⟨rfl, read_ofS B h0 h1 q⟩

/-! Comprehensions over lists and tuples by plain functions. -/
section
variable {W : Hp → Hp → List (Addr × HO) → Prop} {K : PySem.W.Frag} {G H : Hp} {L : List (Addr × HO)} {σ : L2.St} {te : TE} {tt : TT} {Q : VK} {a : Addr} {xs : List V} {j : Nat}
theorem lc_mapJ (hW : Wd W) {J : It} {Gw : Hp → Prop} (w : Walk J xs.length Gw (YAt xs)) (S : W G H L) (hg : ∀ H', Ex G H' → Gw H') (hz : xs.length < 1000000) (hw : ∀ x, wipe ((wipe σ [j]).set j (some x)) [j] = wipe σ [j]) (f : V → V)
    (hS : ∀ x acc D G1 H1, x ∈ xs → Ex G G1 → W G1 H1 ((D, .lst acc) :: L) → ∀ Kp : VK, (∀ H2, W G1 H2 ((D, .lst acc) :: L) → Kp (f x) H2) → te ((wipe σ [j]).set j (some x)) H1 Kp)
    (q : ∀ D G2 H2, Ex G G2 → W G2 H2 ((D, .lst (xs.map f)) :: L) → Q (.ref D) H2) : LcG J (gName j) tYes te [j] σ H Q := by
  refine lc_go hW w S hz (fun i v _ => xs[i]? = some v) (fun i acc _ => acc = (xs.take i).map f) hg
    (fun i x G1 H1 H2 L1 _ e1 S1 y => item_at S1 y) rfl (fun _ _ _ _ _ h => h) ?_ ?_
  · intro D i x acc G1 H1 hi _ e1 S1 I1 it Kp Sk kp sk
    refine rd_name ⟨hw x, rd_yes (rd_iT ?_)⟩
    refine hS x acc D G1 H1 (List.mem_of_getElem? it) e1 S1 _ fun H2 S2 => kp _ G1 H2 (Ex.refl _) S2 ?_
    rw [I1, List.take_add_one, it, List.map_append]
    rfl
  · intro D acc G2 H2 e2 S2 I2 _
    rw [List.take_length] at I2
    subst I2
    exact q D G2 H2 e2 S2
theorem lc_filterJ (hW : Wd W) {J : It} {Gw : Hp → Prop} (w : Walk J xs.length Gw (YAt xs)) (S : W G H L) (hg : ∀ H', Ex G H' → Gw H') (hz : xs.length < 1000000) (hw : ∀ x, wipe ((wipe σ [j]).set j (some x)) [j] = wipe σ [j]) (f : V → V) (p : V → Bool)
    (hT : ∀ x acc D G1 H1, x ∈ xs → Ex G G1 → W G1 H1 ((D, .lst acc) :: L) → ∀ Kt : Bool → Hp → Prop, (∀ H2, W G1 H2 ((D, .lst acc) :: L) → Kt (p x) H2) → tt ((wipe σ [j]).set j (some x)) H1 Kt)
    (hS : ∀ x acc D G1 H1, x ∈ xs → p x = true → Ex G G1 → W G1 H1 ((D, .lst acc) :: L) → ∀ Kp : VK, (∀ H2, W G1 H2 ((D, .lst acc) :: L) → Kp (f x) H2) → te ((wipe σ [j]).set j (some x)) H1 Kp)
    (q : ∀ D G2 H2, Ex G G2 → W G2 H2 ((D, .lst ((xs.filter p).map f)) :: L) → Q (.ref D) H2) : LcG J (gName j) tt te [j] σ H Q := by
  refine lc_go hW w S hz (fun i v _ => xs[i]? = some v) (fun i acc _ => acc = ((xs.take i).filter p).map f) hg
    (fun i x G1 H1 H2 L1 _ e1 S1 y => item_at S1 y) rfl (fun _ _ _ _ _ h => h) ?_ ?_
  · intro D i x acc G1 H1 hi _ e1 S1 I1 it Kp Sk kp sk
    refine rd_name ⟨hw x, ?_⟩
    have e : (xs.take (i + 1)).filter p = (xs.take i).filter p ++ (if p x = true then [x] else []) := by
      rw [List.take_add_one, it, List.filter_append, show (some x).toList = [x] from rfl, List.filter_cons, List.filter_nil]
    refine hT x acc D G1 H1 (List.mem_of_getElem? it) e1 S1 _ fun H2 S2 => ?_
    by_cases hp : p x = true
    · rw [if_pos hp]
      rw [if_pos hp] at e
      refine hS x acc D G1 H2 (List.mem_of_getElem? it) hp e1 S2 _ fun H3 S3 => kp _ G1 H3 (Ex.refl _) S3 ?_
      rw [I1, e, List.map_append]
      rfl
    · rw [if_neg hp]
      rw [if_neg hp] at e
      refine sk G1 H2 (Ex.refl _) S2 ?_
      rw [I1, e, List.append_nil]
  · intro D acc G2 H2 e2 S2 I2 _
    rw [List.take_length] at I2
    subst I2
    exact q D G2 H2 e2 S2
/-- n values told by a world that draws -/
theorem lc_draws (hW : Wd W) {n : Nat} {lo : Int} (S : W G H L) (hz : n < 1000000) (hw : ∀ x, wipe ((wipe σ [j]).set j (some x)) [j] = wipe σ [j]) (P : V → Prop)
    (hS : ∀ i acc D G1 H1, i < n → Ex G G1 → W G1 H1 ((D, .lst acc) :: L) → ∀ Kp : VK, (∀ v G2 H2, Ex G1 G2 → W G2 H2 ((D, .lst acc) :: L) → P v → Kp v H2) → te ((wipe σ [j]).set j (some (.int (lo + (i : Nat))))) H1 Kp)
    (q : ∀ D vs G2 H2, Ex G G2 → W G2 H2 ((D, .lst vs) :: L) → vs.length = n → (∀ v, v ∈ vs → P v) → Q (.ref D) H2) : LcG (Itr lo n) (gName j) tYes te [j] σ H Q := by
  refine lc_go hW walk_range S hz (fun i v _ => v = .int (lo + (i : Nat))) (fun i acc _ => acc.length = i ∧ ∀ v, v ∈ acc → P v) (fun _ _ => True.intro)
    (fun i x G1 H1 H2 L1 _ e1 S1 y => item_fn S1 y) ⟨rfl, fun _ h => by cases h⟩ (fun _ _ _ _ _ h => h) ?_ ?_
  · intro D i x acc G1 H1 hi _ e1 S1 I1 it Kp Sk kp sk
    subst it
    refine rd_name ⟨hw _, rd_yes (rd_iT ?_)⟩
    refine hS i acc D G1 H1 hi e1 S1 _ fun v G2 H2 e2 S2 hv => kp v G2 H2 e2 S2 ⟨by rw [List.length_append, I1.1]; rfl, fun u hu => ?_⟩
    cases List.mem_append.mp hu with
    | inl h => exact I1.2 u h
    | inr h => rw [List.mem_singleton.mp h]; exact hv
  · intro D acc G2 H2 e2 S2 I2 _
    exact q D acc G2 H2 e2 S2 I2.1 I2.2
end
theorem len_snoc {α : Type} (l : List α) (a : α) : (l ++ [a]).length = l.length + 1 := List.length_append
theorem in_two {α : Type} {x a : α} {l : List α} (h : x ∈ a :: l) : x = a ∨ x ∈ l := List.mem_cons.mp h
theorem dec_iff {p q : Prop} [Decidable p] [Decidable q] (h : p ↔ q) : decide p = decide q := decide_eq_decide.mpr h
/-! ### scalars -/
/-- a value: a number or None -/
def oV : Option Int → V
  | none => .non
  | some i => .int i
def oD : Option Int → PyData
  | none => .none
  | some i => .int i
theorem oDp {K : PySem.W.Frag} {H : Hp} : ∀ a : Option Int, Dp K H (oV a) (oD a)
  | none => .non
  | some i => .int i
theorem oDps {K : PySem.W.Frag} {H : Hp} : ∀ l : List (Option Int), DpAll K H (l.map oV) (l.map oD)
  | [] => .nil
  | a :: l => .cons (oDp a) (oDps l)
theorem o_eqv (a b : Option Int) : PyData.eqv (oD a) (oD b) = decide (a = b) := by
  cases a <;> cases b
  · rfl
  · rfl
  · rfl
  · rename_i x y
    show (x == y) = decide (some x = some y)
    by_cases h : x = y
    · subst h; rw [beq_self_eq_true, decide_eq_true rfl]
    · rw [decide_eq_false (fun z => h (Option.some.inj z))]; exact beq_eq_false_iff_ne.mpr h
theorem o_shaped (a : Option Int) : SeqAt.shaped (oD a) = true := by cases a <;> rfl
theorem o_canLay : ∀ l : List (Option Int), PyData.canLayAll0 (l.map oD) = true
  | [] => rfl
  | a :: l => by
    show (PyData.canLay0 (oD a) && PyData.canLayAll0 (l.map oD)) = true
    rw [o_canLay l]
    cases a <;> rfl
theorem o_depth : ∀ l : List (Option Int), PyData.depthAll (l.map oD) = 0
  | [] => rfl
  | a :: l => by
    show max (PyData.depth (oD a)) (PyData.depthAll (l.map oD)) = 0
    rw [o_depth l]
    cases a <;> rfl
theorem os_shaped (l : List (Option Int)) : SeqAt.shaped (.list (l.map oD)) = true := by
  unfold SeqAt.shaped
  rw [show PyData.canLay0 (.list (l.map oD)) = PyData.canLayAll0 (l.map oD) from rfl, o_canLay, show PyData.depth (.list (l.map oD)) = PyData.depthAll (l.map oD) + 1 from rfl, o_depth]
  rfl
theorem os_eqv : ∀ l m : List (Option Int), PyData.eqv (.list (l.map oD)) (.list (m.map oD)) = decide (l = m)
  | [], [] => rfl
  | [], _ :: _ => rfl
  | _ :: _, [] => rfl
  | a :: l, b :: m => by
    show (PyData.eqv (oD a) (oD b) && PyData.eqv (.list (l.map oD)) (.list (m.map oD))) = _
    rw [o_eqv, os_eqv l m]
    by_cases h : a = b
    · by_cases h2 : l = m
      · subst h h2; simp
      · rw [decide_eq_false h2, decide_eq_false (fun z => h2 (List.cons.inj z).2), Bool.and_false]
    · rw [decide_eq_false h, decide_eq_false (fun z => h (List.cons.inj z).1), Bool.false_and]
theorem fit_scal {n : Nat} {d : PyData} (h : ∀ es, d ≠ .list es ∧ d ≠ .tuple es) : fit (n + 1) d := by
  cases d with
  | list es => exact ((h es).1 rfl).elim
  | tuple es => exact ((h es).2 rfl).elim
  | _ => exact True.intro
theorem fit_os (n : Nat) (l : List (Option Int)) (h : l.length < 1000000) : fit (n + 2) (.list (l.map oD)) := ⟨by rw [List.length_map]; exact h, fun e he => by
  obtain ⟨a, _, rfl⟩ := List.mem_map.mp he
  cases a <;> exact True.intro⟩
theorem fit_bools (n : Nat) (l : List Bool) (h : l.length < 1000000) : fit (n + 2) (.list (l.map PyData.bool)) := ⟨by rw [List.length_map]; exact h, fun e he => by
  obtain ⟨a, _, rfl⟩ := List.mem_map.mp he
  exact True.intro⟩

/-! Calls with keywords alone; defs made callable. -/
/-- n keyword values, put in the parameters' order -/
def gPV {α : Type} (n : Nat) (perm : List Nat) (vs zs : List α) : List α := if vs.length = 0 ∧ zs.length = n then perm.filterMap fun i => zs[i]? else []
theorem gPV_rel {n : Nat} {perm : List Nat} {vs zs : List V} {us ws : List Value} (r : Vals vs us) (q : Vals zs ws) : Vals (gPV n perm vs zs) (gPV n perm us ws) := by
  have h1 := r.length
  have h2 := q.length
  unfold gPV
  by_cases h : vs.length = 0 ∧ zs.length = n
  · rw [if_pos h, if_pos ⟨by rw [← h1]; exact h.1, by rw [← h2]; exact h.2⟩]
    induction perm with
    | nil => exact .nil
    | cons i perm ih =>
      rw [List.filterMap_cons, List.filterMap_cons]
      cases e : zs[i]? with
      | none =>
        rw [Vals.none_of q e]
        exact ih
      | some x =>
        obtain ⟨u, hu, ru⟩ := Vals.get q e
        rw [hu]
        exact .cons ru ih
  · rw [if_neg h, if_neg (fun z => h ⟨by rw [h1]; exact z.1, by rw [h2]; exact z.2⟩)]
    exact .nil
structure CalK (P : Program) (w : World) (K : PySem.W.Frag) (mg : Str → Option Value) (base : Heap) (k : Nat) (x : Str) (sp : Sp) (ks : List Str) (perm : List Nat) : Prop where
  ex : ∃ (f : Addr) (fd : FuncData) (ps : List Str), FnOk P w K mg base CX0 k f fd ps sp ∧ mg x = some (.ref f) ∧ PySem.W.keepIn K (.ref f) = true ∧ KBinds K fd ps ks (gPV ks.length perm) (gPV ks.length perm)
theorem calK_mk {P : Program} {w : World} {K : PySem.W.Frag} {mg : Str → Option Value} {base : Heap} {k : Nat} {x qual : Str} {st : Stmt} {f : Addr} {fd : FuncData} {ps ks : List Str} {perm : List Nat} {sp : Sp} (F : Fun K x qual st f fd) (G : FnOk P w K mg base CX0 k f fd ps sp) (g : mg x = some (.ref f)) (h0 : 0 < ps.length)
    (h : ∀ (kV doc pm : Value) (an : Option Addr) (cdv ct : Value) (ws : List Value), ws.length = ks.length → bindArgs (PySem.W.fnOf x qual (defArgs st) (defBody st) (defScope st) .none kV doc pm an cdv ct) ⟨[], ks.zip ws⟩ = pure (ps.zip (gPV ks.length perm [] ws))) : CalK P w K mg base k x sp ks perm := by
  have ⟨_, _, kV, doc, pm, an, cdv, ct, _, hfd, _, _⟩ := F.ex
  subst hfd
  refine ⟨f, _, ps, G, g, F.kp, ⟨fun s us ws _ hl => ?_, gPV_rel⟩⟩
  by_cases c : us.length = 0 ∧ ws.length = ks.length
  · have hu : us = [] := List.length_eq_zero_iff.mp c.1
    subst hu
    exact .of_eq (h kV doc pm an cdv ct ws c.2)
  · unfold gPV at hl
    rw [if_neg c] at hl
    exact absurd hl (by simp; omega)
section
variable {X : Cx} {k j : Nat} {x : Str} {sp : Sp} {ks : List Str} {perm : List Nat} {p pos : Pos} {kws : List Keyword} {tk : TA}
/-- a call by its name, all its values by keyword -/
theorem pe_cK (c : CalK X.prog X.w X.K X.mg X.base k x sp ks perm) (hr : Room j X.A) (hk : k ≤ j) (hg : Gl X x) (hkw : PK X kws tk)
    (named : (backToKw pos (keywordEach kws X.env)).all (·.1.isSome) = true := by rfl)
    (names : (backToKw pos (keywordEach kws X.env)).filterMap (·.1) = ks := by rfl)
    (nodb : (x == ("__debug__" : Str)) = false := by decide)
    (noStar : ((backTo pos (starEach [] X.env)).any (·.1)
      || (backToKw pos (keywordEach kws X.env)).any (·.1.isNone)) = false := by rfl) :
    PE X (.Call (.Name x p) [] kws pos) (tCallK sp (gPV ks.length perm) E0 tNil tk) := by
  have ⟨f, fd, ps, ok, hmg, hkeep, hbinds⟩ := c.ex
  constructor
  intro pins s σ H Q hI hQ
  apply wpAny_Call_Name_kw (ld_glob hI hg hmg ?_ nodb)
  apply PySem.W.callWith_KW0 (h₀ := X.base) hI.ok.mod.kin hkeep named ?_ noStar
  apply thn (hkw.run pos pins s σ H _ hI hQ)
  rintro ws s2 ⟨zs, H2, hI2, hz, hQ2⟩
  constructor
  · exact hI2.kIn
  · rw [names]
    exact run_fnk ok (hr.mono hk) hbinds pass0 hI2 .nil hz hQ2
end
/-- a def that keeps its promise, made callable -/
theorem cal_mk {P : Program} {w : World} {K : PySem.W.Frag} {mg : Str → Option Value} {base : Heap} {k : Nat} {x qual : Str} {st : Stmt} {f : Addr} {fd : FuncData} {ps : List Str} {sp : Sp} (F : Fun K x qual st f fd) (G : FnOk P w K mg base CX0 k f fd ps sp) (g : mg x = some (.ref f))
    (h : ∀ (kV doc pm : Value) (an : Option Addr) (cdv ct : Value) (us : List Value), us.length = ps.length → bindArgs (PySem.W.fnOf x qual (defArgs st) (defBody st) (defScope st) .none kV doc pm an cdv ct) ⟨us, []⟩ = pure (ps.zip us)) : C8.Cal P w K mg base k x sp [] :=
  ⟨f, fd, ps, [], G, g, F.kp, F.binds h, .nil⟩
theorem fnOk_never {P : Program} {w : World} {K : PySem.W.Frag} {mg : Str → Option Value} {base : Heap} {k : Nat} {f : Addr} {fd : FuncData} {ps : List Str} {sp : Sp} (h : ∀ vs H Q E, sp vs H Q E → False) : FnOk P w K mg base CX0 k f fd ps sp :=
  ⟨fun vs H Q E z => (h vs H Q E z).elim, fun _ _ _ _ _ _ _ _ _ _ _ _ _ z => (h _ _ _ _ z).elim⟩

/-! Built-ins with one keyword; max and min of numbers with a default. -/
def CallKR (X : Cx) (f : Value) (kn : Str) (r : V → V → Hp → VK → Prop) : Prop :=
  ∀ (pins : List (Addr × Obj)) (s : Shared) (σ : L2.St) (H : Hp) (x d : V) (v w : Value) (Q : VK), Inv X pins σ H s → RelV x v → RelV d w → r x d H Q →
    wpAny (model X.prog X.w) X.A (call f [v] [(kn, w)]) (EP X pins σ Q) X.xe s
def tBK (r : V → V → Hp → VK → Prop) (t tk : TA) : TE := fun σ H Q => t σ H fun vs H1 => tk σ H1 fun zs H2 => ∃ a d, vs = [a] ∧ zs = [d] ∧ r a d H2 Q
theorem rd_bk {r : V → V → Hp → VK → Prop} {t tk : TA} {σ : L2.St} {H : Hp} {Q : VK} (q : t σ H fun vs H1 => tk σ H1 fun zs H2 => ∃ a d, vs = [a] ∧ zs = [d] ∧ r a d H2 Q) : tBK r t tk σ H Q := q
theorem rd_bk1 {P : V → V → Prop} {a d : V} (q : P a d) : ∃ a' d', [a] = [a'] ∧ [d] = [d'] ∧ P a' d' := ⟨a, d, rfl, rfl, q⟩
theorem pe_bK {X : Cx} {id : String} {kn x : Str} {p pos : Pos} {e : Expr} {kws : List Keyword} {t tk : TA} {r : V → V → Hp → VK → Prop} (hc : CallKR X (.builtin id) kn r) (hg : Gl X x) (hm : X.mg x = none) (hv : bootBuiltins x = some (.builtin id))
    (ha : PA X [e] t) (hk : PK X kws tk)
    (hks : (backToKw pos (keywordEach kws X.env)).filterMap (·.1) = [kn] := by rfl)
    (hn : x ≠ "__name__" := by decide) (hdb : (x == ("__debug__" : Str)) = false := by decide)
    (he : backTo pos (starEach [e] X.env) = (false, eval e X.env) :: backTo pos (starEach [] X.env) := by rfl) (hpl : (backTo pos (starEach [e] X.env)).any (·.1) = false := by rfl)
    (hall : (backToKw pos (keywordEach kws X.env)).all (·.1.isSome) = true := by rfl) (hno : (backToKw pos (keywordEach kws X.env)).any (·.1.isNone) = false := by rfl) :
    PE X (.Call (.Name x p) [e] kws pos) (tBK r t tk) := by
  constructor
  intro pins s σ H Q hI hQ
  apply wpAny_Call_Name_kw (ld_blt hI hg hm hv ?_ hn hdb)
  apply PyProof.Rows.callWith_kw ?_ he hpl hall hno
  apply thn (ha.run pos pins s σ H _ hI hQ)
  rintro us s1 ⟨vs, H1, hI1, r1, q1⟩
  apply thn (hk.run pos pins s1 σ H1 _ hI1 q1)
  rintro ws s2 ⟨zs, H2, hI2, r2, a, d, rfl, rfl, q⟩
  rw [hks]
  match r1, r2 with
  | .cons ra .nil, .cons rd .nil => exact hc pins s2 σ H2 a d _ _ Q hI2 ra rd q
def foldMax : List Int → Option Int
  | [] => none
  | n :: r => some (r.foldl max n)
def foldMin : List Int → Option Int
  | [] => none
  | n :: r => some (r.foldl min n)
def rMaxD (K : PySem.W.Frag) : V → V → Hp → VK → Prop := fun x d H Q => ∃ (a : Addr) (ns : List Int), x = .ref a ∧ SqL K H a (ns.map V.int) ∧ Q ((foldMax ns).elim d V.int) H
def rMinD (K : PySem.W.Frag) : V → V → Hp → VK → Prop := fun x d H Q => ∃ (a : Addr) (ns : List Int), x = .ref a ∧ SqL K H a (ns.map V.int) ∧ Q ((foldMin ns).elim d V.int) H
theorem depth_ints : ∀ ns : List Int, PyData.depthAll (ns.map PyData.int) = 0
  | [] => rfl
  | n :: ns => by
    show max 0 (PyData.depthAll (ns.map PyData.int)) = 0
    rw [depth_ints ns]; rfl
theorem alike_ints (ns : List Int) : PySem.W.AlikeAll (ns.map PyData.int) := by
  refine ⟨fun x hx y hy => ?_, fun x hx => ?_⟩
  · have ⟨_, _, h1⟩ := List.mem_map.mp hx
    have ⟨_, _, h2⟩ := List.mem_map.mp hy
    subst h1; subst h2; rfl
  · have ⟨_, _, h1⟩ := List.mem_map.mp hx
    subst h1
    exact fun z => nomatch z
theorem ck_max {X : Cx} (hc : X.calm = true) (hu : X.A.units + 64 < cLine) : CallKR X (.builtin "max") "default" (rMaxD X.K) := by
  rintro pins s σ H x d v w Q hI rx rd ⟨a, ns, rfl, hs, q⟩
  have ⟨its, rv, hl, _⟩ := hI.list hs
  cases rx
  have ⟨as, hr⟩ := Dp.readsAll hI _ _ its (DpAll.ints (K := X.K) (H := H) ns) rv
  have room : PyData.depthAll (ns.map PyData.int) = 0 := depth_ints ns
  apply PySem.W.max_list_default (hI.ok.hd hc) hl.isList hr (alike_ints ns) (by omega)
  · intro e h' tk hk
    cases List.map_eq_nil_iff.mp e
    exact ⟨_, H, hI.kept hk, rd, q⟩
  · intro y ys i v h' tk bs e hi r hk
    match ns, e with
    | n :: r2, e =>
      have ⟨e1, e2⟩ := List.cons.inj e
      subst e1 e2
      rw [PySem.W.maxD_ints] at r
      cases r
      exact ⟨.int (r2.foldl max n), H, hI.kept hk, ⟨_, rfl⟩, q⟩
theorem ck_min {X : Cx} (hc : X.calm = true) (hu : X.A.units + 64 < cLine) : CallKR X (.builtin "min") "default" (rMinD X.K) := by
  rintro pins s σ H x d v w Q hI rx rd ⟨a, ns, rfl, hs, q⟩
  have ⟨its, rv, hl, _⟩ := hI.list hs
  cases rx
  have ⟨as, hr⟩ := Dp.readsAll hI _ _ its (DpAll.ints (K := X.K) (H := H) ns) rv
  have room : PyData.depthAll (ns.map PyData.int) = 0 := depth_ints ns
  apply PySem.W.min_list_default (hI.ok.hd hc) hl.isList hr (alike_ints ns) (by omega)
  · intro e h' tk hk
    cases List.map_eq_nil_iff.mp e
    exact ⟨_, H, hI.kept hk, rd, q⟩
  · intro y ys i v h' tk bs e hi r hk
    match ns, e with
    | n :: r2, e =>
      have ⟨e1, e2⟩ := List.cons.inj e
      subst e1 e2
      rw [PySem.W.minD_ints] at r
      cases r
      exact ⟨.int (r2.foldl min n), H, hI.kept hk, ⟨_, rfl⟩, q⟩
def rMin2 : List V → Hp → VK → Prop := fun xs H Q => ∃ i j, xs = [.int i, .int j] ∧ Q (.int (if j < i then j else i)) H
theorem cg_max2 {X : Cx} (hc : X.calm = true) : CallR X (.builtin "max") Evl.rMax2 := call_max2 hc
theorem cg_min2 {X : Cx} (hc : X.calm = true) : CallR X (.builtin "min") rMin2 := call_min2 hc


def before : Option Int → Option Int → Bool
  | none, none => false
  | none, some _ => true
  | some _, none => false
  | some x, some y => decide (x < y)
def sp_is_before (K : PySem.W.Frag) : Sp := fun vs H Q _ => ∃ a b, vs = [oV a, oV b] ∧ Q (.bl (before a b)) H
def t_is_before_1 (K : PySem.W.Frag) : TS :=
  (tRet (tCB gBool (tCons (tOp (gLt K) (tVar 0) (tVar 1)) tNil)))
def t_is_before (K : PySem.W.Frag) : TS :=
  (tSeq (tIfS (tOr (tTest (tOp rIsN (tVar 0) (tC .non))) (tTest (tOp rIsN (tVar 1) (tC .non)))) (tRet (tAndV (tOp rIsN (tVar 0) (tC .non)) (tOp rNotN (tVar 1) (tC .non)))) tNext)
  (t_is_before_1 K))
theorem read_is_before {K : PySem.W.Frag} {a b : Option Int} {H : Hp} {D : Ends} (q : D.rt (.bl (before a b)) H) : t_is_before K D [some (oV a), some (oV b)] H := by
  unfold t_is_before
  cases a <;> cases b <;> (dsimp only [oV]; walk_at "go"; (repeat (first | walk_at "dec" | walk_at "go1")); (try dsimp only); (try unfold t_is_before_1); (repeat walk_at "go1"); exact q)
theorem sat_is_before {K : PySem.W.Frag} {vs : List V} {H : Hp} {Q : VK} {E : XK} (h : sp_is_before K vs H Q E) : vs.length = 2 ∧ t_is_before K { nx := fun _ H' => Q .non H', rt := Q } (vs.map some ++ List.replicate (2 - vs.length) none) H := by
  obtain ⟨a, b, rfl, q⟩ := h
  exact ⟨rfl, read_is_before q⟩
theorem before_self : ∀ a : Option Int, before a a = false
  | none => rfl
  | some x => decide_eq_false (by omega)

/-! Numbers, values, stretches. -/

local macro_rules | `(tactic| walk_at "kt") => `(tactic| first
  | exact kt_NoneType_bool
  | exact kt_NoneType_int
  | exact kt_NoneType_str
  | exact kt_NoneType_list
  | exact kt_NoneType_tuple
  | exact kt_bool_bool
  | exact kt_bool_int
  | exact kt_bool_str
  | exact kt_bool_list
  | exact kt_bool_tuple
  | exact kt_int_bool
  | exact kt_int_int
  | exact kt_int_str
  | exact kt_int_list
  | exact kt_int_tuple
  | exact kt_str_bool
  | exact kt_str_int
  | exact kt_str_str
  | exact kt_str_list
  | exact kt_str_tuple
  | exact kt_list_bool
  | exact kt_list_int
  | exact kt_list_str
  | exact kt_list_list
  | exact kt_list_tuple
  | exact kt_tuple_bool
  | exact kt_tuple_int
  | exact kt_tuple_str
  | exact kt_tuple_list
  | exact kt_tuple_tuple)
local macro_rules | `(tactic| walk_at "dp") => `(tactic| first
  | exact Dp.non | exact Dp.bl _ | exact Dp.int _ | exact Dp.str _ | assumption | exact Dp.ex (Stt.ex (by assumption)) _ _ (by assumption))
local macro_rules | `(tactic| walk_at "isi") => `(tactic| ((with_reducible refine' rd_isi ?h ?k ?_); (case h => walk_at "dp"); (case k => walk_at "kt")))
local macro_rules | `(tactic| walk_at "gk") => `(tactic| repeat (first | walk_at "go1" | walk_at "isi" | walk_at "dec"))
local macro_rules | `(tactic| walk_at "dc") => `(tactic| first
  | ((with_reducible refine rd_dec (fun e => ?aa) (fun e => ?bb)); (case aa => first | (exfalso; revert e; decide) | (exfalso; cases e; done) | exact absurd rfl e))
  | ((with_reducible refine rd_dec (fun e => ?aa) (fun e => ?bb)); (case bb => first | (exfalso; revert e; decide) | (exfalso; cases e; done) | exact absurd rfl e))
  | ((with_reducible refine rd_decN (fun e => ?aa) (fun e => ?bb)); (case aa => first | (exfalso; revert e; decide) | (exfalso; cases e; done) | exact absurd rfl e))
  | ((with_reducible refine rd_decN (fun e => ?aa) (fun e => ?bb)); (case bb => first | (exfalso; revert e; decide) | (exfalso; cases e; done) | exact absurd rfl e)))
local macro_rules | `(tactic| walk_at "gc") => `(tactic| (repeat (first | walk_at "go1" | walk_at "isi" | walk_at "dc")); (try dsimp only))

def isNum : PyData → Bool
  | .int _ => true
  | _ => false
def isVal : PyData → Bool
  | .none => true
  | .int _ => true
  | _ => false
def sp_is_number (K : PySem.W.Frag) : Sp := fun vs H Q _ => ∃ (x : V) (d : PyData), vs = [x] ∧ Dp K H x d ∧ Q (.bl (isNum d)) H
def t_is_number (K : PySem.W.Frag) : TS :=
  (tRet (tAndV (tCB (gIsi K) (tCons (tVar 0) (tCons (tC (.ty "int")) tNil))) (tNotV (tCB (gIsi K) (tCons (tVar 0) (tCons (tC (.ty "bool")) tNil))))))
theorem read_is_number {K : PySem.W.Frag} {x : V} {d : PyData} {H : Hp} {D : Ends} (hx : Dp K H x d) (q : D.rt (.bl (isNum d)) H) : t_is_number K D [some x] H := by
  unfold t_is_number
  cases d with
  | dict _ => cases hx
  | _ =>
    walk_at "gk"
    exact q
theorem sat_is_number {K : PySem.W.Frag} {vs : List V} {H : Hp} {Q : VK} {E : XK} (h : sp_is_number K vs H Q E) : vs.length = 1 ∧ t_is_number K { nx := fun _ H' => Q .non H', rt := Q } (vs.map some ++ List.replicate (1 - vs.length) none) H := by
  obtain ⟨x, d, rfl, hx, q⟩ := h
  exact ⟨rfl, read_is_number hx q⟩
def sp_is_value (K : PySem.W.Frag) : Sp := fun vs H Q _ => ∃ (x : V) (d : PyData), vs = [x] ∧ Dp K H x d ∧ Q (.bl (isVal d)) H
def t_is_value (K : PySem.W.Frag) : TS :=
  (tRet (tOrV (tOp rIsN (tVar 0) (tC .non)) (tCall (sp_is_number K) [] E0 (tCons (tVar 0) tNil))))
theorem read_is_value {K : PySem.W.Frag} {x : V} {d : PyData} {H : Hp} {D : Ends} (hx : Dp K H x d) (q : D.rt (.bl (isVal d)) H) : t_is_value K D [some x] H := by
  unfold t_is_value
  cases d with
  | dict _ => cases hx
  | none =>
    cases hx
    walk_at "gk"
    exact q
  | _ =>
    have hx' := hx
    cases hx
    walk_at "gk"
    exact ⟨_, _, rfl, hx', q⟩
theorem sat_is_value {K : PySem.W.Frag} {vs : List V} {H : Hp} {Q : VK} {E : XK} (h : sp_is_value K vs H Q E) : vs.length = 1 ∧ t_is_value K { nx := fun _ H' => Q .non H', rt := Q } (vs.map some ++ List.replicate (1 - vs.length) none) H := by
  obtain ⟨x, d, rfl, hx, q⟩ := h
  exact ⟨rfl, read_is_value hx q⟩

/-! Readings with a stronger promise behind them; the empty text's join. -/
section
variable {X : Cx}
/-- with a stronger promise behind it -/
def tUp (te : TE) : TE := fun σ H Q => ∃ Q2 : VK, te σ H Q2 ∧ ∀ x H1, Q2 x H1 → Q x H1
theorem pe_up {e : Expr} {te : TE} (h : PE X e te) : PE X e (tUp te) := by
  constructor
  rintro pins s σ H Q hI ⟨Q2, hq, imp⟩
  exact thn (h.run pins s σ H Q2 hI hq) fun v s1 ⟨x, H1, hI1, hr, q⟩ => ⟨x, H1, hI1, hr, imp x H1 q⟩
theorem pe_weak {e : Expr} {t t2 : TE} (h : PE X e t) (imp : ∀ σ H Q, t2 σ H Q → t σ H Q) : PE X e t2 := ⟨fun pins s σ H Q hI hq => h.run pins s σ H Q hI (imp σ H Q hq)⟩
/-- "".join(xs) -/
def JoinG (K : PySem.W.Frag) (x : V) (H : Hp) (Q : VK) : Prop := ∃ (p : Addr) (ys : List Str), x = .ref p ∧ SqL K H p (ys.map V.str) ∧ (ys.map (·.length)).sum ≤ 1000000 ∧ Q (.str (Txt.join "" ys)) H
def tJoin0 (K : PySem.W.Frag) (te : TE) : TE := fun σ H Q => te σ H fun x H1 => JoinG K x H1 Q
theorem rd_join {K : PySem.W.Frag} {te : TE} {σ : L2.St} {H : Hp} {Q : VK} (q : te σ H fun x H1 => JoinG K x H1 Q) : tJoin0 K te σ H Q := q
theorem pe_join0 {e : Expr} {te : TE} {k : Nat} {p0 apos pos : Pos} (he : PE X e te)
    (hs : starEach [e] X.env = [(false, eval e X.env)] := by rfl)
    (hbase : attributeBase (.Constant (.str "") k p0) "join" X.env (eval (.Constant (.str "") k p0) X.env) = eval (.Constant (.str "") k p0) X.env := by rfl)
    (hline : (apos.endLine == pos.line) = true := by rfl) :
    PE X (.Call (.Attribute (.Constant (.str "") k p0) "join" apos) [e] [] pos) (tJoin0 X.K te) := by
  refine pe_weak (pe_join pe_str (pe_up he) hs hbase hline) fun σ H Q h => ⟨⟨_, rfl⟩, _, h, ?_⟩
  rintro x H1 ⟨p, ys, rfl, hs, hl, q⟩
  refine ⟨"", p, ys, rfl, rfl, .inl hs, ?_, q⟩
  rw [show ("" : Str).length = 0 from rfl, Nat.mul_zero]
  omega
end

/-! Names: short texts of letters that are no words. -/


def letters : Str := "abcdefghijklmnopqrstuvwxyz"
def v_LETTERS : V := .str "abcdefghijklmnopqrstuvwxyz"
def v_MOST_LETTERS : V := .int 8
def c_WORDS : List Str := ["all", "and", "any", "for", "if", "lacks", "none", "not", "or", "where", "with"]
def v_WORDS (K : PySem.W.Frag) : V := match PySem.W.nsIn K mainGlobals "WORDS" with
  | some (some (.ref a)) => .ref a
  | _ => .non
/-- the words stand on the heap -/
class Consts (K : PySem.W.Frag) : Prop where
  words : ∃ a, v_WORDS K = .ref a ∧ ∀ H, SqT K H a (c_WORDS.map V.str)
def nameS (z : Str) : Bool := decide ((1 : Int) ≤ z.length) && (decide ((z.length : Int) ≤ 8) && (!inV (.str z) (c_WORDS.map V.str) && z.cps.toList.all fun c => decide (c ∈ letters.cps.toList)))
def isName : PyData → Bool
  | .str z => nameS z
  | _ => false
/-- a text is not too long -/
def shortS : PyData → Prop
  | .str z => z.length < 100000
  | _ => True
def sp_is_name (K : PySem.W.Frag) : Sp := fun vs H Q _ => ∃ (x : V) (d : PyData) (G : Hp) (L : List (Addr × HO)), vs = [x] ∧ Stt G H L ∧ Dp K G x d ∧ shortS d ∧ (∀ H', Stt G H' L → Q (.bl (isName d)) H')
def t_is_name_1 (K : PySem.W.Frag) : TS :=
  (tRet (tCB (rAll K) (tCons (tLc (iStr (tVar 0)) (gName 1) tYes (tOp (gIn K) (tVar 1) (tC v_LETTERS)) [1]) tNil)))
def t_is_name (K : PySem.W.Frag) : TS :=
  (tSeq (tIfS (tOr (tNot (tB (tCB (gIsi K) (tCons (tVar 0) (tCons (tC (.ty "str")) tNil))))) (tOr (tNot (tTest (tChain (rI0 fun i j => .bl (decide (i ≤ j))) (rI0 fun i j => .bl (decide (i ≤ j))) (tC (.int 1)) (tCB (gLen K) (tCons (tVar 0) tNil)) (tC v_MOST_LETTERS)))) (tTest (tOp (gIn K) (tVar 0) (tC (v_WORDS K)))))) (tRet (tC (.bl false))) tNext)
  (t_is_name_1 K))
theorem rd_chain {r r' : R2} {ta tb tc : TE} {σ : L2.St} {H : Hp} {Q : VK} (q : ta σ H fun x H1 => tb σ H1 fun y H2 => r x y H2 fun z H3 => ∃ k, z = .bl k ∧ (if k = true then tc σ H3 fun w H4 => r' y w H4 Q else Q (.bl false) H3)) : tChain r r' ta tb tc σ H Q := q
theorem rd_inT {K : PySem.W.Frag} {x : V} {a : Addr} {xs : List V} {H : Hp} {Q : VK} (h : SqT K H a xs) (f : flatV x = true) (fs : xs.all flatV = true) (q : Q (.bl (inV x xs)) H) : gIn K x (.ref a) H Q := .inr ⟨a, xs, rfl, .inr h, f, fs, q⟩
theorem rd_inS {K : PySem.W.Frag} {c : Nat} {z : Str} {H : Hp} {Q : VK} (q : Q (.bl (decide (c ∈ z.cps.toList))) H) : gIn K (.str ⟨#[c]⟩) (.str z) H Q := .inl ⟨c, z, rfl, rfl, q⟩
theorem read_is_name {K : PySem.W.Frag} [CK : Consts K] {x : V} {d : PyData} {G H : Hp} {L : List (Addr × HO)} {D : Ends} {a1 : Option V} (S : Stt G H L) (hx : Dp K G x d) (hz : shortS d) (q : ∀ H', Stt G H' L → D.rt (.bl (isName d)) H') : t_is_name K D [some x, a1] H := by
  unfold t_is_name
  cases d with
  | dict _ => cases hx
  | str z =>
    cases hx
    have hz' : z.length < 100000 := hz
    have hz2 : z.length ≤ sizeLine := sz_of (by omega)
    obtain ⟨W, hW, hWs⟩ := CK.words
    rw [hW]
    walk_at "gc"
    refine rd_chain ?_
    walk_at "gc"
    refine rd_lenS hz2 ?_
    walk_at "gc"
    have hq : ∀ H', Stt G H' L → D.rt (.bl (nameS z)) H' := q
    unfold nameS at hq
    refine rd_dec (fun e1 => ?_) (fun e1 => ?_)
    · rw [decide_eq_true e1] at hq
      unfold v_MOST_LETTERS
      walk_at "gc"
      refine rd_decN (fun e2 => ?_) (fun e2 => ?_)
      · rw [decide_eq_true e2] at hq
        walk_at "gc"
        refine rd_inT (hWs _) rfl rfl ?_
        walk_at "gc"
        cases hin : inV (.str z) (c_WORDS.map V.str) with
        | true =>
          rw [hin] at hq
          walk_at "gc"
          exact hq H S
        | false =>
          rw [hin] at hq
          walk_at "gc"
          unfold t_is_name_1 v_LETTERS
          walk_at "gc"
          refine rd_lc (rd_is ?_)
          walk_at "gc"
          refine ⟨z, rfl, ?_⟩
          refine lc_go stt_world (walk_str (z := z)) S (show z.cps.size < 1000000 from by have : z.cps.size = z.length := rfl; omega) (fun i v _ => ∃ c, z.cps[i]? = some c ∧ v = .str ⟨#[c]⟩) (fun i acc _ => acc = ((z.cps.toList.take i).map fun c => decide (c ∈ letters.cps.toList)).map V.bl)
            (fun _ _ => True.intro) (fun i x G1 H1 H2 L1 _ e1 S1 y => by
              obtain ⟨rfl, h⟩ := y
              exact ⟨G1, Ex.refl _, S1, h⟩) rfl (fun _ _ _ _ _ h => h) ?_ ?_
          · intro D1 i x acc G1 H1 hi _ e1 S1 I1 it Kp Sk kp sk
            obtain ⟨c, hc, rfl⟩ := it
            refine rd_name ⟨rfl, rd_yes (rd_iT ?_)⟩
            walk_at "gc"
            refine rd_inS ?_
            refine kp _ G1 H1 (Ex.refl _) S1 ?_
            rw [I1, List.take_add_one, show z.cps.toList[i]? = some c by rw [← hc]; simp, List.map_append, List.map_append]
            rfl
          · intro D1 acc G2 H2 e2 S2 I2 _
            rw [show z.cps.size = z.cps.toList.length from (Array.length_toList ..).symm, List.take_length] at I2
            subst I2
            walk_at "gc"
            refine rd_all (sq_of (S2.at 0 rfl)) ?_
            rw [List.all_map]
            exact hq H2 (S2.drop.less e2)
      · rw [decide_eq_false e2] at hq
        walk_at "gc"
        exact hq H S
    · rw [decide_eq_false e1] at hq
      walk_at "gc"
      exact hq H S
  | _ =>
    have hx' := Dp.ex S.ex _ _ hx
    walk_at "gc"
    exact q H S
theorem sat_is_name {K : PySem.W.Frag} [CK : Consts K] {vs : List V} {H : Hp} {Q : VK} {E : XK} (h : sp_is_name K vs H Q E) : vs.length = 1 ∧ t_is_name K { nx := fun _ H' => Q .non H', rt := Q } (vs.map some ++ List.replicate (2 - vs.length) none) H := by
  obtain ⟨x, d, G, L, rfl, S, hx, hz, q⟩ := h
  exact ⟨rfl, read_is_name S hx hz q⟩

/-! Texts of letters. -/
abbrev cps (z : Str) : List Nat := z.cps.toList
def alls (z : Str) : Prop := ∀ c, c ∈ cps z → c ∈ cps letters
theorem cps_add (a b : Str) : cps (a ++ b) = cps a ++ cps b := TL.tl_append a b
theorem len_add (a b : Str) : (a ++ b).length = a.length + b.length := by
  have h := congrArg List.length (cps_add a b)
  rw [List.length_append] at h
  simpa [cps, Str.length] using h
theorem alls_add {a b : Str} (ha : alls a) (hb : alls b) : alls (a ++ b) := fun c hc => by
  rw [cps_add] at hc
  exact (List.mem_append.mp hc).elim (ha c) (hb c)
theorem alls_one {c : Nat} (h : c ∈ cps letters) : alls ⟨#[c]⟩ := fun d hd => by
  rw [List.mem_singleton.mp (show d ∈ [c] from hd)]
  exact h
theorem alls_cut {a : Str} (ha : alls a) (lo hi : Option Int) : alls (cutS a lo hi) := fun c hc => by
  unfold cutS at hc
  exact ha c (List.mem_of_mem_drop (List.mem_of_mem_take (by simpa [cps] using hc)))
def dueS (z : Str) : Bool := decide ((1 : Int) ≤ z.length) && (decide ((z.length : Int) ≤ 8) && !inV (.str z) (c_WORDS.map V.str))
theorem name_due {z : Str} (h : alls z) : nameS z = dueS z := by
  unfold nameS dueS
  rw [show (z.cps.toList.all fun c => decide (c ∈ letters.cps.toList)) = true from List.all_eq_true.mpr fun c hc => decide_eq_true (h c hc), Bool.and_true]
theorem name_bad {z : Str} {c : Nat} (h : c ∈ cps z) (n : c ∉ cps letters) : nameS z = false := by
  unfold nameS
  rw [show (z.cps.toList.all fun c => decide (c ∈ letters.cps.toList)) = false from List.all_eq_false.mpr ⟨c, h, by rw [decide_eq_false n]; decide⟩]
  simp
theorem alls_words : ∀ w, w ∈ c_WORDS → alls w := by
  have h : ∀ w ∈ c_WORDS, ∀ c ∈ cps w, c ∈ cps letters := by decide +kernel
  exact h
theorem len_words : ∀ w, w ∈ c_WORDS → w.length < 10 ∧ 0 < w.length := by decide +kernel
theorem name_words : ∀ w, w ∈ c_WORDS → nameS w = false := by decide +kernel

/-! The law of names and values. -/


theorem lk_same {K : PySem.W.Frag} {G : Hp} {x : V} {d : PyData} (h : Dp K G x d) : lk d d = true := lk_refl d (Dp.plain _ _ h)
def t_law_4b_9 (K : PySem.W.Frag) : TS :=
  (tIfS (tNot (tB (tCall (sp_like K 9) [] E0 (tCons (tLst (tCons (tCall (sp_is_before K) [] E0 (tCons (tVar 11) (tCons (tVar 12) tNil))) (tCons (tCallK (sp_is_before K) (gPV 2 [1, 0]) E0 tNil (tCons (tVar 11) (tCons (tVar 11) tNil))) (tCons (tCall (sp_is_value K) [] E0 (tCons (tVar 11) tNil)) (tCons (tCall (sp_is_number K) [] E0 (tCons (tVar 11) tNil)) tNil))))) (tCons (tLst (tCons (tVar 10) (tCons (tC (.bl false)) (tCons (tC (.bl true)) (tCons (tOp rNotN (tVar 11) (tC .non)) tNil))))) tNil))))) (tRet (tC (.bl false))) tNext)
def t_law_4b_8 (K : PySem.W.Frag) : TS :=
  (tSeq (tAsg (tIf (tTest (tOp rIsN (tVar 11) (tC .non))) (tOp rNotN (tVar 12) (tC .non)) (tAndV (tOp rNotN (tVar 12) (tC .non)) (tOp (gLt K) (tVar 11) (tVar 12)))) (gName 10))
  (t_law_4b_9 K))
def t_law_4b_7 (K : PySem.W.Frag) : TS :=
  (tSeq (tAsg (tLc (iRng1 (tCons (tC (.int 2)) tNil)) (gName 15) tYes (tIf (tTest (tOp (gEq K) (tCall (sp_draw K) [] E0 (tCons (tVar 1) (tCons (tC (.int 4)) tNil))) (tC (.int 0)))) (tC .non) (tOp (gAdd K) (tOp (rI0 fun i j => .int (i - j)) (tCall (sp_draw K) [] E0 (tCons (tVar 1) (tCons (tC (.int 5)) tNil))) (tC (.int 2))) (tCall (sp_ofS K) [] E0 (tCons (tVar 1) (tCons (tLst (tCons (tC (.int 0)) (tCons (tC (.int 0)) (tCons (tOp (rI CPow fun i j => .int (i ^ j.toNat)) (tC (.int 10)) (tC (.int 17))) tNil)))) tNil))))) [15]) (gLst K 2 (gCons (gName 11) (gCons (gName 12) gNil))))
  (t_law_4b_8 K))
def t_law_4b_6 (K : PySem.W.Frag) : TS :=
  (tSeq (tIfS (tNot (tB (tCall (sp_like K 9) [] E0 (tCons (tLst (tCons (tCall (sp_is_name K) [] E0 (tCons (tVar 5) tNil)) (tCons (tCallK (sp_is_name K) (gPV 1 [0]) E0 tNil (tCons (tVar 7) tNil)) (tCons (tCall (sp_is_name K) [] E0 (tCons (tVar 9) tNil)) tNil)))) (tCons (tVar 10) tNil))))) (tRet (tC (.bl false))) tNext)
  (t_law_4b_7 K))
def t_law_4b_5 (K : PySem.W.Frag) : TS :=
  (tSeq (tAsg (tOp (gAdd K) (tLc (iList K (tLst (tCons (tVar 5) (tCons (tVar 7) tNil)))) (gName 11) tYes (tAndV (tChain (rI0 fun i j => .bl (decide (i ≤ j))) (rI0 fun i j => .bl (decide (i ≤ j))) (tC (.int 1)) (tCB (gLen K) (tCons (tVar 11) tNil)) (tC (.int 8))) (tOp (gNotIn K) (tVar 11) (tVar 3))) [11]) (tLst (tCons (tC (.bl false)) tNil))) (gName 10))
  (t_law_4b_6 K))
def t_law_4b_4 (K : PySem.W.Frag) : TS :=
  (tSeq (tAsg (tOp (gAdd K) (tOp (gAdd K) (tSl (gSl K) (tVar 5) tNoPart (tPart (tVar 8))) (tCall (sp_ofS K) [] E0 (tCons (tVar 1) (tCons (tLst (tCons (tC (.str " ")) (tCons (tC (.str "A")) (tCons (tC (.str "1")) (tCons (tC (.str ".")) (tCons (tC (.str "_")) (tCons (tC (.str "\n")) (tCons (tC (.str "-")) tNil)))))))) tNil)))) (tSl (gSl K) (tVar 5) (tPart (tVar 8)) tNoPart)) (gName 9))
  (t_law_4b_5 K))
def t_law_4b_3 (K : PySem.W.Frag) : TS :=
  (tSeq (tAsg (tCall (sp_draw K) [] E0 (tCons (tVar 1) (tCons (tOp (gAdd K) (tCB (gLen K) (tCons (tVar 5) tNil)) (tC (.int 1))) tNil))) (gName 8))
  (t_law_4b_4 K))
def t_law_4b_2 (K : PySem.W.Frag) : TS :=
  (tSeq (tAsg (tCall (sp_ofS K) [] E0 (tCons (tVar 1) (tCons (tLst (tCons (tOp (gAdd K) (tVar 6) (tCall (sp_ofS K) [] E0 (tCons (tVar 1) (tCons (tVar 2) tNil)))) (tCons (tOp (gAdd K) (tCall (sp_ofS K) [] E0 (tCons (tVar 1) (tCons (tVar 2) tNil))) (tVar 6)) (tCons (tOp (gAdd K) (tSl (gSl K) (tVar 6) (tPart (tC (.int 1))) tNoPart) (tOp (rIx K) (tVar 6) (tC (.int 0)))) (tCons (tSl (gSl K) (tVar 6) tNoPart (tPart (tUn (rU fun i => .int (-i)) (tC (.int 1))))) tNil))))) tNil))) (gName 7))
  (t_law_4b_3 K))
def t_law_4b_1 (K : PySem.W.Frag) : TS :=
  (tSeq (tAsg (tCall (sp_ofS K) [] E0 (tCons (tVar 1) (tCons (tVar 3) tNil))) (gName 6))
  (t_law_4b_2 K))
def t_law_4b (K : PySem.W.Frag) : TS :=
  (tSeq (tAsg (tJoin0 K (tLc (iRng1 (tCons (tCall (sp_draw K) [] E0 (tCons (tVar 1) (tCons (tC (.int 11)) tNil))) tNil)) (gName 15) tYes (tCall (sp_ofS K) [] E0 (tCons (tVar 1) (tCons (tVar 2) tNil))) [15])) (gName 5))
  (t_law_4b_1 K))
def t_law_8 (K : PySem.W.Frag) : TS :=
  (tRet (tCall (sp_like K 9) [] E0 (tCons (tLst (tCons (tCallK (sp_is_number K) (gPV 1 [0]) E0 tNil (tCons (tC (.int 0)) tNil)) (tCons (tCallK (sp_is_value K) (gPV 1 [0]) E0 tNil (tCons (tC .non) tNil)) (tCons (tCall (sp_is_number K) [] E0 (tCons (tC .non) tNil)) (tCons (tCall (sp_is_name K) [] E0 (tCons (tC (.str "abcdefgh")) tNil)) (tCons (tCall (sp_is_name K) [] E0 (tCons (tC (.str "abcdefghi")) tNil)) (tCons (tCall (sp_is_name K) [] E0 (tCons (tC (.str "a")) tNil)) tNil))))))) (tCons (tLst (tCons (tC (.bl true)) (tCons (tC (.bl true)) (tCons (tC (.bl false)) (tCons (tC (.bl true)) (tCons (tC (.bl false)) (tCons (tC (.bl true)) tNil))))))) tNil))))
def t_law_7 (K : PySem.W.Frag) : TS :=
  (tSeq (tIfS (tNot (tB (tCall (sp_like K 9) [] E0 (tCons (tLst (tCons (tCall (sp_is_number K) [] E0 (tCons (tVar 13) tNil)) (tCons (tCall (sp_is_value K) [] E0 (tCons (tVar 13) tNil)) (tCons (tCall (sp_is_name K) [] E0 (tCons (tVar 14) tNil)) tNil)))) (tCons (tOp gMul (tLst (tCons (tC (.bl false)) tNil)) (tC (.int 3))) tNil))))) (tRet (tC (.bl false))) tNext)
  (t_law_8 K))
def t_law_6 (K : PySem.W.Frag) : TS :=
  (tSeq (tAsg (tCall (sp_ofS K) [] E0 (tCons (tVar 1) (tCons (tLst (tCons (tC .non) (tCons (tC (.int 3)) (tCons (tC (.bl true)) (tCons (tLst (tCons (tC (.str "a")) tNil)) (tCons (tTup (tCons (tC (.str "a")) tNil)) (tCons (tLst tNil) (tCons (tC (.int 0)) tNil)))))))) tNil))) (gName 14))
  (t_law_7 K))
def t_law_5 (K : PySem.W.Frag) : TS :=
  (tSeq (tAsg (tCall (sp_ofS K) [] E0 (tCons (tVar 1) (tCons (tLst (tCons (tC (.bl true)) (tCons (tC (.bl false)) (tCons (tC (.str "1")) (tCons (tC (.str "")) (tCons (tLst (tCons (tC (.int 1)) tNil)) (tCons (tTup tNil) (tCons (tC (.str "abc")) (tCons (tLst (tCons (tC .non) tNil)) tNil))))))))) tNil))) (gName 13))
  (t_law_6 K))
def t_law_4 (K : PySem.W.Frag) : TS :=
  (tSeq (tFor (iRng1 (tCons (tC (.int 8)) tNil)) (gName 4) (t_law_4b K))
  (t_law_5 K))
def t_law_3 (K : PySem.W.Frag) : TS :=
  (tSeq (tIfS (tOr (tNot (tB (tCall (sp_like K 9) [] E0 (tCons (tC (v_WORDS K)) (tCons (tVar 3) tNil))))) (tNot (tB (tCall (sp_like K 9) [] E0 (tCons (tLc (iTup K (tVar 3)) (gName 6) tYes (tCall (sp_is_name K) [] E0 (tCons (tVar 6) tNil)) [6]) (tCons (tOp gMul (tLst (tCons (tC (.bl false)) tNil)) (tC (.int 11))) tNil)))))) (tRet (tC (.bl false))) tNext)
  (t_law_4 K))
def t_law_2 (K : PySem.W.Frag) : TS :=
  (tSeq (tAsg (tTup (tCons (tC (.str "all")) (tCons (tC (.str "and")) (tCons (tC (.str "any")) (tCons (tC (.str "for")) (tCons (tC (.str "if")) (tCons (tC (.str "lacks")) (tCons (tC (.str "none")) (tCons (tC (.str "not")) (tCons (tC (.str "or")) (tCons (tC (.str "where")) (tCons (tC (.str "with")) tNil)))))))))))) (gName 3))
  (t_law_3 K))
def t_law_1 (K : PySem.W.Frag) : TS :=
  (tSeq (tAsg (tC (.str "abcdefghijklmnopqrstuvwxyz")) (gName 2))
  (t_law_2 K))
def t_law (K : PySem.W.Frag) : TS :=
  (tSeq (tAsg (tCall (sp_open K) [] E0 (tCons (tVar 0) tNil)) (gName 1))
  (t_law_1 K))
section
variable {K : PySem.W.Frag} [CK : Consts K] {G H : Hp} {M : List (Addr × HO)} {D : Ends} {b : Addr} {a0 a1 a2 a3 a4 a5 a6 a7 a8 a9 a10 a11 a12 a13 a14 a15 : Option V}
/-- the two values, compared -/
theorem read_8 {p r : Option Int} (S : Stt G H M) (q : ∀ x10 G' H', Ex G G' → Stt G' H' M → D.nx [a0, a1, a2, a3, a4, a5, a6, a7, a8, a9, x10, some (oV p), some (oV r), a13, a14, a15] H') :
    t_law_4b_8 K D [a0, a1, a2, a3, a4, a5, a6, a7, a8, a9, a10, some (oV p), some (oV r), a13, a14, a15] H := by
  have key : t_law_4b_9 K D [a0, a1, a2, a3, a4, a5, a6, a7, a8, a9, some (.bl (before p r)), some (oV p), some (oV r), a13, a14, a15] H := by
    unfold t_law_4b_9
    walk_at "gc"
    refine ⟨p, r, rfl, ?_⟩
    walk_at "gc"
    refine ⟨p, p, rfl, ?_⟩
    rw [before_self]
    walk_at "gc"
    refine ⟨oV p, oD p, rfl, oDp p, ?_⟩
    walk_at "gc"
    refine ⟨oV p, oD p, rfl, oDp p, ?_⟩
    walk_at "gc"
    refine mk_lst stt_world S (by show 4 ≤ _; decide) fun z1 G1 e1 S1 h1 => ?_
    walk_at "gc"
    refine mk_lst stt_world S1 (by show 4 ≤ _; decide) fun z2 G2 e2 S2 h2 => ?_
    walk_at "gc"
    have dl : Dp K G2 (.ref z1) (.list [.bool (before p r), .bool false, .bool true, .bool (!decide (oV p = V.non))]) := by
      refine .lst (ex_l e2 (sq_of h1)) ?_
      cases p <;> exact .cons (.bl _) (.cons (.bl _) (.cons (.bl _) (.cons (.bl _) .nil)))
    have dr : Dp K G2 (.ref z2) (.list [.bool (before p r), .bool false, .bool true, .bool (!decide (oV p = V.non))]) :=
      .lst (sq_of h2) (.cons (.bl _) (.cons (.bl _) (.cons (.bl _) (.cons (.bl _) .nil))))
    refine ⟨G2, M, .ref z1, .ref z2, _, _, rfl, S2, dl, dr, by simp [fit], fun H3 S3 => ?_⟩
    rw [lk_same dl]
    walk_at "gc"
    exact q _ G2 H3 (e1.trans e2) S3
  unfold t_law_4b_8
  cases p <;> cases r <;> (dsimp only [oV] at key ⊢; walk_at "gc"; exact key)
theorem rd_glst2 {i j : Nat} {T : Addr} {x y : V} {σ : L2.St} {N : L2.St → Hp → Prop} (h : SqL K H T [x, y]) (q : N ((σ.set i (some x)).set j (some y)) H) : gLst K 2 (gCons (gName i) (gCons (gName j) gNil)) (.ref T) σ H N :=
  ⟨T, [x, y], rfl, h, rfl, x, [y], rfl, y, [], rfl, rfl, q⟩
/-- from the two values on -/
theorem read_7 (B : Bag K G H b []) (q : ∀ x10 x11 x12 G' H', Ex G G' → Bag K G' H' b [] → D.nx [a0, some (.ref b), a2, a3, a4, a5, a6, a7, a8, a9, x10, x11, x12, a13, a14, a15] H') :
    t_law_4b_7 K D [a0, some (.ref b), a2, a3, a4, a5, a6, a7, a8, a9, a10, a11, a12, a13, a14, a15] H := by
  unfold t_law_4b_7
  refine rd_seq (rd_asg (rd_lc (rd_rng1 ?_)))
  walk_at "gc"
  refine ⟨2, rfl, by decide, by decide, ?_⟩
  refine lc_draws (bag_world K b) (n := (2 : Int).toNat) (lo := 0) B (by decide) (fun _ => rfl) (fun v => ∃ o : Option Int, v = oV o) (fun i acc D1 G3 H3 hi e3 B3 Kp kp => ?_) (fun D1 vs G3 H3 e3 B3 hl hvs => ?_)
  · walk_at "gc"
    refine ⟨b, 4, G3, _, rfl, by decide, by decide, B3, fun d H4 d0 d1 B4 => ?_⟩
    walk_at "gc"
    refine rd_dec (fun e => ?_) (fun e => ?_)
    · walk_at "gc"
      exact kp _ G3 H4 (Ex.refl _) B4 ⟨none, rfl⟩
    · walk_at "gc"
      refine ⟨b, 5, G3, _, rfl, by decide, by decide, B4, fun d2 H5 d20 d21 B5 => ?_⟩
      walk_at "gc"
      refine rd_I ⟨by decide, by decide, by decide⟩ ?_
      walk_at "gc"
      refine mk_lst (bag_world K b) B5 (by show 3 ≤ _; decide) fun z G6 e6 B6 hz => ?_
      walk_at "gc"
      refine ⟨b, .ref z, G6, _, rfl, B6, .inl ⟨z, _, rfl, fun H' B' => .inl (ex_l B'.ex (sq_of hz)), by show 0 < 3; decide, by show 3 < _; decide, fun x H7 hx B7 => ?_⟩⟩
      obtain ⟨n, rfl⟩ : ∃ n : Int, x = .int n := by
        rcases in_two hx with rfl | hx
        · exact ⟨_, rfl⟩
        rcases in_two hx with rfl | hx
        · exact ⟨_, rfl⟩
        cases List.mem_singleton.mp hx
        exact ⟨_, rfl⟩
      walk_at "gc"
      exact kp _ G6 H7 e6 B7 ⟨some _, rfl⟩
  have hl2 : vs.length = 2 := hl
  match vs, hl2, hvs with
  | [v0, v1], _, hvs =>
  obtain ⟨p, rfl⟩ := hvs v0 (by simp)
  obtain ⟨r, rfl⟩ := hvs v1 (by simp)
  obtain ⟨B4, e4⟩ := (bag_world K b).frz B3
  have hn : SqL K (upd G3 D1 (.lst [oV p, oV r])) D1 [oV p, oV r] := sq_of upd_same
  have eG := e3.trans e4
  generalize upd G3 D1 (.lst [oV p, oV r]) = G4 at *
  refine rd_glst2 (ex_l B4.ex hn) ?_
  obtain ⟨M, S, hM⟩ := B4.stt
  exact read_8 S fun x10 G' H' e' S' => q _ _ _ G' H' (eG.trans e') (hM G' H' e' S')
end



section
variable {K : PySem.W.Frag} [CK : Consts K] {G H : Hp} {M : List (Addr × HO)} {D : Ends} {b : Addr} {a0 a1 a2 a3 a4 a5 a6 a7 a8 a9 a10 a11 a12 a13 a14 a15 : Option V}
theorem nm1 : nameS "abcdefgh" = true := by decide +kernel
theorem nm2 : nameS "abcdefghi" = false := by decide +kernel
theorem nm3 : nameS "a" = true := by decide +kernel
theorem read_end {σ : L2.St} (S : Stt G H M) (q : ∀ H', D.rt (.bl true) H') : t_law_8 K D σ H := by
  unfold t_law_8
  walk_at "gc"
  refine ⟨.int 0, .int 0, rfl, .int 0, ?_⟩
  walk_at "gc"
  refine ⟨.non, .none, rfl, .non, ?_⟩
  walk_at "gc"
  refine ⟨.non, .none, rfl, .non, ?_⟩
  walk_at "gc"
  refine ⟨.str "abcdefgh", .str "abcdefgh", G, M, rfl, S, .str _, by show 8 < _; decide, fun H1 S1 => ?_⟩
  rw [show isName (.str "abcdefgh") = true from nm1]
  walk_at "gc"
  refine ⟨.str "abcdefghi", .str "abcdefghi", G, M, rfl, S1, .str _, by show 9 < _; decide, fun H2 S2 => ?_⟩
  rw [show isName (.str "abcdefghi") = false from nm2]
  walk_at "gc"
  refine ⟨.str "a", .str "a", G, M, rfl, S2, .str _, by show 1 < _; decide, fun H3 S3 => ?_⟩
  rw [show isName (.str "a") = true from nm3]
  walk_at "gc"
  refine mk_lst stt_world S3 (by show 6 ≤ _; decide) fun z1 G1 e1 S4 h1 => ?_
  walk_at "gc"
  refine mk_lst stt_world S4 (by show 6 ≤ _; decide) fun z2 G2 e2 S5 h2 => ?_
  walk_at "gc"
  have dl : Dp K G2 (.ref z1) (.list [.bool true, .bool true, .bool false, .bool true, .bool false, .bool true]) :=
    .lst (ex_l e2 (sq_of h1)) (.cons (.bl _) (.cons (.bl _) (.cons (.bl _) (.cons (.bl _) (.cons (.bl _) (.cons (.bl _) .nil))))))
  have dr : Dp K G2 (.ref z2) (.list [.bool true, .bool true, .bool false, .bool true, .bool false, .bool true]) :=
    .lst (sq_of h2) (.cons (.bl _) (.cons (.bl _) (.cons (.bl _) (.cons (.bl _) (.cons (.bl _) (.cons (.bl _) .nil))))))
  refine ⟨G2, M, .ref z1, .ref z2, _, _, rfl, S5, dl, dr, by simp [fit], fun H6 S6 => ?_⟩
  rw [lk_same dl]
  exact q H6
def odds : List PyData := [.bool true, .bool false, .str "1", .str "", .list [.int 1], .tuple [], .str "abc", .list [.none]]
def oddN : List PyData := [.none, .int 3, .bool true, .list [.str "a"], .tuple [.str "a"], .list [], .int 0]
theorem odds_not : ∀ d, d ∈ odds → isNum d = false ∧ isVal d = false := by
  intro d h
  simp only [odds, List.mem_cons, List.not_mem_nil] at h
  rcases h with h | h | h | h | h | h | h | h | h <;> first | (subst h; exact ⟨rfl, rfl⟩) | exact h.elim
theorem oddN_not : ∀ d, d ∈ oddN → isName d = false ∧ shortS d := by
  intro d h
  simp only [oddN, List.mem_cons, List.not_mem_nil] at h
  rcases h with h | h | h | h | h | h | h | h <;> first | (subst h; exact ⟨rfl, True.intro⟩) | exact h.elim
theorem read_q7 {x y : V} {d e : PyData} (S : Stt G H M) (hx : Dp K G x d) (hy : Dp K G y e) (n1 : isNum d = false ∧ isVal d = false) (n2 : isName e = false ∧ shortS e) (q : ∀ H', D.rt (.bl true) H') :
    t_law_7 K D [a0, a1, a2, a3, a4, a5, a6, a7, a8, a9, a10, a11, a12, some x, some y, a15] H := by
  unfold t_law_7
  walk_at "gc"
  refine ⟨x, d, rfl, Dp.ex S.ex _ _ hx, ?_⟩
  rw [n1.1]
  walk_at "gc"
  refine ⟨x, d, rfl, Dp.ex S.ex _ _ hx, ?_⟩
  rw [n1.2]
  walk_at "gc"
  refine ⟨y, e, G, M, rfl, S, hy, n2.2, fun H1 S1 => ?_⟩
  rw [n2.1]
  walk_at "gc"
  refine mk_lst stt_world S1 (by show 3 ≤ _; decide) fun z1 G1 e1 S2 h1 => ?_
  walk_at "gc"
  refine mk_lst stt_world S2 (by show 1 ≤ _; decide) fun z2 G2 e2 S3 h2 => ?_
  walk_at "gc"
  refine .inr ⟨z2, 3, _, rfl, rfl, S3.ex _ _ h2, by decide, by decide, by decide, ?_⟩
  refine mk_im (o := .lst [.bl false, .bl false, .bl false]) stt_world S3 fun z3 G3 e3 S4 h3 => ?_
  walk_at "gc"
  have dl : Dp K G3 (.ref z1) (.list [.bool false, .bool false, .bool false]) := .lst (ex_l (e2.trans e3) (sq_of h1)) (.cons (.bl _) (.cons (.bl _) (.cons (.bl _) .nil)))
  have dr : Dp K G3 (.ref z3) (.list [.bool false, .bool false, .bool false]) := .lst (sq_of h3) (.cons (.bl _) (.cons (.bl _) (.cons (.bl _) .nil)))
  refine ⟨G3, M, .ref z1, .ref z3, _, _, rfl, S4, dl, dr, by simp [fit], fun H6 S6 => ?_⟩
  rw [lk_same dl]
  walk_at "gc"
  exact read_end S6 q
theorem read_q6 {x : V} {d : PyData} (B : Bag K G H b []) (hx : Dp K G x d) (n1 : isNum d = false ∧ isVal d = false) (q : ∀ H', D.rt (.bl true) H') :
    t_law_6 K D [a0, some (.ref b), a2, a3, a4, a5, a6, a7, a8, a9, a10, a11, a12, some x, a14, a15] H := by
  unfold t_law_6
  walk_at "gc"
  refine mk_lst (bag_world K b) B (by show 1 ≤ _; decide) fun z1 G1 e1 B1 h1 => ?_
  walk_at "gc"
  refine mk_tup (bag_world K b) B1 (by show 1 ≤ _; decide) fun z2 G2 e2 B2 h2 => ?_
  walk_at "gc"
  refine mk_lst (bag_world K b) B2 (by show 0 ≤ _; decide) fun z3 G3 e3 B3 h3 => ?_
  walk_at "gc"
  refine mk_lst (bag_world K b) B3 (by show 7 ≤ _; decide) fun z4 G4 e4 B4 h4 => ?_
  walk_at "gc"
  have f3 := e4
  have f2 := e3.trans f3
  have f1 := e2.trans f2
  have all : DpAll K G4 [.non, .int 3, .bl true, .ref z1, .ref z2, .ref z3, .int 0] oddN :=
    .cons .non (.cons (.int _) (.cons (.bl _) (.cons (.lst (ex_l f1 (sq_of h1)) (.cons (.str _) .nil)) (.cons (.tup (ex_t f2 (st_of h2)) (.cons (.str _) .nil)) (.cons (.lst (ex_l f3 (sq_of h3)) .nil) (.cons (.int _) .nil))))))
  refine ⟨b, .ref z4, G4, _, rfl, B4, .inl ⟨z4, _, rfl, fun H' B' => .inl (ex_l B'.ex (sq_of h4)), by show 0 < 7; decide, by show 7 < _; decide, fun y H5 hy B5 => ?_⟩⟩
  obtain ⟨i, hi⟩ := List.getElem?_of_mem hy
  obtain ⟨e, he, hdp⟩ := DpAll.get all hi
  obtain ⟨M, S, _⟩ := B5.stt
  walk_at "gc"
  exact read_q7 S (Dp.ex (e1.trans f1) _ _ hx) hdp n1 (oddN_not e (List.mem_of_getElem? he)) q
theorem read_q5 (B : Bag K G H b []) (q : ∀ H', D.rt (.bl true) H') :
    t_law_5 K D [a0, some (.ref b), a2, a3, a4, a5, a6, a7, a8, a9, a10, a11, a12, a13, a14, a15] H := by
  unfold t_law_5
  walk_at "gc"
  refine mk_lst (bag_world K b) B (by show 1 ≤ _; decide) fun z1 G1 e1 B1 h1 => ?_
  walk_at "gc"
  refine mk_tup (bag_world K b) B1 (by show 0 ≤ _; decide) fun z2 G2 e2 B2 h2 => ?_
  walk_at "gc"
  refine mk_lst (bag_world K b) B2 (by show 1 ≤ _; decide) fun z3 G3 e3 B3 h3 => ?_
  walk_at "gc"
  refine mk_lst (bag_world K b) B3 (by show 8 ≤ _; decide) fun z4 G4 e4 B4 h4 => ?_
  walk_at "gc"
  have f3 := e4
  have f2 := e3.trans f3
  have f1 := e2.trans f2
  have all : DpAll K G4 [.bl true, .bl false, .str "1", .str "", .ref z1, .ref z2, .str "abc", .ref z3] odds :=
    .cons (.bl _) (.cons (.bl _) (.cons (.str _) (.cons (.str _) (.cons (.lst (ex_l f1 (sq_of h1)) (.cons (.int _) .nil)) (.cons (.tup (ex_t f2 (st_of h2)) .nil) (.cons (.str _) (.cons (.lst (ex_l f3 (sq_of h3)) (.cons .non .nil)) .nil)))))))
  refine ⟨b, .ref z4, G4, _, rfl, B4, .inl ⟨z4, _, rfl, fun H' B' => .inl (ex_l B'.ex (sq_of h4)), by show 0 < 8; decide, by show 8 < _; decide, fun y H5 hy B5 => ?_⟩⟩
  obtain ⟨i, hi⟩ := List.getElem?_of_mem hy
  obtain ⟨e, he, hdp⟩ := DpAll.get all hi
  walk_at "gc"
  exact read_q6 B5 hdp (odds_not e (List.mem_of_getElem? he)) q
end



section
variable {K : PySem.W.Frag} [CK : Consts K] {G H : Hp} {D : Ends} {b W : Addr} {a0 a1 a2 a3 a4 a5 a6 a7 a8 a9 a10 a11 a12 a13 a14 a15 : Option V} {tx nr bt : Str}
/-- the three texts asked -/
theorem read_6 {dL : Addr} (B : Bag K G H b []) (ht : alls tx) (hn : alls nr) (hb : nameS bt = false) (st : tx.length < 100000) (sn : nr.length < 100000) (sb : bt.length < 100000) (hd : SqL K G dL [.bl (dueS tx), .bl (dueS nr), .bl false])
    (q : ∀ x10 x11 x12 G' H', Ex G G' → Bag K G' H' b [] → D.nx [a0, some (.ref b), a2, a3, a4, some (.str tx), a6, some (.str nr), a8, some (.str bt), x10, x11, x12, a13, a14, a15] H') :
    t_law_4b_6 K D [a0, some (.ref b), a2, a3, a4, some (.str tx), a6, some (.str nr), a8, some (.str bt), some (.ref dL), a11, a12, a13, a14, a15] H := by
  obtain ⟨M, S, hM⟩ := B.stt
  unfold t_law_4b_6
  walk_at "gc"
  refine ⟨.str tx, .str tx, G, M, rfl, S, .str _, st, fun H1 S1 => ?_⟩
  rw [show isName (.str tx) = dueS tx from name_due ht]
  walk_at "gc"
  refine ⟨.str nr, .str nr, G, M, rfl, S1, .str _, sn, fun H2 S2 => ?_⟩
  rw [show isName (.str nr) = dueS nr from name_due hn]
  walk_at "gc"
  refine ⟨.str bt, .str bt, G, M, rfl, S2, .str _, sb, fun H3 S3 => ?_⟩
  rw [show isName (.str bt) = false from hb]
  walk_at "gc"
  refine mk_lst stt_world S3 (by show 3 ≤ _; decide) fun z1 G1 e1 S4 h1 => ?_
  walk_at "gc"
  have dl : Dp K G1 (.ref z1) (.list [.bool (dueS tx), .bool (dueS nr), .bool false]) := .lst (sq_of h1) (.cons (.bl _) (.cons (.bl _) (.cons (.bl _) .nil)))
  have dr : Dp K G1 (.ref dL) (.list [.bool (dueS tx), .bool (dueS nr), .bool false]) := .lst (ex_l e1 hd) (.cons (.bl _) (.cons (.bl _) (.cons (.bl _) .nil)))
  refine ⟨G1, M, .ref z1, .ref dL, _, _, rfl, S4, dl, dr, by simp [fit], fun H5 S5 => ?_⟩
  rw [lk_same dl]
  walk_at "gc"
  exact read_7 (hM G1 H5 e1 S5) fun x10 x11 x12 G' H' e' B' => q _ _ _ G' H' (e1.trans e') B'
def dueV : V → V
  | .str z => .bl (dueS z)
  | _ => .non
theorem rd_notInT {x : V} {a : Addr} {xs : List V} {Q : VK} (h : SqT K H a xs) (f : flatV x = true) (fs : xs.all flatV = true) (q : Q (.bl (!inV x xs)) H) : gNotIn K x (.ref a) H Q := .inr ⟨a, xs, rfl, .inr h, f, fs, q⟩
/-- what is due -/
theorem read_5 (B : Bag K G H b []) (hW : SqT K G W (c_WORDS.map V.str)) (ht : alls tx) (hn : alls nr) (hb : nameS bt = false) (st : tx.length < 100000) (sn : nr.length < 100000) (sb : bt.length < 100000)
    (q : ∀ x10 x11 x12 G' H', Ex G G' → Bag K G' H' b [] → D.nx [a0, some (.ref b), a2, some (.ref W), a4, some (.str tx), a6, some (.str nr), a8, some (.str bt), x10, x11, x12, a13, a14, a15] H') :
    t_law_4b_5 K D [a0, some (.ref b), a2, some (.ref W), a4, some (.str tx), a6, some (.str nr), a8, some (.str bt), a10, a11, a12, a13, a14, a15] H := by
  unfold t_law_4b_5
  walk_at "gc"
  refine rd_lc (rd_il ?_)
  walk_at "gc"
  refine mk_lst (bag_world K b) B (by show 2 ≤ _; decide) fun z1 G1 e1 B1 h1 => ?_
  refine ⟨z1, rfl, ⟨_, ex_l B1.ex (sq_of h1)⟩, ?_⟩
  refine lc_mapJ (bag_world K b) (walk_list (xs := [.str tx, .str nr])) B1 (fun H' e' => ex_l e' (sq_of h1)) (by show 2 < _; decide) (fun _ => rfl) dueV (fun x acc D1 G2 H2 hx e2 B2 Kp kp => ?_) (fun D1 G2 H2 e2 B2 => ?_)
  · obtain ⟨z, rfl, hz⟩ : ∃ z : Str, x = .str z ∧ z.length < 100000 := by
      rcases in_two hx with rfl | hx
      · exact ⟨_, rfl, st⟩
      · cases List.mem_singleton.mp hx
        exact ⟨_, rfl, sn⟩
    have kp' : ∀ H2, Bag K G2 H2 b ((D1, .lst acc) :: []) → Kp (.bl (dueS z)) H2 := kp
    unfold dueS at kp'
    walk_at "gc"
    refine rd_chain ?_
    walk_at "gc"
    refine rd_lenS (sz_of (by omega)) ?_
    walk_at "gc"
    refine rd_dec (fun c1 => ?_) (fun c1 => ?_)
    · rw [decide_eq_true c1] at kp'
      walk_at "gc"
      refine rd_dec (fun c2 => ?_) (fun c2 => ?_)
      · rw [decide_eq_true c2] at kp'
        walk_at "gc"
        refine rd_notInT (ex_t (e1.trans (e2.trans B2.ex)) hW) rfl rfl ?_
        exact kp' _ B2
      · rw [decide_eq_false c2] at kp'
        exact kp' _ B2
    · rw [decide_eq_false c1] at kp'
      walk_at "gc"
      exact kp' _ B2
  walk_at "gc"
  refine mk_lst (bag_world K b) B2 (by show 1 ≤ _; decide) fun z3 G3 e3 B3 h3 => ?_
  refine rd_addL ((bag_world K b).get B3) (B3.ex _ _ h3) (by show 2 + 1 ≤ sizeLine; decide) ?_
  refine mk_im (o := .lst [.bl (dueS tx), .bl (dueS nr), .bl false]) (bag_world K b) B3 fun dL G4 e4 B4 h4 => ?_
  have eG := e1.trans (e2.trans (e3.trans e4))
  exact read_6 ((bag_world K b).drop B4) ht hn hb st sn sb (sq_of h4) fun x10 x11 x12 G' H' e' B' => q _ _ _ G' H' (eG.trans e') B'
end



section
variable {K : PySem.W.Frag} [CK : Consts K] {G H : Hp} {D : Ends} {b W : Addr} {a0 a1 a2 a3 a4 a5 a6 a7 a8 a9 a10 a11 a12 a13 a14 a15 : Option V} {tx nr bt : Str}
theorem rd_slS {z : Str} {lo hi : Option Int} {Q : VK} (h : z.length ≤ sizeLine) (q : Q (.str (cutS z lo hi)) H) : gSl K (.str z) lo hi H Q := .inr (.inl ⟨z, rfl, h, q⟩)
def oddS : List Str := [" ", "A", "1", ".", "_", "\n", "-"]
theorem odd_sign : ∀ o, o ∈ oddS → o.length < 10 ∧ ∃ c, c ∈ cps o ∧ c ∉ cps letters := by
  have h : ∀ o ∈ oddS, o.length < 10 ∧ ∃ c ∈ cps o, c ∉ cps letters := by decide +kernel
  exact fun o m => ⟨(h o m).1, (h o m).2⟩
/-- a text with an odd sign put in -/
theorem read_4 {k : Int} (B : Bag K G H b []) (hW : SqT K G W (c_WORDS.map V.str)) (ht : alls tx) (hn : alls nr) (st : tx.length < 50) (sn : nr.length < 100000)
    (q : ∀ x9 x10 x11 x12 G' H', Ex G G' → Bag K G' H' b [] → D.nx [a0, some (.ref b), a2, some (.ref W), a4, some (.str tx), a6, some (.str nr), some (.int k), x9, x10, x11, x12, a13, a14, a15] H') :
    t_law_4b_4 K D [a0, some (.ref b), a2, some (.ref W), a4, some (.str tx), a6, some (.str nr), some (.int k), a9, a10, a11, a12, a13, a14, a15] H := by
  have small : ∀ n : Nat, n < 100000 → n ≤ sizeLine := fun n h => sz_of (by omega)
  unfold t_law_4b_4
  walk_at "gc"
  refine rd_slS (small _ (by omega)) ?_
  walk_at "gc"
  refine mk_lst (bag_world K b) B (by show 7 ≤ _; decide) fun z1 G1 e1 B1 h1 => ?_
  walk_at "gc"
  refine ⟨b, .ref z1, G1, _, rfl, B1, .inl ⟨z1, oddS.map V.str, rfl, fun H' B' => .inl (ex_l B'.ex (sq_of h1)), by decide, by decide, fun x H2 hx B2 => ?_⟩⟩
  obtain ⟨o, ho, rfl⟩ := List.mem_map.mp hx
  obtain ⟨ol, c, hc, hcn⟩ := odd_sign o ho
  have l1 := cutS_length tx none (some k)
  have l2 := cutS_length tx (some k) none
  refine rd_addS (small _ (by omega)) ?_
  walk_at "gc"
  refine rd_slS (small _ (by omega)) ?_
  refine rd_addS (small _ (by rw [len_add]; omega)) ?_
  walk_at "gc"
  refine read_5 B2 (ex_t e1 hW) ht hn (name_bad (c := c) ?_ hcn) (by omega) sn (by rw [len_add, len_add]; omega) fun x10 x11 x12 G' H' e' B' => q _ _ _ _ G' H' (e1.trans e') B'
  rw [cps_add, cps_add]
  exact List.mem_append_left _ (List.mem_append_right _ hc)
theorem read_3 (B : Bag K G H b []) (hW : SqT K G W (c_WORDS.map V.str)) (ht : alls tx) (hn : alls nr) (st : tx.length < 50) (sn : nr.length < 100000)
    (q : ∀ x8 x9 x10 x11 x12 G' H', Ex G G' → Bag K G' H' b [] → D.nx [a0, some (.ref b), a2, some (.ref W), a4, some (.str tx), a6, some (.str nr), x8, x9, x10, x11, x12, a13, a14, a15] H') :
    t_law_4b_3 K D [a0, some (.ref b), a2, some (.ref W), a4, some (.str tx), a6, some (.str nr), a8, a9, a10, a11, a12, a13, a14, a15] H := by
  unfold t_law_4b_3
  walk_at "gc"
  refine rd_lenS (sz_of (by omega)) ?_
  walk_at "gc"
  refine ⟨b, _, G, _, rfl, by omega, by omega, B, fun d H2 d0 d1 B2 => ?_⟩
  walk_at "gc"
  exact read_4 B2 hW ht hn st sn fun x9 x10 x11 x12 G' H' e' B' => q _ _ _ _ _ G' H' e' B'
theorem read_2 {w : Str} (B : Bag K G H b []) (hW : SqT K G W (c_WORDS.map V.str)) (ht : alls tx) (st : tx.length < 50) (hw : w ∈ c_WORDS)
    (q : ∀ x7 x8 x9 x10 x11 x12 G' H', Ex G G' → Bag K G' H' b [] → D.nx [a0, some (.ref b), some (.str letters), some (.ref W), a4, some (.str tx), some (.str w), x7, x8, x9, x10, x11, x12, a13, a14, a15] H') :
    t_law_4b_2 K D [a0, some (.ref b), some (.str letters), some (.ref W), a4, some (.str tx), some (.str w), a7, a8, a9, a10, a11, a12, a13, a14, a15] H := by
  have ⟨w1, w0⟩ := len_words w hw
  have aw := alls_words w hw
  have small : ∀ n : Nat, n < 100000 → n ≤ sizeLine := fun n h => sz_of (by omega)
  have l26 : letters.length = 26 := by decide +kernel
  unfold t_law_4b_2
  walk_at "gc"
  refine ⟨b, .str letters, G, _, rfl, B, .inr ⟨letters, rfl, by omega, by omega, fun c H1 hc B1 => ?_⟩⟩
  refine rd_addS (small _ (by show w.length + 1 < _; omega)) ?_
  walk_at "gc"
  refine ⟨b, .str letters, G, _, rfl, B1, .inr ⟨letters, rfl, by omega, by omega, fun c2 H2 hc2 B2 => ?_⟩⟩
  walk_at "gc"
  refine rd_addS (small _ (by show 1 + w.length < _; omega)) ?_
  walk_at "gc"
  refine rd_slS (small _ (by omega)) ?_
  walk_at "gc"
  have hne : 0 < (cps w).length := by rw [show (cps w).length = w.length from Array.length_toList ..]; omega
  refine rd_ixS (c := (cps w)[0]) (small _ (by omega)) (atI_nat (j := 0) (List.getElem?_eq_getElem hne)) ?_
  have l1 := cutS_length w (some 1) none
  refine rd_addS (small _ (by show (cutS w (some 1) none).length + 1 < _; omega)) ?_
  walk_at "gc"
  refine rd_slS (small _ (by omega)) ?_
  have l2 := cutS_length w none (some (-1))
  walk_at "gc"
  refine mk_lst (bag_world K b) B2 (by show 4 ≤ _; decide) fun z1 G1 e1 B3 h1 => ?_
  walk_at "gc"
  refine ⟨b, .ref z1, G1, _, rfl, B3, .inl ⟨z1, _, rfl, fun H' B' => .inl (ex_l B'.ex (sq_of h1)), by show 0 < 4; decide, by show 4 < _; decide, fun x H3 hx B4 => ?_⟩⟩
  obtain ⟨nr, rfl, hn, sn⟩ : ∃ nr : Str, x = .str nr ∧ alls nr ∧ nr.length < 100000 := by
    rcases in_two hx with rfl | hx
    · exact ⟨_, rfl, alls_add aw (alls_one hc), by rw [len_add]; show w.length + 1 < _; omega⟩
    rcases in_two hx with rfl | hx
    · exact ⟨_, rfl, alls_add (alls_one hc2) aw, by rw [len_add]; show 1 + w.length < _; omega⟩
    rcases in_two hx with rfl | hx
    · exact ⟨_, rfl, alls_add (alls_cut aw _ _) (alls_one (aw _ (List.getElem_mem hne))), by rw [len_add]; show (cutS w (some 1) none).length + 1 < _; omega⟩
    cases List.mem_singleton.mp hx
    exact ⟨_, rfl, alls_cut aw _ _, by omega⟩
  walk_at "gc"
  exact read_3 B4 (ex_t e1 hW) ht hn st sn fun x8 x9 x10 x11 x12 G' H' e' B' => q _ _ _ _ _ _ G' H' (e1.trans e') B'
theorem read_1 (B : Bag K G H b []) (hW : SqT K G W (c_WORDS.map V.str)) (ht : alls tx) (st : tx.length < 50)
    (q : ∀ x6 x7 x8 x9 x10 x11 x12 G' H', Ex G G' → Bag K G' H' b [] → D.nx [a0, some (.ref b), some (.str letters), some (.ref W), a4, some (.str tx), x6, x7, x8, x9, x10, x11, x12, a13, a14, a15] H') :
    t_law_4b_1 K D [a0, some (.ref b), some (.str letters), some (.ref W), a4, some (.str tx), a6, a7, a8, a9, a10, a11, a12, a13, a14, a15] H := by
  unfold t_law_4b_1
  walk_at "gc"
  refine ⟨b, .ref W, G, _, rfl, B, .inl ⟨W, _, rfl, fun H' B' => .inr (ex_t B'.ex hW), by decide, by decide, fun x H2 hx B2 => ?_⟩⟩
  obtain ⟨w, hw, rfl⟩ := List.mem_map.mp hx
  walk_at "gc"
  exact read_2 B2 hW ht st hw fun x7 x8 x9 x10 x11 x12 G' H' e' B' => q _ _ _ _ _ _ _ G' H' e' B'
theorem signs_map : ∀ vs : List V, (∀ v, v ∈ vs → ∃ c, v = .str ⟨#[c]⟩ ∧ c ∈ cps letters) → ∃ cs : List Nat, vs = (cs.map fun c => (⟨#[c]⟩ : Str)).map V.str ∧ ∀ c, c ∈ cs → c ∈ cps letters
  | [], _ => ⟨[], rfl, fun _ h => nomatch h⟩
  | v :: vs, h => by
    obtain ⟨c, rfl, hc⟩ := h v (List.mem_cons_self ..)
    obtain ⟨cs, rfl, hcs⟩ := signs_map vs fun u hu => h u (List.mem_cons_of_mem _ hu)
    exact ⟨c :: cs, rfl, fun d hd => (in_two hd).elim (fun e => e ▸ hc) (hcs d)⟩
theorem joinL_one : ∀ cs : List Nat, TL.joinL [] (cs.map fun c => [c]) = cs
  | [] => rfl
  | [c] => rfl
  | c :: d :: cs => by
    show [c] ++ ([] ++ TL.joinL [] ((d :: cs).map fun c => [c])) = c :: d :: cs
    rw [joinL_one (d :: cs)]
    rfl
theorem cps_join (cs : List Nat) : cps (Txt.join "" (cs.map fun c => (⟨#[c]⟩ : Str))) = cs := by
  have h := SX.join_S [] (cs.map fun c => [c])
  rw [joinL_one, List.map_map] at h
  exact congrArg cps h
theorem sum_one : ∀ cs : List Nat, ((cs.map fun c => (⟨#[c]⟩ : Str)).map (·.length)).sum = cs.length
  | [] => rfl
  | c :: cs => by
    rw [List.map_cons, List.map_cons, List.sum_cons, sum_one cs, List.length_cons]
    show 1 + cs.length = _
    omega
theorem read_turn (B : Bag K G H b []) (hW : SqT K G W (c_WORDS.map V.str))
    (q : ∀ x5 x6 x7 x8 x9 x10 x11 x12 G' H', Ex G G' → Bag K G' H' b [] → D.nx [a0, some (.ref b), some (.str letters), some (.ref W), a4, x5, x6, x7, x8, x9, x10, x11, x12, a13, a14, a15] H') :
    t_law_4b K D [a0, some (.ref b), some (.str letters), some (.ref W), a4, a5, a6, a7, a8, a9, a10, a11, a12, a13, a14, a15] H := by
  have l26 : letters.length = 26 := by decide +kernel
  unfold t_law_4b
  refine rd_seq (rd_asg (rd_join (rd_lc (rd_rng1 ?_))))
  walk_at "gc"
  refine ⟨b, 11, G, _, rfl, by decide, by decide, B, fun m H1 m0 m1 B1 => ?_⟩
  walk_at "gc"
  refine ⟨m, rfl, by omega, by omega, ?_⟩
  refine lc_draws (bag_world K b) (n := m.toNat) (lo := 0) B1 (by omega) (fun _ => rfl) (fun v => ∃ c, v = .str ⟨#[c]⟩ ∧ c ∈ cps letters) (fun i acc D1 G3 H3 hi e3 B3 Kp kp => ?_) (fun D1 vs G3 H3 e3 B3 hl hvs => ?_)
  · walk_at "gc"
    refine ⟨b, .str letters, G3, _, rfl, B3, .inr ⟨letters, rfl, by omega, by omega, fun c H4 hc B4 => ?_⟩⟩
    exact kp _ G3 H4 (Ex.refl _) B4 ⟨c, rfl, hc⟩
  obtain ⟨cs, rfl, hcs⟩ := signs_map vs hvs
  rw [List.length_map, List.length_map] at hl
  have hj := cps_join cs
  refine ⟨D1, _, rfl, sq_of ((bag_world K b).get B3), by rw [sum_one]; omega, ?_⟩
  walk_at "gc"
  refine read_1 ((bag_world K b).drop B3) (ex_t e3 hW) (fun c hc => hcs c (hj ▸ hc)) ?_ fun x6 x7 x8 x9 x10 x11 x12 G' H' e' B' => q _ _ _ _ _ _ _ _ G' H' (e3.trans e') B'
  have h2 : (Txt.join "" (cs.map fun c => (⟨#[c]⟩ : Str))).length = (cps (Txt.join "" (cs.map fun c => (⟨#[c]⟩ : Str)))).length := (Array.length_toList ..).symm
  rw [h2, hj]
  omega
end



section
variable {K : PySem.W.Frag} [CK : Consts K] {G H : Hp} {D : Ends} {b W : Addr} {a0 a1 a2 a3 a4 a5 a6 a7 a8 a9 a10 a11 a12 a13 a14 a15 : Option V}
theorem read_l4 (B : Bag K G H b []) (hW : SqT K G W (c_WORDS.map V.str)) (q : ∀ H', D.rt (.bl true) H') :
    t_law_4 K D [a0, some (.ref b), some (.str letters), some (.ref W), a4, a5, a6, a7, a8, a9, a10, a11, a12, a13, a14, a15] H := by
  unfold t_law_4
  refine rd_seq (rd_for (rd_rng1 ?_))
  walk_at "go"
  refine ⟨8, rfl, by decide, by decide, ?_⟩
  refine for_go (walk_range (lo := 0) (n := (8 : Int).toNat)) (G := G)
    (fun i σ1 G2 H2 => ∃ x4 x5 x6 x7 x8 x9 x10 x11 x12, σ1 = [a0, some (.ref b), some (.str letters), some (.ref W), x4, x5, x6, x7, x8, x9, x10, x11, x12, a13, a14, a15] ∧ Ex G G2 ∧ Bag K G2 H2 b [])
    ⟨_, _, _, _, _, _, _, _, _, rfl, Ex.refl G, B⟩ (fun _ _ _ _ _ _ => True.intro) ?_ ?_
  · rintro i x σ1 G2 H2 H3 hi ⟨x4, x5, x6, x7, x8, x9, x10, x11, x12, rfl, e2, B2⟩ y N hN
    obtain ⟨rfl, rfl⟩ := y
    walk_at "go"
    exact read_turn B2 (ex_t e2 hW) fun x5 x6 x7 x8 x9 x10 x11 x12 G' H' e' B' => hN _ G' H' ⟨_, _, _, _, _, _, _, _, _, rfl, e2.trans e', B'⟩
  · rintro σ1 G2 H2 ⟨x4, x5, x6, x7, x8, x9, x10, x11, x12, rfl, e2, B2⟩
    exact read_q5 B2 q
theorem strs_dp {G : Hp} : ∀ l : List Str, DpAll K G (l.map V.str) (l.map PyData.str)
  | [] => .nil
  | z :: l => .cons (.str z) (strs_dp l)
theorem read_l3 (B : Bag K G H b []) (hW : SqT K G W (c_WORDS.map V.str)) (q : ∀ H', D.rt (.bl true) H') :
    t_law_3 K D [a0, some (.ref b), some (.str letters), some (.ref W), a4, a5, a6, a7, a8, a9, a10, a11, a12, a13, a14, a15] H := by
  obtain ⟨M, S, hM⟩ := B.stt
  obtain ⟨w, hw, hws⟩ := CK.words
  unfold t_law_3
  rw [hw]
  walk_at "gc"
  have dw : Dp K G (.ref w) (.tuple (c_WORDS.map PyData.str)) := .tup (hws G) (strs_dp _)
  have dW : Dp K G (.ref W) (.tuple (c_WORDS.map PyData.str)) := .tup hW (strs_dp _)
  refine ⟨G, M, .ref w, .ref W, _, _, rfl, S, dw, dW, by simp [fit, c_WORDS], fun H1 S1 => ?_⟩
  rw [lk_same dw]
  walk_at "gc"
  refine rd_lc (rd_it ?_)
  walk_at "gc"
  refine ⟨W, rfl, ⟨_, ex_t S1.ex hW⟩, ?_⟩
  refine lc_mapJ stt_world (walk_tup (xs := c_WORDS.map V.str)) S1 (fun H' e' => ex_t e' hW) (by decide) (fun _ => rfl) (fun _ => .bl false) (fun x acc D1 G2 H2 hx e2 S2 Kp kp => ?_) (fun D1 G2 H2 e2 S2 => ?_)
  · obtain ⟨z, hz, rfl⟩ := List.mem_map.mp hx
    have hl := len_words z hz
    walk_at "gc"
    refine ⟨.str z, .str z, G2, _, rfl, S2, .str z, by show z.length < _; omega, fun H3 S3 => ?_⟩
    rw [show isName (.str z) = false from name_words z hz]
    exact kp _ S3
  have e3 := S2.frzE
  have S3 := S2.frz
  have h3 : SqL K (upd G2 D1 (.lst ((c_WORDS.map V.str).map fun _ => .bl false))) D1 (List.replicate 11 (.bl false)) := sq_of upd_same
  generalize upd G2 D1 (.lst ((c_WORDS.map V.str).map fun _ => V.bl false)) = G3 at *
  walk_at "gc"
  refine mk_lst stt_world S3 (by show 1 ≤ _; decide) fun z2 G4 e4 S4 h4 => ?_
  walk_at "gc"
  refine .inr ⟨z2, 11, _, rfl, rfl, S4.ex _ _ h4, by decide, by decide, by decide, ?_⟩
  refine mk_im (o := .lst (List.replicate 11 (.bl false))) stt_world S4 fun z5 G5 e5 S5 h5 => ?_
  walk_at "gc"
  have db : DpAll K G5 (List.replicate 11 (.bl false)) (List.replicate 11 (.bool false)) := DpAll.bools (List.replicate 11 false)
  have dl : Dp K G5 (.ref D1) (.list (List.replicate 11 (.bool false))) := .lst (ex_l (e4.trans e5) h3) db
  have dr : Dp K G5 (.ref z5) (.list (List.replicate 11 (.bool false))) := .lst (sq_of h5) db
  refine ⟨G5, M, .ref D1, .ref z5, _, _, rfl, S5, dl, dr, by simp [fit, List.replicate], fun H6 S6 => ?_⟩
  rw [lk_same dl]
  walk_at "gc"
  have eG := e2.trans (e3.trans (e4.trans e5))
  exact read_l4 (hM G5 H6 eG S6) (ex_t eG hW) q
end
def sp_law (K : PySem.W.Frag) : Sp := fun vs H Q _ => ∃ (a : Addr) (ns : List Int), vs = [.ref a] ∧ SqL K H a (ns.map V.int) ∧ (∀ H', Q (.bl true) H')
theorem read_law {K : PySem.W.Frag} [CK : Consts K] {a : Addr} {ns : List Int} {H : Hp} {D : Ends} {a1 a2 a3 a4 a5 a6 a7 a8 a9 a10 a11 a12 a13 a14 a15 : Option V} (ha : SqL K H a (ns.map V.int)) (q : ∀ H', D.rt (.bl true) H') :
    t_law K D [some (.ref a), a1, a2, a3, a4, a5, a6, a7, a8, a9, a10, a11, a12, a13, a14, a15] H := by
  unfold t_law
  walk_at "go"
  refine ⟨a, ns, H, [], rfl, Stt.nil H, ha, fun b G1 H1 e1 B1 => ?_⟩
  walk_at "go"
  unfold t_law_1
  walk_at "go"
  unfold t_law_2
  walk_at "go"
  refine mk_tup (bag_world K b) B1 (by show 11 ≤ _; decide) fun W G2 e2 B2 hW => ?_
  exact read_l3 B2 (st_of hW) q
theorem sat_law {K : PySem.W.Frag} [CK : Consts K] {vs : List V} {H : Hp} {Q : VK} {E : XK} (h : sp_law K vs H Q E) : vs.length = 1 ∧ t_law K { nx := fun _ H' => Q .non H', rt := Q } (vs.map some ++ List.replicate (16 - vs.length) none) H := by
  obtain ⟨a, ns, rfl, ha, q⟩ := h
  exact ⟨rfl, read_law ha q⟩

end EE
namespace K02
open PySem PySem.Spec PyProof.Rows L2 Evl RZ EE
def topS (i : Nat) : Stmt := PySem.Challenge.pw_eachentry_k02_names_and_values.main.body.getD i (.Pass ⟨0, 0, 0, 0⟩)
abbrev s_is_name : Stmt := topS 4
theorem sc_is_name : FnScope ["value", "letter"] ["value"] (defScope s_is_name) := ⟨rfl, rfl, rfl, by decide +kernel, rfl, by decide +kernel, by decide +kernel⟩
abbrev s_is_number : Stmt := topS 5
theorem sc_is_number : FnScope ["value"] ["value"] (defScope s_is_number) := ⟨rfl, rfl, rfl, by decide +kernel, rfl, by decide +kernel, by decide +kernel⟩
abbrev s_is_value : Stmt := topS 6
theorem sc_is_value : FnScope ["value"] ["value"] (defScope s_is_value) := ⟨rfl, rfl, rfl, by decide +kernel, rfl, by decide +kernel, by decide +kernel⟩
abbrev s_is_before : Stmt := topS 7
theorem sc_is_before : FnScope ["one", "other"] ["one", "other"] (defScope s_is_before) := ⟨rfl, rfl, rfl, by decide +kernel, rfl, by decide +kernel, by decide +kernel⟩
abbrev s_open : Stmt := topS 9
theorem sc_open : FnScope ["_law_script"] ["_law_script"] (defScope s_open) := ⟨rfl, rfl, rfl, by decide +kernel, rfl, by decide +kernel, by decide +kernel⟩
abbrev s_draw : Stmt := topS 10
theorem sc_draw : FnScope ["_law_bag", "_law_many", "_law_cell", "_law_digit", "_law_seed"] ["_law_bag", "_law_many"] (defScope s_draw) := ⟨rfl, rfl, rfl, by decide +kernel, rfl, by decide +kernel, by decide +kernel⟩
abbrev s_ofS : Stmt := topS 11
theorem sc_ofS : FnScope ["_law_bag", "_law_things"] ["_law_bag", "_law_things"] (defScope s_ofS) := ⟨rfl, rfl, rfl, by decide +kernel, rfl, by decide +kernel, by decide +kernel⟩
abbrev s_like : Stmt := topS 12
theorem sc_like : FnScope ["_law_found", "_law_due", "_law_one_z", "_law_other_z"] ["_law_found", "_law_due"] (defScope s_like) := ⟨rfl, rfl, rfl, by decide +kernel, rfl, by decide +kernel, by decide +kernel⟩
abbrev s_law : Stmt := topS 13
theorem sc_law : FnScope ["_law_script", "_law_bag", "_law_letters", "_law_words", "_law_turn", "_law_text", "_law_word", "_law_near", "_law_at", "_law_bent", "_law_due", "_law_one_z", "_law_other_z", "_law_odd", "_law_name", "_law_k"] ["_law_script"] (defScope s_law) := ⟨rfl, rfl, rfl, by decide +kernel, rfl, by decide +kernel, by decide +kernel⟩
section
variable {base : Heap} {P : Program} {w : World} {mg : Str → Option Value} {K : PySem.W.Frag} [CK : Consts K]
theorem cal_is_name {f : Addr} {fd : FuncData} (F : Fun K "is_name" "is_name" s_is_name f fd) (g : mg "is_name" = some (.ref f)) (m_isinstance : mg "isinstance" = none) (m_str : mg "str" = none) (m_len : mg "len" = none) (m_all : mg "all" = none) (g_MOST_LETTERS : ∃ u, mg "MOST_LETTERS" = some u ∧ RelV v_MOST_LETTERS u) (g_WORDS : ∃ u, mg "WORDS" = some u ∧ RelV (v_WORDS K) u) (g_LETTERS : ∃ u, mg "LETTERS" = some u ∧ RelV v_LETTERS u) : C8.Cal P w K mg base 1 "is_name" (sp_is_name K) [] := by
  have G : FnOk P w K mg base CX0 1 f fd ["value"] (sp_is_name K) := by
    refine F.ok sc_is_name (fun vs H Q E h => (sat_is_name h).1) (fun cdv A outer s H vs Q E hr h => ?_)
    have nd := sc_is_name.nd
    exact ⟨_, (pss_cons (ps_if (PW.pt (pw_or (pt_not (pt_val (pe_callB cg_isi (by rfl) m_isinstance (by decide +kernel) (pa_cons (pv 0) (pa_cons (pe_bltn (v := .ty "str") (u := .type "str") (by rfl) m_str (by decide +kernel) rfl) pa_nil))))) (pw_or (pt_not (pt_chain og_le og_le pe_int (pe_callB cg_len (by rfl) m_len (by decide +kernel) (pa_cons (pv 0) pa_nil)) (C8.pe_gc (by rfl) g_MOST_LETTERS))) (pw_or1 (pt_cmpR og_in (pv 0) (C8.pe_gc (by rfl) g_WORDS) (by rfl)))))) (pss_one (ps_ret pe_bl)) pss_nil)
  (pss_one (ps_ret (pe_callB (cr_all rfl) (by rfl) m_all (by decide +kernel) (pa_cons (pe_lc (own := [("letter", 1)]) (g := (gName 1)) (tt := tYes) rfl nd (pi_str (pv 0)) (blkOk_by (N := ["value", "letter"]) (sc := defScope s_is_name) (by decide +kernel)) (fun _ _ _ _ _ => (pg_name (i := 1) nd rfl (.inl rfl))) (fun _ _ _ _ _ => pts_nil) (fun _ _ _ _ _ => (pe_cmpR og_in (pv 1) (C8.pe_gc (by rfl) g_LETTERS) (by rfl)))) pa_nil))))), (sat_is_name h).2⟩
  exact cal_mk F G g fun _ _ _ _ _ _ us hl => match us, hl with | [_], _ => rfl
theorem calK_is_name_value {f : Addr} {fd : FuncData} (F : Fun K "is_name" "is_name" s_is_name f fd) (g : mg "is_name" = some (.ref f)) (m_isinstance : mg "isinstance" = none) (m_str : mg "str" = none) (m_len : mg "len" = none) (m_all : mg "all" = none) (g_MOST_LETTERS : ∃ u, mg "MOST_LETTERS" = some u ∧ RelV v_MOST_LETTERS u) (g_WORDS : ∃ u, mg "WORDS" = some u ∧ RelV (v_WORDS K) u) (g_LETTERS : ∃ u, mg "LETTERS" = some u ∧ RelV v_LETTERS u) : CalK P w K mg base 1 "is_name" (sp_is_name K) ["value"] [0] := by
  have G : FnOk P w K mg base CX0 1 f fd ["value"] (sp_is_name K) := by
    refine F.ok sc_is_name (fun vs H Q E h => (sat_is_name h).1) (fun cdv A outer s H vs Q E hr h => ?_)
    have nd := sc_is_name.nd
    exact ⟨_, (pss_cons (ps_if (PW.pt (pw_or (pt_not (pt_val (pe_callB cg_isi (by rfl) m_isinstance (by decide +kernel) (pa_cons (pv 0) (pa_cons (pe_bltn (v := .ty "str") (u := .type "str") (by rfl) m_str (by decide +kernel) rfl) pa_nil))))) (pw_or (pt_not (pt_chain og_le og_le pe_int (pe_callB cg_len (by rfl) m_len (by decide +kernel) (pa_cons (pv 0) pa_nil)) (C8.pe_gc (by rfl) g_MOST_LETTERS))) (pw_or1 (pt_cmpR og_in (pv 0) (C8.pe_gc (by rfl) g_WORDS) (by rfl)))))) (pss_one (ps_ret pe_bl)) pss_nil)
  (pss_one (ps_ret (pe_callB (cr_all rfl) (by rfl) m_all (by decide +kernel) (pa_cons (pe_lc (own := [("letter", 1)]) (g := (gName 1)) (tt := tYes) rfl nd (pi_str (pv 0)) (blkOk_by (N := ["value", "letter"]) (sc := defScope s_is_name) (by decide +kernel)) (fun _ _ _ _ _ => (pg_name (i := 1) nd rfl (.inl rfl))) (fun _ _ _ _ _ => pts_nil) (fun _ _ _ _ _ => (pe_cmpR og_in (pv 1) (C8.pe_gc (by rfl) g_LETTERS) (by rfl)))) pa_nil))))), (sat_is_name h).2⟩
  exact calK_mk F G g (by decide) fun _ _ _ _ _ _ ws hl => match ws, hl with | [_], _ => rfl
theorem cal_is_number {f : Addr} {fd : FuncData} (F : Fun K "is_number" "is_number" s_is_number f fd) (g : mg "is_number" = some (.ref f)) (m_isinstance : mg "isinstance" = none) (m_int : mg "int" = none) (m_bool : mg "bool" = none) : C8.Cal P w K mg base 1 "is_number" (sp_is_number K) [] := by
  have G : FnOk P w K mg base CX0 1 f fd ["value"] (sp_is_number K) := by
    refine F.ok sc_is_number (fun vs H Q E h => (sat_is_number h).1) (fun cdv A outer s H vs Q E hr h => ?_)
    have nd := sc_is_number.nd
    exact ⟨_, (pss_one (ps_ret (pe_and (pe_callB cg_isi (by rfl) m_isinstance (by decide +kernel) (pa_cons (pv 0) (pa_cons (pe_bltn (v := .ty "int") (u := .type "int") (by rfl) m_int (by decide +kernel) rfl) pa_nil))) (pe_one (pe_not (pe_callB cg_isi (by rfl) m_isinstance (by decide +kernel) (pa_cons (pv 0) (pa_cons (pe_bltn (v := .ty "bool") (u := .type "bool") (by rfl) m_bool (by decide +kernel) rfl) pa_nil)))))))), (sat_is_number h).2⟩
  exact cal_mk F G g fun _ _ _ _ _ _ us hl => match us, hl with | [_], _ => rfl
theorem calK_is_number_value {f : Addr} {fd : FuncData} (F : Fun K "is_number" "is_number" s_is_number f fd) (g : mg "is_number" = some (.ref f)) (m_isinstance : mg "isinstance" = none) (m_int : mg "int" = none) (m_bool : mg "bool" = none) : CalK P w K mg base 1 "is_number" (sp_is_number K) ["value"] [0] := by
  have G : FnOk P w K mg base CX0 1 f fd ["value"] (sp_is_number K) := by
    refine F.ok sc_is_number (fun vs H Q E h => (sat_is_number h).1) (fun cdv A outer s H vs Q E hr h => ?_)
    have nd := sc_is_number.nd
    exact ⟨_, (pss_one (ps_ret (pe_and (pe_callB cg_isi (by rfl) m_isinstance (by decide +kernel) (pa_cons (pv 0) (pa_cons (pe_bltn (v := .ty "int") (u := .type "int") (by rfl) m_int (by decide +kernel) rfl) pa_nil))) (pe_one (pe_not (pe_callB cg_isi (by rfl) m_isinstance (by decide +kernel) (pa_cons (pv 0) (pa_cons (pe_bltn (v := .ty "bool") (u := .type "bool") (by rfl) m_bool (by decide +kernel) rfl) pa_nil)))))))), (sat_is_number h).2⟩
  exact calK_mk F G g (by decide) fun _ _ _ _ _ _ ws hl => match ws, hl with | [_], _ => rfl
theorem cal_is_value {f : Addr} {fd : FuncData} (F : Fun K "is_value" "is_value" s_is_value f fd) (g : mg "is_value" = some (.ref f)) (C_is_number : C8.Cal P w K mg base 1 "is_number" (sp_is_number K) []) : C8.Cal P w K mg base 2 "is_value" (sp_is_value K) [] := by
  have G : FnOk P w K mg base CX0 2 f fd ["value"] (sp_is_value K) := by
    refine F.ok sc_is_value (fun vs H Q E h => (sat_is_value h).1) (fun cdv A outer s H vs Q E hr h => ?_)
    have nd := sc_is_value.nd
    exact ⟨_, (pss_one (ps_ret (pe_or (pe_cmpR op_isN1 (pv 0) pe_non (nomark _)) (pe_one (C8.pe_c C_is_number hr (by decide) (by rfl) (pa_cons (pv 0) pa_nil)))))), (sat_is_value h).2⟩
  exact cal_mk F G g fun _ _ _ _ _ _ us hl => match us, hl with | [_], _ => rfl
theorem calK_is_value_value {f : Addr} {fd : FuncData} (F : Fun K "is_value" "is_value" s_is_value f fd) (g : mg "is_value" = some (.ref f)) (C_is_number : C8.Cal P w K mg base 1 "is_number" (sp_is_number K) []) : CalK P w K mg base 2 "is_value" (sp_is_value K) ["value"] [0] := by
  have G : FnOk P w K mg base CX0 2 f fd ["value"] (sp_is_value K) := by
    refine F.ok sc_is_value (fun vs H Q E h => (sat_is_value h).1) (fun cdv A outer s H vs Q E hr h => ?_)
    have nd := sc_is_value.nd
    exact ⟨_, (pss_one (ps_ret (pe_or (pe_cmpR op_isN1 (pv 0) pe_non (nomark _)) (pe_one (C8.pe_c C_is_number hr (by decide) (by rfl) (pa_cons (pv 0) pa_nil)))))), (sat_is_value h).2⟩
  exact calK_mk F G g (by decide) fun _ _ _ _ _ _ ws hl => match ws, hl with | [_], _ => rfl
theorem cal_is_before {f : Addr} {fd : FuncData} (F : Fun K "is_before" "is_before" s_is_before f fd) (g : mg "is_before" = some (.ref f)) (m_bool : mg "bool" = none) : C8.Cal P w K mg base 1 "is_before" (sp_is_before K) [] := by
  have G : FnOk P w K mg base CX0 1 f fd ["one", "other"] (sp_is_before K) := by
    refine F.ok sc_is_before (fun vs H Q E h => (sat_is_before h).1) (fun cdv A outer s H vs Q E hr h => ?_)
    have nd := sc_is_before.nd
    exact ⟨_, (pss_cons (ps_if (PW.pt (pw_or (pt_cmpR op_isN1 (pv 0) pe_non (nomark _)) (pw_or1 (pt_cmpR op_isN1 (pv 1) pe_non (nomark _))))) (pss_one (ps_ret (pe_and (pe_cmpR op_isN1 (pv 0) pe_non (nomark _)) (pe_one (pe_cmpR op_notN1 (pv 1) pe_non (nomark _)))))) pss_nil)
  (pss_one (ps_ret (pe_callTy cg_bool (by rfl) m_bool (by decide +kernel) (pa_cons (pe_cmpR (og_lt hr.units) (pv 0) (pv 1) (nomark _)) pa_nil))))), (sat_is_before h).2⟩
  exact cal_mk F G g fun _ _ _ _ _ _ us hl => match us, hl with | [_, _], _ => rfl
theorem calK_is_before_other_one {f : Addr} {fd : FuncData} (F : Fun K "is_before" "is_before" s_is_before f fd) (g : mg "is_before" = some (.ref f)) (m_bool : mg "bool" = none) : CalK P w K mg base 1 "is_before" (sp_is_before K) ["other", "one"] [1, 0] := by
  have G : FnOk P w K mg base CX0 1 f fd ["one", "other"] (sp_is_before K) := by
    refine F.ok sc_is_before (fun vs H Q E h => (sat_is_before h).1) (fun cdv A outer s H vs Q E hr h => ?_)
    have nd := sc_is_before.nd
    exact ⟨_, (pss_cons (ps_if (PW.pt (pw_or (pt_cmpR op_isN1 (pv 0) pe_non (nomark _)) (pw_or1 (pt_cmpR op_isN1 (pv 1) pe_non (nomark _))))) (pss_one (ps_ret (pe_and (pe_cmpR op_isN1 (pv 0) pe_non (nomark _)) (pe_one (pe_cmpR op_notN1 (pv 1) pe_non (nomark _)))))) pss_nil)
  (pss_one (ps_ret (pe_callTy cg_bool (by rfl) m_bool (by decide +kernel) (pa_cons (pe_cmpR (og_lt hr.units) (pv 0) (pv 1) (nomark _)) pa_nil))))), (sat_is_before h).2⟩
  exact calK_mk F G g (by decide) fun _ _ _ _ _ _ ws hl => match ws, hl with | [_, _], _ => rfl
theorem cal_open {f : Addr} {fd : FuncData} (F : Fun K "_law_open" "_law_open" s_open f fd) (g : mg "_law_open" = some (.ref f)) (m_list : mg "list" = none) : C8.Cal P w K mg base 1 "_law_open" (sp_open K) [] := by
  have G : FnOk P w K mg base CX0 1 f fd ["_law_script"] (sp_open K) := by
    refine F.ok sc_open (fun vs H Q E h => (sat_open h).1) (fun cdv A outer s H vs Q E hr h => ?_)
    have nd := sc_open.nd
    exact ⟨_, (pss_one (ps_ret (pe_lst (pa_cons (pe_callTy cg_list (by rfl) m_list (by decide +kernel) (pa_cons (pe_slice og_sl (pv 0) po_none (po_some pe_int)) pa_nil)) (pa_cons pe_int (pa_cons pe_int (pa_cons pe_int (pa_cons pe_int pa_nil)))))))), (sat_open h).2⟩
  exact cal_mk F G g fun _ _ _ _ _ _ us hl => match us, hl with | [_], _ => rfl
theorem cal_draw {f : Addr} {fd : FuncData} (F : Fun K "_law_draw" "_law_draw" s_draw f fd) (g : mg "_law_draw" = some (.ref f)) (m_len : mg "len" = none) (m_int : mg "int" = none) : C8.Cal P w K mg base 1 "_law_draw" (sp_draw K) [] := by
  have G : FnOk P w K mg base CX0 1 f fd ["_law_bag", "_law_many"] (sp_draw K) := by
    refine F.ok sc_draw (fun vs H Q E h => (sat_draw h).1) (fun cdv A outer s H vs Q E hr h => ?_)
    have nd := sc_draw.nd
    exact ⟨_, (pss_cons (ps_if (PW.pt (pw_and (pt_cmpR (og_eq hr.units) (pe_ix ix_seq (pv 0) pe_int (fun _ _ => rfl)) pe_int (nomark _)) (pw_and1 (pt_cmpR (og_lt hr.units) (pe_ix ix_seq (pv 0) pe_int (fun _ _ => rfl)) (pe_callB cg_len (by rfl) m_len (by decide +kernel) (pa_cons (pe_ix ix_seq (pv 0) pe_int (fun _ _ => rfl)) pa_nil)) (nomark _))))) (pss_cons (ps_set (i := 2) nd rfl (.inl rfl) (pe_ix ix_seq (pe_ix ix_seq (pv 0) pe_int (fun _ _ => rfl)) (pe_ix ix_seq (pv 0) pe_int (fun _ _ => rfl)) (fun _ _ => rfl)))
  (pss_cons (ps_asg (pe_op og_add (pe_ix ix_seq (pv 0) pe_int (fun _ _ => rfl)) pe_int) (pg_sub (pv 0) pe_int set_list))
  (pss_cons (ps_asg (pe_ifExp (pt_cmpR og_ge (pv 2) (pe_op og_pow pe_int pe_int) (nomark _)) (pv 2) pe_int) (pg_sub (pv 0) pe_int set_list))
  (pss_one (ps_asg (pe_op og_mod (pe_callTy cg_int (by rfl) m_int (by decide +kernel) (pa_cons (pe_op og_add (pe_op og_add (pe_op og_mul (pe_ix ix_seq (pv 0) pe_int (fun _ _ => rfl)) pe_int) (pe_op og_mul (pe_op og_mod (pe_callTy cg_int (by rfl) m_int (by decide +kernel) (pa_cons (pv 2) pa_nil)) pe_int) pe_int)) pe_int) pa_nil)) pe_int) (pg_sub (pv 0) pe_int set_list)))))) pss_nil)
  (pss_cons (ps_if (pt_cmpR og_gt (pe_ix ix_seq (pv 0) pe_int (fun _ _ => rfl)) pe_int (nomark _)) (pss_cons (ps_set (i := 3) nd rfl (.inl rfl) (pe_op og_mod (pe_callTy cg_int (by rfl) m_int (by decide +kernel) (pa_cons (pe_ix ix_seq (pv 0) pe_int (fun _ _ => rfl)) pa_nil)) (pv 1)))
  (pss_cons (ps_asg (pe_op og_fdiv (pe_ix ix_seq (pv 0) pe_int (fun _ _ => rfl)) (pv 1)) (pg_sub (pv 0) pe_int set_list))
  (pss_one (ps_ret (pv 3))))) pss_nil)
  (pss_cons (ps_asg (pe_op og_add (pe_ix ix_seq (pv 0) pe_int (fun _ _ => rfl)) pe_int) (pg_sub (pv 0) pe_int set_list))
  (pss_cons (ps_set (i := 4) nd rfl (.inl rfl) (pe_ix ix_seq (pv 0) pe_int (fun _ _ => rfl)))
  (pss_cons (ps_asg (pe_op og_mod (pe_callTy cg_int (by rfl) m_int (by decide +kernel) (pa_cons (pe_op og_add (pe_op og_add (pe_op og_add (pe_op og_mul (pv 4) (pv 4)) (pe_op og_mul pe_int (pv 4))) (pe_op og_mul pe_int (pe_ix ix_seq (pv 0) pe_int (fun _ _ => rfl)))) pe_int) pa_nil)) pe_int) (pg_sub (pv 0) pe_int set_list))
  (pss_one (ps_ret (pe_op og_mod (pe_callTy cg_int (by rfl) m_int (by decide +kernel) (pa_cons (pe_op og_add (pe_op og_add (pe_op og_fdiv (pe_ix ix_seq (pv 0) pe_int (fun _ _ => rfl)) pe_int) (pe_op og_mul (pv 4) pe_int)) (pe_ix ix_seq (pv 0) pe_int (fun _ _ => rfl))) pa_nil)) (pv 1))))))))), (sat_draw h).2⟩
  exact cal_mk F G g fun _ _ _ _ _ _ us hl => match us, hl with | [_, _], _ => rfl
theorem cal_ofS {f : Addr} {fd : FuncData} (F : Fun K "_law_of" "_law_of" s_ofS f fd) (g : mg "_law_of" = some (.ref f)) (C__law_draw : C8.Cal P w K mg base 1 "_law_draw" (sp_draw K) []) (m_len : mg "len" = none) : C8.Cal P w K mg base 2 "_law_of" (sp_ofS K) [] := by
  have G : FnOk P w K mg base CX0 2 f fd ["_law_bag", "_law_things"] (sp_ofS K) := by
    refine F.ok sc_ofS (fun vs H Q E h => (sat_ofS h).1) (fun cdv A outer s H vs Q E hr h => ?_)
    have nd := sc_ofS.nd
    exact ⟨_, (pss_one (ps_ret (pe_ix ix_seq (pv 1) (C8.pe_c C__law_draw hr (by decide) (by rfl) (pa_cons (pv 0) (pa_cons (pe_callB cg_len (by rfl) m_len (by decide +kernel) (pa_cons (pv 1) pa_nil)) pa_nil))) (fun _ _ => rfl)))), (sat_ofS h).2⟩
  exact cal_mk F G g fun _ _ _ _ _ _ us hl => match us, hl with | [_, _], _ => rfl
theorem cal_like {f : Addr} {fd : FuncData} (F : Fun K "_law_like" "_law_like" s_like f fd) (g : mg "_law_like" = some (.ref f)) (m_isinstance : mg "isinstance" = none) (m_tuple : mg "tuple" = none) (m_list : mg "list" = none) (m_len : mg "len" = none) (m_all : mg "all" = none) (m_zip : mg "zip" = none) (m_bool : mg "bool" = none) (m_int : mg "int" = none) (m_str : mg "str" = none) : ∀ n, C8.Cal P w K mg base n "_law_like" (sp_like K n) []
  | 0 => ⟨f, fd, ["_law_found", "_law_due"], [], fnOk_never (never_like K), g, F.kp, F.binds fun _ _ _ _ _ _ us hl => match us, hl with | [_, _], _ => rfl, .nil⟩
  | n + 1 => by
    have C__law_like := cal_like F g m_isinstance m_tuple m_list m_len m_all m_zip m_bool m_int m_str n
    have G : FnOk P w K mg base CX0 (n + 1) f fd ["_law_found", "_law_due"] (sp_like K (n + 1)) := by
      refine F.ok sc_like (fun vs H Q E h => (sat_like h).1) (fun cdv A outer s H vs Q E hr h => ?_)
      have nd := sc_like.nd
      exact ⟨_, (pss_cons (ps_if (pt_val (pe_callB cg_isi (by rfl) m_isinstance (by decide +kernel) (pa_cons (pv 1) (pa_cons (pe_tup (pa_cons (pe_bltn (v := .ty "list") (u := .type "list") (by rfl) m_list (by decide +kernel) rfl) (pa_cons (pe_bltn (v := .ty "tuple") (u := .type "tuple") (by rfl) m_tuple (by decide +kernel) rfl) pa_nil))) pa_nil)))) (pss_cons (ps_if (PW.pt (pw_or (pt_cmpR (og_ne hr.units) (pe_callB cg_isi (by rfl) m_isinstance (by decide +kernel) (pa_cons (pv 0) (pa_cons (pe_bltn (v := .ty "list") (u := .type "list") (by rfl) m_list (by decide +kernel) rfl) pa_nil))) (pe_callB cg_isi (by rfl) m_isinstance (by decide +kernel) (pa_cons (pv 1) (pa_cons (pe_bltn (v := .ty "list") (u := .type "list") (by rfl) m_list (by decide +kernel) rfl) pa_nil))) (nomark _)) (pw_or1 (pt_cmpR (og_ne hr.units) (pe_callB cg_isi (by rfl) m_isinstance (by decide +kernel) (pa_cons (pv 0) (pa_cons (pe_bltn (v := .ty "tuple") (u := .type "tuple") (by rfl) m_tuple (by decide +kernel) rfl) pa_nil))) (pe_callB cg_isi (by rfl) m_isinstance (by decide +kernel) (pa_cons (pv 1) (pa_cons (pe_bltn (v := .ty "tuple") (u := .type "tuple") (by rfl) m_tuple (by decide +kernel) rfl) pa_nil))) (nomark _))))) (pss_one (ps_ret pe_bl)) pss_nil)
    (pss_one (ps_ret (pe_and (pe_cmpR (og_eq hr.units) (pe_callB cg_len (by rfl) m_len (by decide +kernel) (pa_cons (pv 0) pa_nil)) (pe_callB cg_len (by rfl) m_len (by decide +kernel) (pa_cons (pv 1) pa_nil)) (nomark _)) (pe_one (pe_callB (cr_all rfl) (by rfl) m_all (by decide +kernel) (pa_cons (pe_lc (own := [("_law_one_z", 2), ("_law_other_z", 3)]) (g := (gTup K 2 (gCons (gName 2) (gCons (gName 3) gNil)))) (tt := tYes) rfl nd (pi_zipA (by rfl) m_zip (pa_cons (pv 0) (pa_cons (pv 1) pa_nil))) (blkOk_by (N := ["_law_found", "_law_due", "_law_one_z", "_law_other_z"]) (sc := defScope s_like) (by decide +kernel)) (fun _ _ _ _ _ => (pg_tup rfl (pgs_cons (pg_name (i := 2) nd rfl (.inl rfl)) (pgs_cons (pg_name (i := 3) nd rfl (.inl rfl)) pgs_nil)))) (fun _ _ _ _ _ => pts_nil) (fun _ _ _ _ _ => (C8.pe_c C__law_like hr (by first | decide | exact Nat.le_refl _) (by rfl) (pa_cons (pv 2) (pa_cons (pv 3) pa_nil))))) pa_nil))))))) pss_nil)
    (pss_cons (ps_if (PW.pt (pw_or (pt_cmpR op_isN1 (pv 1) pe_non (nomark _)) (pw_or1 (pt_cmpR op_isN1 (pv 0) pe_non (nomark _))))) (pss_one (ps_ret (pe_and (pe_cmpR op_isN1 (pv 1) pe_non (nomark _)) (pe_one (pe_cmpR op_isN1 (pv 0) pe_non (nomark _)))))) pss_nil)
    (pss_cons (ps_if (PW.pt (pw_or (pt_cmpR (og_ne hr.units) (pe_callB cg_isi (by rfl) m_isinstance (by decide +kernel) (pa_cons (pv 0) (pa_cons (pe_bltn (v := .ty "bool") (u := .type "bool") (by rfl) m_bool (by decide +kernel) rfl) pa_nil))) (pe_callB cg_isi (by rfl) m_isinstance (by decide +kernel) (pa_cons (pv 1) (pa_cons (pe_bltn (v := .ty "bool") (u := .type "bool") (by rfl) m_bool (by decide +kernel) rfl) pa_nil))) (nomark _)) (pw_or1 (pt_cmpR (og_ne hr.units) (pe_callB cg_isi (by rfl) m_isinstance (by decide +kernel) (pa_cons (pv 0) (pa_cons (pe_bltn (v := .ty "int") (u := .type "int") (by rfl) m_int (by decide +kernel) rfl) pa_nil))) (pe_callB cg_isi (by rfl) m_isinstance (by decide +kernel) (pa_cons (pv 1) (pa_cons (pe_bltn (v := .ty "int") (u := .type "int") (by rfl) m_int (by decide +kernel) rfl) pa_nil))) (nomark _))))) (pss_one (ps_ret pe_bl)) pss_nil)
    (pss_one (ps_ret (pe_and (pe_cmpR (og_eq hr.units) (pe_callB cg_isi (by rfl) m_isinstance (by decide +kernel) (pa_cons (pv 0) (pa_cons (pe_bltn (v := .ty "str") (u := .type "str") (by rfl) m_str (by decide +kernel) rfl) pa_nil))) (pe_callB cg_isi (by rfl) m_isinstance (by decide +kernel) (pa_cons (pv 1) (pa_cons (pe_bltn (v := .ty "str") (u := .type "str") (by rfl) m_str (by decide +kernel) rfl) pa_nil))) (nomark _)) (pe_one (pe_cmpR (og_eq hr.units) (pv 0) (pv 1) (nomark _))))))))), (sat_like h).2⟩
    exact cal_mk F G g fun _ _ _ _ _ _ us hl => match us, hl with | [_, _], _ => rfl
theorem ok_law {f : Addr} {fd : FuncData} (F : Fun K "law" "law" s_law f fd) (C__law_open : C8.Cal P w K mg base 1 "_law_open" (sp_open K) []) (C__law_like : C8.Cal P w K mg base 9 "_law_like" (sp_like K 9) []) (C_is_name : C8.Cal P w K mg base 1 "is_name" (sp_is_name K) []) (C__law_draw : C8.Cal P w K mg base 1 "_law_draw" (sp_draw K) []) (C__law_of : C8.Cal P w K mg base 2 "_law_of" (sp_ofS K) []) (C_is_number : C8.Cal P w K mg base 1 "is_number" (sp_is_number K) []) (C_is_value : C8.Cal P w K mg base 2 "is_value" (sp_is_value K) []) (C_is_before : C8.Cal P w K mg base 1 "is_before" (sp_is_before K) []) (C_is_name_value : CalK P w K mg base 1 "is_name" (sp_is_name K) ["value"] [0]) (C_is_before_other_one : CalK P w K mg base 1 "is_before" (sp_is_before K) ["other", "one"] [1, 0]) (C_is_value_value : CalK P w K mg base 2 "is_value" (sp_is_value K) ["value"] [0]) (C_is_number_value : CalK P w K mg base 1 "is_number" (sp_is_number K) ["value"] [0]) (m_range : mg "range" = none) (m_len : mg "len" = none) (g_WORDS : ∃ u, mg "WORDS" = some u ∧ RelV (v_WORDS K) u) : FnOk P w K mg base CX0 10 f fd ["_law_script"] (sp_law K) := by
  have G : FnOk P w K mg base CX0 10 f fd ["_law_script"] (sp_law K) := by
    refine F.ok sc_law (fun vs H Q E h => (sat_law h).1) (fun cdv A outer s H vs Q E hr h => ?_)
    have nd := sc_law.nd
    exact ⟨_, (pss_cons (ps_set (i := 1) nd rfl (.inr rfl) (C8.pe_c C__law_open hr (by decide) (by rfl) (pa_cons (pv 0) pa_nil)))
  (pss_cons (ps_set (i := 2) nd rfl (.inr rfl) pe_str)
  (pss_cons (ps_set (i := 3) nd rfl (.inr rfl) (pe_tup (pa_cons pe_str (pa_cons pe_str (pa_cons pe_str (pa_cons pe_str (pa_cons pe_str (pa_cons pe_str (pa_cons pe_str (pa_cons pe_str (pa_cons pe_str (pa_cons pe_str (pa_cons pe_str pa_nil)))))))))))))
  (pss_cons (ps_if (PW.pt (pw_or (pt_not (pt_val (C8.pe_c C__law_like hr (by decide) (by rfl) (pa_cons (C8.pe_gc (by rfl) g_WORDS) (pa_cons (pv 3) pa_nil))))) (pw_or1 (pt_not (pt_val (C8.pe_c C__law_like hr (by decide) (by rfl) (pa_cons (pe_lc (own := [("_law_word", 6)]) (g := (gName 6)) (tt := tYes) rfl nd (pi_tup (pv 3)) (blkOk_by (N := ["_law_script", "_law_bag", "_law_letters", "_law_words", "_law_turn", "_law_text", "_law_word", "_law_near", "_law_at", "_law_bent", "_law_due", "_law_one_z", "_law_other_z", "_law_odd", "_law_name", "_law_k"]) (sc := defScope s_law) (by decide +kernel)) (fun _ _ _ _ _ => (pg_name (i := 6) nd rfl (.inl rfl))) (fun _ _ _ _ _ => pts_nil) (fun _ _ _ _ _ => (C8.pe_c C_is_name hr (by decide) (by rfl) (pa_cons (pv 6) pa_nil)))) (pa_cons (pe_op og_mul (pe_lst (pa_cons pe_bl pa_nil)) pe_int) pa_nil)))))))) (pss_one (ps_ret pe_bl)) pss_nil)
  (pss_cons (ps_for PassesOwn.never rfl (pi_range1 (by rfl) m_range (pa_cons pe_int pa_nil)) (pg_name (i := 4) nd rfl (.inl rfl)) (pss_cons (ps_set (i := 5) nd rfl (.inl rfl) (pe_join0 (pe_lc (own := [("_law_k", 15)]) (g := (gName 15)) (tt := tYes) rfl nd (pi_range1 (by rfl) m_range (pa_cons (C8.pe_c C__law_draw hr (by decide) (by rfl) (pa_cons (pv 1) (pa_cons pe_int pa_nil))) pa_nil)) (blkOk_by (N := ["_law_script", "_law_bag", "_law_letters", "_law_words", "_law_turn", "_law_text", "_law_word", "_law_near", "_law_at", "_law_bent", "_law_due", "_law_one_z", "_law_other_z", "_law_odd", "_law_name", "_law_k"]) (sc := defScope s_law) (by decide +kernel)) (fun _ _ _ _ _ => (pg_name (i := 15) nd rfl (.inl rfl))) (fun _ _ _ _ _ => pts_nil) (fun _ _ _ _ _ => (C8.pe_c C__law_of hr (by decide) (by rfl) (pa_cons (pv 1) (pa_cons (pv 2) pa_nil)))))))
  (pss_cons (ps_set (i := 6) nd rfl (.inl rfl) (C8.pe_c C__law_of hr (by decide) (by rfl) (pa_cons (pv 1) (pa_cons (pv 3) pa_nil))))
  (pss_cons (ps_set (i := 7) nd rfl (.inl rfl) (C8.pe_c C__law_of hr (by decide) (by rfl) (pa_cons (pv 1) (pa_cons (pe_lst (pa_cons (pe_op og_add (pv 6) (C8.pe_c C__law_of hr (by decide) (by rfl) (pa_cons (pv 1) (pa_cons (pv 2) pa_nil)))) (pa_cons (pe_op og_add (C8.pe_c C__law_of hr (by decide) (by rfl) (pa_cons (pv 1) (pa_cons (pv 2) pa_nil))) (pv 6)) (pa_cons (pe_op og_add (pe_slice og_sl (pv 6) (po_some pe_int) po_none) (pe_ix ix_seq (pv 6) pe_int (fun _ _ => rfl))) (pa_cons (pe_slice og_sl (pv 6) po_none (po_some (pe_un un_neg pe_int))) pa_nil))))) pa_nil))))
  (pss_cons (ps_set (i := 8) nd rfl (.inl rfl) (C8.pe_c C__law_draw hr (by decide) (by rfl) (pa_cons (pv 1) (pa_cons (pe_op og_add (pe_callB cg_len (by rfl) m_len (by decide +kernel) (pa_cons (pv 5) pa_nil)) pe_int) pa_nil))))
  (pss_cons (ps_set (i := 9) nd rfl (.inl rfl) (pe_op og_add (pe_op og_add (pe_slice og_sl (pv 5) po_none (po_some (pv 8))) (C8.pe_c C__law_of hr (by decide) (by rfl) (pa_cons (pv 1) (pa_cons (pe_lst (pa_cons pe_str (pa_cons pe_str (pa_cons pe_str (pa_cons pe_str (pa_cons pe_str (pa_cons pe_str (pa_cons pe_str pa_nil)))))))) pa_nil)))) (pe_slice og_sl (pv 5) (po_some (pv 8)) po_none)))
  (pss_cons (ps_set (i := 10) nd rfl (.inl rfl) (pe_op og_add (pe_lc (own := [("_law_one_z", 11)]) (g := (gName 11)) (tt := tYes) rfl nd (pi_list (pe_lst (pa_cons (pv 5) (pa_cons (pv 7) pa_nil)))) (blkOk_by (N := ["_law_script", "_law_bag", "_law_letters", "_law_words", "_law_turn", "_law_text", "_law_word", "_law_near", "_law_at", "_law_bent", "_law_due", "_law_one_z", "_law_other_z", "_law_odd", "_law_name", "_law_k"]) (sc := defScope s_law) (by decide +kernel)) (fun _ _ _ _ _ => (pg_name (i := 11) nd rfl (.inl rfl))) (fun _ _ _ _ _ => pts_nil) (fun _ _ _ _ _ => (pe_and (pe_chain og_le og_le pe_int (pe_callB cg_len (by rfl) m_len (by decide +kernel) (pa_cons (pv 11) pa_nil)) pe_int) (pe_one (pe_cmpR og_notIn (pv 11) (pv 3) (by rfl)))))) (pe_lst (pa_cons pe_bl pa_nil))))
  (pss_cons (ps_if (pt_not (pt_val (C8.pe_c C__law_like hr (by decide) (by rfl) (pa_cons (pe_lst (pa_cons (C8.pe_c C_is_name hr (by decide) (by rfl) (pa_cons (pv 5) pa_nil)) (pa_cons (pe_cK C_is_name_value hr (by decide) (by rfl) (pk_cons (pv 7) pk_nil)) (pa_cons (C8.pe_c C_is_name hr (by decide) (by rfl) (pa_cons (pv 9) pa_nil)) pa_nil)))) (pa_cons (pv 10) pa_nil))))) (pss_one (ps_ret pe_bl)) pss_nil)
  (pss_cons (ps_asg (pe_lc (own := [("_law_k", 15)]) (g := (gName 15)) (tt := tYes) rfl nd (pi_range1 (by rfl) m_range (pa_cons pe_int pa_nil)) (blkOk_by (N := ["_law_script", "_law_bag", "_law_letters", "_law_words", "_law_turn", "_law_text", "_law_word", "_law_near", "_law_at", "_law_bent", "_law_due", "_law_one_z", "_law_other_z", "_law_odd", "_law_name", "_law_k"]) (sc := defScope s_law) (by decide +kernel)) (fun _ _ _ _ _ => (pg_name (i := 15) nd rfl (.inl rfl))) (fun _ _ _ _ _ => pts_nil) (fun _ _ _ _ _ => (pe_ifExp (pt_cmpR (og_eq hr.units) (C8.pe_c C__law_draw hr (by decide) (by rfl) (pa_cons (pv 1) (pa_cons pe_int pa_nil))) pe_int (nomark _)) pe_non (pe_op og_add (pe_op og_sub (C8.pe_c C__law_draw hr (by decide) (by rfl) (pa_cons (pv 1) (pa_cons pe_int pa_nil))) pe_int) (C8.pe_c C__law_of hr (by decide) (by rfl) (pa_cons (pv 1) (pa_cons (pe_lst (pa_cons pe_int (pa_cons pe_int (pa_cons (pe_op og_pow pe_int pe_int) pa_nil)))) pa_nil))))))) (pg_lst rfl (pgs_cons (pg_name (i := 11) nd rfl (.inl rfl)) (pgs_cons (pg_name (i := 12) nd rfl (.inl rfl)) pgs_nil))))
  (pss_cons (ps_set (i := 10) nd rfl (.inl rfl) (pe_ifExp (pt_cmpR op_isN1 (pv 11) pe_non (nomark _)) (pe_cmpR op_notN1 (pv 12) pe_non (nomark _)) (pe_and (pe_cmpR op_notN1 (pv 12) pe_non (nomark _)) (pe_one (pe_cmpR (og_lt hr.units) (pv 11) (pv 12) (nomark _))))))
  (pss_one (ps_if (pt_not (pt_val (C8.pe_c C__law_like hr (by decide) (by rfl) (pa_cons (pe_lst (pa_cons (C8.pe_c C_is_before hr (by decide) (by rfl) (pa_cons (pv 11) (pa_cons (pv 12) pa_nil))) (pa_cons (pe_cK C_is_before_other_one hr (by decide) (by rfl) (pk_cons (pv 11) (pk_cons (pv 11) pk_nil))) (pa_cons (C8.pe_c C_is_value hr (by decide) (by rfl) (pa_cons (pv 11) pa_nil)) (pa_cons (C8.pe_c C_is_number hr (by decide) (by rfl) (pa_cons (pv 11) pa_nil)) pa_nil))))) (pa_cons (pe_lst (pa_cons (pv 10) (pa_cons pe_bl (pa_cons pe_bl (pa_cons (pe_cmpR op_notN1 (pv 11) pe_non (nomark _)) pa_nil))))) pa_nil))))) (pss_one (ps_ret pe_bl)) pss_nil))))))))))))
  (pss_cons (ps_set (i := 13) nd rfl (.inl rfl) (C8.pe_c C__law_of hr (by decide) (by rfl) (pa_cons (pv 1) (pa_cons (pe_lst (pa_cons pe_bl (pa_cons pe_bl (pa_cons pe_str (pa_cons pe_str (pa_cons (pe_lst (pa_cons pe_int pa_nil)) (pa_cons (pe_tup pa_nil) (pa_cons pe_str (pa_cons (pe_lst (pa_cons pe_non pa_nil)) pa_nil))))))))) pa_nil))))
  (pss_cons (ps_set (i := 14) nd rfl (.inl rfl) (C8.pe_c C__law_of hr (by decide) (by rfl) (pa_cons (pv 1) (pa_cons (pe_lst (pa_cons pe_non (pa_cons pe_int (pa_cons pe_bl (pa_cons (pe_lst (pa_cons pe_str pa_nil)) (pa_cons (pe_tup (pa_cons pe_str pa_nil)) (pa_cons (pe_lst pa_nil) (pa_cons pe_int pa_nil)))))))) pa_nil))))
  (pss_cons (ps_if (pt_not (pt_val (C8.pe_c C__law_like hr (by decide) (by rfl) (pa_cons (pe_lst (pa_cons (C8.pe_c C_is_number hr (by decide) (by rfl) (pa_cons (pv 13) pa_nil)) (pa_cons (C8.pe_c C_is_value hr (by decide) (by rfl) (pa_cons (pv 13) pa_nil)) (pa_cons (C8.pe_c C_is_name hr (by decide) (by rfl) (pa_cons (pv 14) pa_nil)) pa_nil)))) (pa_cons (pe_op og_mul (pe_lst (pa_cons pe_bl pa_nil)) pe_int) pa_nil))))) (pss_one (ps_ret pe_bl)) pss_nil)
  (pss_one (ps_ret (C8.pe_c C__law_like hr (by decide) (by rfl) (pa_cons (pe_lst (pa_cons (pe_cK C_is_number_value hr (by decide) (by rfl) (pk_cons pe_int pk_nil)) (pa_cons (pe_cK C_is_value_value hr (by decide) (by rfl) (pk_cons pe_non pk_nil)) (pa_cons (C8.pe_c C_is_number hr (by decide) (by rfl) (pa_cons pe_non pa_nil)) (pa_cons (C8.pe_c C_is_name hr (by decide) (by rfl) (pa_cons pe_str pa_nil)) (pa_cons (C8.pe_c C_is_name hr (by decide) (by rfl) (pa_cons pe_str pa_nil)) (pa_cons (C8.pe_c C_is_name hr (by decide) (by rfl) (pa_cons pe_str pa_nil)) pa_nil))))))) (pa_cons (pe_lst (pa_cons pe_bl (pa_cons pe_bl (pa_cons pe_bl (pa_cons pe_bl (pa_cons pe_bl (pa_cons pe_bl pa_nil))))))) pa_nil))))))))))))), (sat_law h).2⟩
  exact G
end
/-! ### the end -/
theorem all_mk {l : PySem.W.OpenLaw} {w : World} {K : PySem.W.Frag} {h : Heap} {mg : Str → Option Value} {fa : Addr} (X : K.In h) (G : h.Ns mainGlobals mg) (hfa : mg "law" = some (.ref fa))
    {f0 : Addr} {od0 an0 : Option Addr} {sl0 : Array (Option Value)} {oc0 kV0 dc0 pm0 cd0 ct0 : Value}
    {f1 : Addr} {od1 an1 : Option Addr} {sl1 : Array (Option Value)} {oc1 kV1 dc1 pm1 cd1 ct1 : Value}
    {f2 : Addr} {od2 an2 : Option Addr} {sl2 : Array (Option Value)} {oc2 kV2 dc2 pm2 cd2 ct2 : Value}
    {f3 : Addr} {od3 an3 : Option Addr} {sl3 : Array (Option Value)} {oc3 kV3 dc3 pm3 cd3 ct3 : Value}
    {f4 : Addr} {od4 an4 : Option Addr} {sl4 : Array (Option Value)} {oc4 kV4 dc4 pm4 cd4 ct4 : Value}
    {f5 : Addr} {od5 an5 : Option Addr} {sl5 : Array (Option Value)} {oc5 kV5 dc5 pm5 cd5 ct5 : Value}
    {f6 : Addr} {od6 an6 : Option Addr} {sl6 : Array (Option Value)} {oc6 kV6 dc6 pm6 cd6 ct6 : Value}
    {f7 : Addr} {od7 an7 : Option Addr} {sl7 : Array (Option Value)} {oc7 kV7 dc7 pm7 cd7 ct7 : Value}
    {f8 : Addr} {od8 an8 : Option Addr} {sl8 : Array (Option Value)} {oc8 kV8 dc8 pm8 cd8 ct8 : Value}
    {t_LETTERS : Tok}
    {t_MOST_LETTERS : Tok}
    {h_WORDS : Addr} {od_WORDS : Option Addr} {sl_WORDS : Array (Option Value)} {its_WORDS : Array Value} {n_WORDS : Nat}
    (a0 : PySem.W.nsIn K mainGlobals "is_name" = some (some (.ref f0))) (l0 : K.lookup f0 = some ⟨oc0, od0, .func (PySem.W.fnOf "is_name" "is_name" (defArgs s_is_name) (defBody s_is_name) (defScope s_is_name) .none kV0 dc0 pm0 an0 cd0 ct0), sl0⟩) (c0 : PySem.W.codeIn K cd0 "is_name" = true) (k0 : PySem.W.keepIn K (.ref f0) = true)
    (a1 : PySem.W.nsIn K mainGlobals "is_number" = some (some (.ref f1))) (l1 : K.lookup f1 = some ⟨oc1, od1, .func (PySem.W.fnOf "is_number" "is_number" (defArgs s_is_number) (defBody s_is_number) (defScope s_is_number) .none kV1 dc1 pm1 an1 cd1 ct1), sl1⟩) (c1 : PySem.W.codeIn K cd1 "is_number" = true) (k1 : PySem.W.keepIn K (.ref f1) = true)
    (a2 : PySem.W.nsIn K mainGlobals "is_value" = some (some (.ref f2))) (l2 : K.lookup f2 = some ⟨oc2, od2, .func (PySem.W.fnOf "is_value" "is_value" (defArgs s_is_value) (defBody s_is_value) (defScope s_is_value) .none kV2 dc2 pm2 an2 cd2 ct2), sl2⟩) (c2 : PySem.W.codeIn K cd2 "is_value" = true) (k2 : PySem.W.keepIn K (.ref f2) = true)
    (a3 : PySem.W.nsIn K mainGlobals "is_before" = some (some (.ref f3))) (l3 : K.lookup f3 = some ⟨oc3, od3, .func (PySem.W.fnOf "is_before" "is_before" (defArgs s_is_before) (defBody s_is_before) (defScope s_is_before) .none kV3 dc3 pm3 an3 cd3 ct3), sl3⟩) (c3 : PySem.W.codeIn K cd3 "is_before" = true) (k3 : PySem.W.keepIn K (.ref f3) = true)
    (a4 : PySem.W.nsIn K mainGlobals "_law_open" = some (some (.ref f4))) (l4 : K.lookup f4 = some ⟨oc4, od4, .func (PySem.W.fnOf "_law_open" "_law_open" (defArgs s_open) (defBody s_open) (defScope s_open) .none kV4 dc4 pm4 an4 cd4 ct4), sl4⟩) (c4 : PySem.W.codeIn K cd4 "_law_open" = true) (k4 : PySem.W.keepIn K (.ref f4) = true)
    (a5 : PySem.W.nsIn K mainGlobals "_law_draw" = some (some (.ref f5))) (l5 : K.lookup f5 = some ⟨oc5, od5, .func (PySem.W.fnOf "_law_draw" "_law_draw" (defArgs s_draw) (defBody s_draw) (defScope s_draw) .none kV5 dc5 pm5 an5 cd5 ct5), sl5⟩) (c5 : PySem.W.codeIn K cd5 "_law_draw" = true) (k5 : PySem.W.keepIn K (.ref f5) = true)
    (a6 : PySem.W.nsIn K mainGlobals "_law_of" = some (some (.ref f6))) (l6 : K.lookup f6 = some ⟨oc6, od6, .func (PySem.W.fnOf "_law_of" "_law_of" (defArgs s_ofS) (defBody s_ofS) (defScope s_ofS) .none kV6 dc6 pm6 an6 cd6 ct6), sl6⟩) (c6 : PySem.W.codeIn K cd6 "_law_of" = true) (k6 : PySem.W.keepIn K (.ref f6) = true)
    (a7 : PySem.W.nsIn K mainGlobals "_law_like" = some (some (.ref f7))) (l7 : K.lookup f7 = some ⟨oc7, od7, .func (PySem.W.fnOf "_law_like" "_law_like" (defArgs s_like) (defBody s_like) (defScope s_like) .none kV7 dc7 pm7 an7 cd7 ct7), sl7⟩) (c7 : PySem.W.codeIn K cd7 "_law_like" = true) (k7 : PySem.W.keepIn K (.ref f7) = true)
    (a8 : PySem.W.nsIn K mainGlobals "law" = some (some (.ref f8))) (l8 : K.lookup f8 = some ⟨oc8, od8, .func (PySem.W.fnOf "law" "law" (defArgs s_law) (defBody s_law) (defScope s_law) .none kV8 dc8 pm8 an8 cd8 ct8), sl8⟩) (c8 : PySem.W.codeIn K cd8 "law" = true) (k8 : PySem.W.keepIn K (.ref f8) = true)
    (z_all : PySem.W.nsIn K mainGlobals "all" = some none)
    (z_bool : PySem.W.nsIn K mainGlobals "bool" = some none)
    (z_int : PySem.W.nsIn K mainGlobals "int" = some none)
    (z_isinstance : PySem.W.nsIn K mainGlobals "isinstance" = some none)
    (z_len : PySem.W.nsIn K mainGlobals "len" = some none)
    (z_list : PySem.W.nsIn K mainGlobals "list" = some none)
    (z_range : PySem.W.nsIn K mainGlobals "range" = some none)
    (z_str : PySem.W.nsIn K mainGlobals "str" = some none)
    (z_tuple : PySem.W.nsIn K mainGlobals "tuple" = some none)
    (z_zip : PySem.W.nsIn K mainGlobals "zip" = some none)
    (w_LETTERS : PySem.W.nsIn K mainGlobals "LETTERS" = some (some (.str "abcdefghijklmnopqrstuvwxyz" t_LETTERS)))
    (w_MOST_LETTERS : PySem.W.nsIn K mainGlobals "MOST_LETTERS" = some (some (.int 8 t_MOST_LETTERS)))
    (w_WORDS : PySem.W.nsIn K mainGlobals "WORDS" = some (some (.ref h_WORDS))) (o_WORDS : K.lookup h_WORDS = some ⟨.type "tuple", od_WORDS, .seq its_WORDS n_WORDS, sl_WORDS⟩) (i_WORDS : its_WORDS.size ≤ sizeLine ∧ Vals (c_WORDS.map V.str) its_WORDS.toList) :
    ∃ fd : FuncData, (∀ (s : Shared) (v : Value), BindsTo s fd ⟨[v], []⟩ [("_law_script", v)]) ∧ ∀ base : Heap, K.In base → base.Ns mainGlobals mg → FnOk l.prog w K mg base CX0 10 fa fd ["_law_script"] (sp_law K) := by
  have F0 := fun_mk (st := s_is_name) l0 c0 k0
  have g0 := PySem.W.mg_of X G a0
  have F1 := fun_mk (st := s_is_number) l1 c1 k1
  have g1 := PySem.W.mg_of X G a1
  have F2 := fun_mk (st := s_is_value) l2 c2 k2
  have g2 := PySem.W.mg_of X G a2
  have F3 := fun_mk (st := s_is_before) l3 c3 k3
  have g3 := PySem.W.mg_of X G a3
  have F4 := fun_mk (st := s_open) l4 c4 k4
  have g4 := PySem.W.mg_of X G a4
  have F5 := fun_mk (st := s_draw) l5 c5 k5
  have g5 := PySem.W.mg_of X G a5
  have F6 := fun_mk (st := s_ofS) l6 c6 k6
  have g6 := PySem.W.mg_of X G a6
  have F7 := fun_mk (st := s_like) l7 c7 k7
  have g7 := PySem.W.mg_of X G a7
  have F8 := fun_mk (st := s_law) l8 c8 k8
  have g8 := PySem.W.mg_of X G a8
  have m_all := PySem.W.mg_none_of X G z_all
  have m_bool := PySem.W.mg_none_of X G z_bool
  have m_int := PySem.W.mg_none_of X G z_int
  have m_isinstance := PySem.W.mg_none_of X G z_isinstance
  have m_len := PySem.W.mg_none_of X G z_len
  have m_list := PySem.W.mg_none_of X G z_list
  have m_range := PySem.W.mg_none_of X G z_range
  have m_str := PySem.W.mg_none_of X G z_str
  have m_tuple := PySem.W.mg_none_of X G z_tuple
  have m_zip := PySem.W.mg_none_of X G z_zip
  have r_WORDS : v_WORDS K = .ref h_WORDS := by unfold v_WORDS; rw [w_WORDS]
  haveI CK : Consts K := ⟨h_WORDS, r_WORDS, fun _ => .inr ⟨_, _, _, o_WORDS, rfl, rfl, i_WORDS.1, i_WORDS.2⟩⟩
  have g_LETTERS : ∃ u, mg "LETTERS" = some u ∧ RelV v_LETTERS u := ⟨_, PySem.W.mg_of X G w_LETTERS, _, rfl⟩
  have g_MOST_LETTERS : ∃ u, mg "MOST_LETTERS" = some u ∧ RelV v_MOST_LETTERS u := ⟨_, PySem.W.mg_of X G w_MOST_LETTERS, _, rfl⟩
  have g_WORDS : ∃ u, mg "WORDS" = some u ∧ RelV (v_WORDS K) u := ⟨_, PySem.W.mg_of X G w_WORDS, by rw [r_WORDS]; rfl⟩
  have e := hfa.symm.trans g8
  cases e
  refine ⟨PySem.W.fnOf "law" "law" (defArgs s_law) (defBody s_law) (defScope s_law) .none kV8 dc8 pm8 an8 cd8 ct8, fun s v => .of_eq rfl, fun base _ _ => ?_⟩
  have C_is_name := cal_is_name (P := l.prog) (w := w) (base := base) F0 g0 m_isinstance m_str m_len m_all g_MOST_LETTERS g_WORDS g_LETTERS
  have C_is_name_value := calK_is_name_value (P := l.prog) (w := w) (base := base) F0 g0 m_isinstance m_str m_len m_all g_MOST_LETTERS g_WORDS g_LETTERS
  have C_is_number := cal_is_number (P := l.prog) (w := w) (base := base) F1 g1 m_isinstance m_int m_bool
  have C_is_number_value := calK_is_number_value (P := l.prog) (w := w) (base := base) F1 g1 m_isinstance m_int m_bool
  have C_is_value := cal_is_value (P := l.prog) (w := w) (base := base) F2 g2 C_is_number
  have C_is_value_value := calK_is_value_value (P := l.prog) (w := w) (base := base) F2 g2 C_is_number
  have C_is_before := cal_is_before (P := l.prog) (w := w) (base := base) F3 g3 m_bool
  have C_is_before_other_one := calK_is_before_other_one (P := l.prog) (w := w) (base := base) F3 g3 m_bool
  have C__law_open := cal_open (P := l.prog) (w := w) (base := base) F4 g4 m_list
  have C__law_draw := cal_draw (P := l.prog) (w := w) (base := base) F5 g5 m_len m_int
  have C__law_of := cal_ofS (P := l.prog) (w := w) (base := base) F6 g6 C__law_draw m_len
  have C__law_like := cal_like (P := l.prog) (w := w) (base := base) F7 g7 m_isinstance m_tuple m_list m_len m_all m_zip m_bool m_int m_str 9
  exact ok_law F8 C__law_open C__law_like C_is_name C__law_draw C__law_of C_is_number C_is_value C_is_before C_is_name_value C_is_before_other_one C_is_value_value C_is_number_value m_range m_len g_WORDS
end K02
open PySem PySem.W PyProof.Rows
set_option maxRecDepth 100000 in
set_option maxHeartbeats 0 in
theorem PySem.Challenge.cw_eachentry_k02_names_and_values_holds : PySem.Challenge.rw_eachentry_k02_names_and_values.Holds := by
  w_on; o_law; k_head; (case hw => w_witness2)
  k_fill
  refine L2.walk_of (l := PySem.Challenge.rw_eachentry_k02_names_and_values) (n := 63) (k := 10) (x := "_law_script") (CX := fun _ => L2.CX0) (sp := fun w => EE.sp_law _) rfl (by decide) rfl ⟨rfl, by decide, by decide⟩ (fun w h Y => PySem.W.kIn_of Y) ?F (fun _ _ a ns hl _ hS => ⟨a, ns, rfl, hS, fun _ => rfl⟩) (fun _ _ _ _ _ h => h)
  case F =>
    intro w mg fa h KX G hmg
    refine' K02.all_mk KX G hmg ?a0 ?l0 ?c0 ?k0 ?a1 ?l1 ?c1 ?k1 ?a2 ?l2 ?c2 ?k2 ?a3 ?l3 ?c3 ?k3 ?a4 ?l4 ?c4 ?k4 ?a5 ?l5 ?c5 ?k5 ?a6 ?l6 ?c6 ?k6 ?a7 ?l7 ?c7 ?k7 ?a8 ?l8 ?c8 ?k8 ?z_all ?z_bool ?z_int ?z_isinstance ?z_len ?z_list ?z_range ?z_str ?z_tuple ?z_zip ?w_LETTERS ?w_MOST_LETTERS ?w_WORDS ?o_WORDS ?i_WORDS
    (case a0 => k_is); (case l0 => k_is); (case c0 => k_is); (case k0 => k_is); (case a1 => k_is); (case l1 => k_is); (case c1 => k_is); (case k1 => k_is); (case a2 => k_is); (case l2 => k_is); (case c2 => k_is); (case k2 => k_is); (case a3 => k_is); (case l3 => k_is); (case c3 => k_is); (case k3 => k_is); (case a4 => k_is); (case l4 => k_is); (case c4 => k_is); (case k4 => k_is); (case a5 => k_is); (case l5 => k_is); (case c5 => k_is); (case k5 => k_is); (case a6 => k_is); (case l6 => k_is); (case c6 => k_is); (case k6 => k_is); (case a7 => k_is); (case l7 => k_is); (case c7 => k_is); (case k7 => k_is); (case a8 => k_is); (case l8 => k_is); (case c8 => k_is); (case k8 => k_is); (case z_all => k_is); (case z_bool => k_is); (case z_int => k_is); (case z_isinstance => k_is); (case z_len => k_is); (case z_list => k_is); (case z_range => k_is); (case z_str => k_is); (case z_tuple => k_is); (case z_zip => k_is); (case w_LETTERS => k_is); (case w_MOST_LETTERS => k_is); (case w_WORDS => k_is); (case o_WORDS => k_is); (case i_WORDS => exact ⟨by decide, by repeat first | exact .nil | refine .cons ⟨_, rfl⟩ ?_⟩)
