import PyProof.Rows.All
import Wide.All
import OpenK.AllK
import Wide.FinOn
import HandS.ForMost
import HandS.Walk
import HandS.Steps
import HandS.Evl
import HandS.Zip
import HandS.IsInst
import HandS.Wide
import HandS.TupAny
import HandS.SortInts
import KE.LtData
import KE.DataEq
import HandS.Codes
import KE.DataMinMax
import HandS.SetFor
import HandS.Strs
import HandS.Style
import HandS.Conv
import PySem.Challenge.RW_eachentry_k05_whole_pieces_part_all_valu
set_option Elab.async false
set_option linter.all false
set_option maxRecDepth 100000
set_option maxHeartbeats 3000000
/-! The unchanging heap G under the heap H, with a list L of the objects that may change. -/
namespace EE
open PySem PySem.Spec PyProof.Rows L2 Evl RZ

/-- G: what stays; L: what may change; both stand in H -/
structure Stt (G H : Hp) (L : List (Addr × HO)) : Prop where
  ex : Ex G H
  has : ∀ p, p ∈ L → H p.1 = some p.2
  out : ∀ p, p ∈ L → G p.1 = none
  nd : (L.map (·.1)).Nodup

theorem Ex.upd2 {G H : Hp} {p : Addr} {o : HO} (e : Ex G H) : Ex (upd G p o) (upd H p o) := fun a u h => by
  unfold upd at h ⊢
  by_cases c : a = p
  · rw [if_pos c] at h ⊢; exact h
  · rw [if_neg c] at h ⊢; exact e a u h
section
variable {G H : Hp} {L : List (Addr × HO)} {p b : Addr} {o o' : HO}
theorem Stt.free (S : Stt G H L) (h : H p = none) : G p = none := fresh_back S.ex h
theorem Stt.ne (S : Stt G H L) (h : H p = none) : ∀ q, q ∈ L → q.1 ≠ p := fun q hq z => by
  have := S.has q hq
  rw [z, h] at this
  cases this
theorem Stt.new (S : Stt G H L) (h : H p = none) : Stt (upd G p o) (upd H p o) L :=
  ⟨Ex.upd2 S.ex, fun q hq => by rw [upd_ne (S.ne h q hq)]; exact S.has q hq, fun q hq => by rw [upd_ne (S.ne h q hq)]; exact S.out q hq, S.nd⟩
theorem Stt.newE (S : Stt G H L) (h : H p = none) : Ex G (upd G p o) := Ex.new (S.free h)
theorem Stt.mkL (S : Stt G H L) (h : H p = none) : Stt G (upd H p o) ((p, o) :: L) := by
  refine ⟨S.ex.trans (Ex.new h), fun q hq => ?_, fun q hq => ?_, ?_⟩
  · cases hq with
    | head => exact upd_same
    | tail _ hq => rw [upd_ne (S.ne h q hq)]; exact S.has q hq
  · cases hq with
    | head => exact S.free h
    | tail _ hq => exact S.out q hq
  · rw [List.map_cons, List.nodup_cons]
    refine ⟨fun hm => ?_, S.nd⟩
    obtain ⟨q, hq, e⟩ := List.mem_map.mp hm
    exact S.ne h q hq e
theorem Stt.at (S : Stt G H L) (i : Nat) (h : L[i]? = some (b, o)) : H b = some o := S.has (b, o) (List.mem_of_getElem? h)
theorem Stt.drop (S : Stt G H ((p, o) :: L)) : Stt G H L :=
  ⟨S.ex, fun q hq => S.has q (List.mem_cons_of_mem _ hq), fun q hq => S.out q (List.mem_cons_of_mem _ hq), (List.nodup_cons.mp S.nd).2⟩
/-- what changed no longer will -/
theorem Stt.frz (S : Stt G H ((p, o) :: L)) : Stt (upd G p o) H L := by
  have hp : H p = some o := S.has (p, o) (List.mem_cons_self ..)
  refine ⟨fun a u h => ?_, S.drop.has, fun q hq => ?_, S.drop.nd⟩
  · unfold upd at h
    by_cases c : a = p
    · rw [if_pos c] at h
      cases h
      rw [c]; exact hp
    · rw [if_neg c] at h; exact S.ex a u h
  · have hne : q.1 ≠ p := fun z => (List.nodup_cons.mp S.nd).1 (List.mem_map.mpr ⟨q, hq, z⟩)
    rw [upd_ne hne]
    exact S.out q (List.mem_cons_of_mem _ hq)
theorem Stt.frzE (S : Stt G H ((p, o) :: L)) : Ex G (upd G p o) := Ex.new (S.out (p, o) (List.mem_cons_self ..))
theorem Stt.wr (S : Stt G H L) (i : Nat) (h : L[i]? = some (b, o)) : Stt G (upd H b o') (L.set i (b, o')) := by
  have hi : i < L.length := (List.getElem?_eq_some_iff.mp h).1
  have hb : (b, o) ∈ L := List.mem_of_getElem? h
  have hmap : (L.set i (b, o')).map (·.1) = L.map (·.1) := by
    rw [List.map_set]
    apply List.ext_getElem?
    intro j
    rw [List.getElem?_set]
    by_cases c : i = j
    · subst c
      rw [if_pos rfl, if_pos (by rw [List.length_map]; exact hi), List.getElem?_map, h]
      rfl
    · rw [if_neg c]
  have key : ∀ q, q ∈ L.set i (b, o') → q = (b, o') ∨ (q ∈ L ∧ q.1 ≠ b) := fun q hq => by
    obtain ⟨j, hj⟩ := List.getElem?_of_mem hq
    rw [List.getElem?_set] at hj
    by_cases c : i = j
    · subst c
      rw [if_pos rfl, if_pos hi] at hj
      exact .inl (Option.some.inj hj).symm
    · rw [if_neg c] at hj
      refine .inr ⟨List.mem_of_getElem? hj, fun z => c ?_⟩
      have h1 : (L.map (·.1))[i]? = some b := by rw [List.getElem?_map, h]; rfl
      have h2 : (L.map (·.1))[j]? = some b := by rw [List.getElem?_map, hj, ← z]; rfl
      have hi' : i < (L.map (·.1)).length := by rw [List.length_map]; exact hi
      exact (List.getElem?_inj hi' S.nd).mp (h1.trans h2.symm)
  refine ⟨fun a u ha => ?_, fun q hq => ?_, fun q hq => ?_, by rw [hmap]; exact S.nd⟩
  · rw [upd_ne (ne_of_none ha (S.out (b, o) hb))]
    exact S.ex a u ha
  · rcases key q hq with rfl | ⟨hq, hne⟩
    · exact upd_same
    · rw [upd_ne hne]; exact S.has q hq
  · rcases key q hq with rfl | ⟨hq, hne⟩
    · exact S.out (b, o) hb
    · exact S.out q hq
theorem Stt.nil (H : Hp) : Stt H H [] := ⟨Ex.refl H, (fun _ h => nomatch h), (fun _ h => nomatch h), List.nodup_nil⟩
theorem Stt.out_nil {G H : Hp} (S : Stt G H []) : Stt H H [] := Stt.nil H
end

/-! ### data -/
mutual
theorem Dp.ex {K : PySem.W.Frag} {H H' : Hp} (e : Ex H H') : ∀ (d : PyData) (v : V), Dp K H v d → Dp K H' v d
  | .none, _, h => by cases h; exact .non
  | .bool b, _, h => by cases h; exact .bl b
  | .int i, _, h => by cases h; exact .int i
  | .str x, _, h => by cases h; exact .str x
  | .list ds, _, h => by
    cases h with
    | lst hs ha => exact .lst (ex_l e hs) (DpAll.ex e ds _ ha)
  | .tuple ds, _, h => by
    cases h with
    | tup hs ha => exact .tup (ex_t e hs) (DpAll.ex e ds _ ha)
  | .dict _, _, h => by cases h
theorem DpAll.ex {K : PySem.W.Frag} {H H' : Hp} (e : Ex H H') : ∀ (ds : List PyData) (vs : List V), DpAll K H vs ds → DpAll K H' vs ds
  | [], _, h => by cases h; exact .nil
  | d :: ds, _, h => by
    cases h with
    | cons h1 h2 => exact .cons (Dp.ex e d _ h1) (DpAll.ex e ds _ h2)
end
theorem DpAll.length {K : PySem.W.Frag} {H : Hp} : ∀ {vs : List V} {ds : List PyData}, DpAll K H vs ds → vs.length = ds.length
  | _, _, .nil => rfl
  | _, _, .cons _ h => by rw [List.length_cons, List.length_cons, DpAll.length h]
theorem DpAll.get {K : PySem.W.Frag} {H : Hp} : ∀ {vs : List V} {ds : List PyData} {i : Nat} {v : V}, DpAll K H vs ds → vs[i]? = some v → ∃ d, ds[i]? = some d ∧ Dp K H v d
  | _, _, _, _, .nil, h => by simp at h
  | _, _, 0, _, .cons h1 _, h => by
    cases (Option.some.inj h)
    exact ⟨_, rfl, h1⟩
  | _, _, i + 1, _, .cons _ h2, h => DpAll.get (i := i) h2 h
theorem DpAll.append {K : PySem.W.Frag} {H : Hp} : ∀ {vs ws : List V} {ds es : List PyData}, DpAll K H vs ds → DpAll K H ws es → DpAll K H (vs ++ ws) (ds ++ es)
  | _, _, _, _, .nil, h => h
  | _, _, _, _, .cons h1 h2, h => .cons h1 (DpAll.append h2 h)
theorem DpAll.snoc {K : PySem.W.Frag} {H : Hp} {vs : List V} {ds : List PyData} {v : V} {d : PyData} (h : DpAll K H vs ds) (h1 : Dp K H v d) : DpAll K H (vs ++ [v]) (ds ++ [d]) := DpAll.append h (.cons h1 .nil)
theorem DpAll.take {K : PySem.W.Frag} {H : Hp} : ∀ {vs : List V} {ds : List PyData} (n : Nat), DpAll K H vs ds → DpAll K H (vs.take n) (ds.take n)
  | _, _, 0, _ => .nil
  | _, _, _ + 1, .nil => .nil
  | _, _, n + 1, .cons h1 h2 => .cons h1 (DpAll.take n h2)
theorem DpAll.drop {K : PySem.W.Frag} {H : Hp} : ∀ {vs : List V} {ds : List PyData} (n : Nat), DpAll K H vs ds → DpAll K H (vs.drop n) (ds.drop n)
  | _, _, 0, h => h
  | _, _, _ + 1, .nil => .nil
  | _, _, n + 1, .cons _ h2 => DpAll.drop n h2
theorem DpAll.ints {K : PySem.W.Frag} {H : Hp} : ∀ (ns : List Int), DpAll K H (ns.map V.int) (ns.map PyData.int)
  | [] => .nil
  | n :: ns => .cons (.int n) (DpAll.ints ns)
theorem DpAll.bools {K : PySem.W.Frag} {H : Hp} : ∀ (ns : List Bool), DpAll K H (ns.map V.bl) (ns.map PyData.bool)
  | [] => .nil
  | n :: ns => .cons (.bl n) (DpAll.bools ns)

/-! Readings by the head of what is read; rules that serve several kinds of values. -/
section
variable {K : PySem.W.Frag} {σ : L2.St} {H : Hp} {v x y : V} {ta tb tc te : TE} {t u : TT} {Q : VK} {QT : Bool → Hp → Prop} {QA : List V → Hp → Prop} {D : Ends} {tr : TA} {t1 t2 : TS} {i : Nat}
theorem rd_var (h : σ[i]? = some (some v)) (q : Q v H) : tVar i σ H Q := ⟨v, h, q⟩
theorem rd_c (q : Q v H) : tC v σ H Q := q
theorem rd_op {r : R2} (q : ta σ H fun x H1 => tb σ H1 fun y H2 => r x y H2 Q) : tOp r ta tb σ H Q := q
theorem rd_un {r : V → Hp → VK → Prop} (q : ta σ H fun x H1 => r x H1 Q) : tUn r ta σ H Q := q
theorem rd_test (q : te σ H fun x H1 => ∃ k, x = .bl k ∧ QT k H1) : tTest te σ H QT := q
theorem rd_B (q : te σ H fun x H1 => ∃ k, x = .bl k ∧ QT k H1) : tB te σ H QT := q
theorem rd_bl {P : Bool → Prop} {k : Bool} (q : P k) : ∃ c, V.bl k = V.bl c ∧ P c := ⟨k, rfl, q⟩
theorem rd_and (q : t σ H fun c H1 => if c = true then u σ H1 QT else QT false H1) : tAnd t u σ H QT := q
theorem rd_or (q : t σ H fun c H1 => if c = true then QT true H1 else u σ H1 QT) : tOr t u σ H QT := q
theorem rd_not (q : t σ H fun c H1 => QT (!c) H1) : tNot t σ H QT := q
theorem rd_andV (q : ta σ H fun x H1 => ∃ c, x = .bl c ∧ if c = true then tb σ H1 Q else Q (.bl false) H1) : tAndV ta tb σ H Q := q
theorem rd_orV (q : ta σ H fun x H1 => ∃ c, x = .bl c ∧ if c = true then Q (.bl true) H1 else tb σ H1 Q) : tOrV ta tb σ H Q := q
theorem rd_notV (q : ta σ H fun x H1 => ∃ c, x = .bl c ∧ Q (.bl (!c)) H1) : tNotV ta σ H Q := q
theorem rd_if (q : t σ H fun c H1 => if c = true then ta σ H1 Q else tb σ H1 Q) : tIf t ta tb σ H Q := q
theorem rd_nil (q : QA [] H) : tNil σ H QA := q
theorem rd_cons (q : ta σ H fun x H1 => tr σ H1 fun xs H2 => QA (x :: xs) H2) : tCons ta tr σ H QA := q
theorem rd_cb {r : List V → Hp → VK → Prop} (q : tr σ H fun vs H1 => r vs H1 Q) : tCB r tr σ H Q := q
theorem rd_call {sp : Sp} {E : XK} (q : tr σ H fun vs H1 => sp (vs ++ []) H1 Q E) : tCall sp [] E tr σ H Q := q
theorem rd_callK {sp : Sp} {gV : List V → List V → List V} {E : XK} {tk : TA} (q : tr σ H fun vs H1 => tk σ H1 fun zs H2 => sp (gV vs zs) H2 Q E) : tCallK sp gV E tr tk σ H Q := q
theorem rd_seq (q : t1 { D with nx := t2 D } σ H) : tSeq t1 t2 D σ H := q
theorem rd_ifs (q : t σ H fun b H1 => if b = true then t1 D σ H1 else t2 D σ H1) : tIfS t t1 t2 D σ H := q
theorem rd_next (q : D.nx σ H) : tNext D σ H := q
theorem rd_ret (q : te σ H D.rt) : tRet te D σ H := q
theorem rd_drop (q : te σ H fun _ H1 => D.nx σ H1) : tDrop te D σ H := q
theorem rd_asg {g : TG} (q : te σ H fun x H1 => g x σ H1 D.nx) : tAsg te g D σ H := q
theorem rd_name {N : L2.St → Hp → Prop} (q : N (σ.set i (some v)) H) : gName i v σ H N := q
theorem rd_tup (q : tr σ H fun xs H1 => xs.length ≤ sizeLine ∧ ∀ p, H1 p = none → Q (.ref p) (upd H1 p (.tup xs))) : tTup tr σ H Q := q
theorem rd_lst (q : tr σ H fun xs H1 => xs.length ≤ sizeLine ∧ ∀ p, H1 p = none → Q (.ref p) (upd H1 p (.lst xs))) : tLst tr σ H Q := q
theorem rd_par {i j : Nat} (q : tr σ H fun vs H1 => ∃ v w, vs = [v, w] ∧ D.nx ((σ.set i (some v)).set j (some w)) H1) : tPar i j tr D σ H := q
theorem rd_two {P : V → V → Prop} {a b : V} (q : P a b) : ∃ v w, [a, b] = [v, w] ∧ P v w := ⟨a, b, rfl, q⟩
theorem rd_bm {T : String} {r : V → List V → Hp → VK → Prop} (q : te σ H fun x H1 => tyV K T x H1 ∧ tr σ H1 fun xs H2 => r x xs H2 Q) : tBM K T r te tr σ H Q := q
theorem rd_app {a : Addr} {xs : List V} (h : H a = some (.lst xs)) (z : xs.length < 1000000) (q : Q .non (upd H a (.lst (xs ++ [v])))) : rAppend (.ref a) [v] H Q := ⟨a, xs, v, rfl, rfl, h, Nat.lt_of_lt_of_le z (by decide), q⟩
theorem ty_list {a : Addr} {xs : List V} (h : SqL K H a xs) : tyV K "list" (.ref a) H := .inl ⟨rfl, _, h⟩
theorem rd_sl {r : V → Option Int → Option Int → Hp → VK → Prop} {tl th : TO} (q : te σ H fun x H1 => tl σ H1 fun l H2 => th σ H2 fun u H3 => r x l u H3 Q) : tSl r te tl th σ H Q := q
theorem rd_noPart {QO : Option Int → Hp → Prop} (q : QO none H) : tNoPart σ H QO := q
theorem rd_part {QO : Option Int → Hp → Prop} (q : te σ H fun x H1 => ∃ i, x = .int i ∧ QO (some i) H1) : tPart te σ H QO := q
theorem rd_int {P : Int → Prop} {k : Int} (q : P k) : ∃ i, V.int k = V.int i ∧ P i := ⟨k, rfl, q⟩
theorem rd_dec {A B p : Prop} [Decidable p] (h1 : p → A) (h2 : ¬ p → B) : if decide p = true then A else B := by
  by_cases h : p
  · rw [decide_eq_true h, if_pos rfl]; exact h1 h
  · rw [decide_eq_false h, if_neg Bool.false_ne_true]; exact h2 h
theorem rd_decN {A B p : Prop} [Decidable p] (h1 : p → B) (h2 : ¬ p → A) : if (!decide p) = true then A else B := by
  by_cases h : p
  · rw [decide_eq_true h, if_neg (show ¬ (!true) = true by decide)]; exact h1 h
  · rw [decide_eq_false h, if_pos (show (!false) = true by decide)]; exact h2 h
theorem rd_nT {A B : Prop} (h : B) : if (!true) = true then A else B := by rw [if_neg (show ¬ (!true) = true by decide)]; exact h
theorem rd_nF {A B : Prop} (h : A) : if (!false) = true then A else B := by rw [if_pos (show (!false) = true by decide)]; exact h
theorem rd_iT {A B : Prop} (h : A) : if true = true then A else B := h
theorem rd_iF {A B : Prop} (h : B) : if false = true then A else B := by rw [if_neg Bool.false_ne_true]; exact h
/-! operators of ints -/
theorem rd_I0 {g : Int → Int → V} {a b : Int} (q : Q (g a b) H) : rI0 g (.int a) (.int b) H Q := ⟨a, b, rfl, rfl, q⟩
theorem rd_I {C : Int → Int → Prop} {g : Int → Int → V} {a b : Int} (c : C a b) (q : Q (g a b) H) : rI C g (.int a) (.int b) H Q := ⟨a, b, rfl, rfl, c, q⟩
theorem rd_U {g : Int → V} {a : Int} (q : Q (g a) H) : rU g (.int a) H Q := ⟨a, rfl, q⟩
/-! is None -/
theorem rd_isN (q : Q (.bl (decide (x = .non))) H) : rIsN x .non H Q := ⟨rfl, q⟩
theorem rd_notN (q : Q (.bl (!decide (x = .non))) H) : rNotN x .non H Q := ⟨rfl, q⟩
theorem int_non {a : Int} : decide (V.int a = V.non) = false := decide_eq_false (fun z => nomatch z)
theorem str_non {a : Str} : decide (V.str a = V.non) = false := decide_eq_false (fun z => nomatch z)
theorem bl_non {a : Bool} : decide (V.bl a = V.non) = false := decide_eq_false (fun z => nomatch z)
theorem ref_non {a : Addr} : decide (V.ref a = V.non) = false := decide_eq_false (fun z => nomatch z)
theorem non_non : decide (V.non = V.non) = true := decide_eq_true rfl
theorem int_eq {a b : Int} : decide (V.int a = V.int b) = decide (a = b) := by
  by_cases h : a = b
  · subst h; rw [decide_eq_true rfl, decide_eq_true rfl]
  · rw [decide_eq_false h, decide_eq_false (fun z => h (V.int.inj z))]
theorem bl_eq {a b : Bool} : decide (V.bl a = V.bl b) = decide (a = b) := by
  by_cases h : a = b
  · subst h; rw [decide_eq_true rfl, decide_eq_true rfl]
  · rw [decide_eq_false h, decide_eq_false (fun z => h (V.bl.inj z))]
theorem str_eq {a b : Str} : decide (V.str a = V.str b) = decide (a = b) := by
  by_cases h : a = b
  · subst h; rw [decide_eq_true rfl, decide_eq_true rfl]
  · rw [decide_eq_false h, decide_eq_false (fun z => h (V.str.inj z))]
end

/-! ### rules of several kinds -/
/-- a + b -/
def rStrAdd : R2 := fun x y H Q => ∃ i j, x = .str i ∧ y = .str j ∧ i.length + j.length ≤ sizeLine ∧ Q (.str (i ++ j)) H
def gAdd (K : PySem.W.Frag) : R2 := fun x y H Q => rI0 (fun i j => .int (i + j)) x y H Q ∨ rStrAdd x y H Q ∨ rCat x y H Q ∨ rCatA K x y H Q
/-- a == b: scalars; data -/
def gEq (K : PySem.W.Frag) : R2 := fun x y H Q => rEq x y H Q ∨ rEqD K x y H Q
def gNe (K : PySem.W.Frag) : R2 := fun x y H Q => rNe x y H Q ∨ rNeD K x y H Q
/-- a * b: ints; a list's copies -/
def gMul : R2 := fun x y H Q => rI CMul (fun i j => .int (i * j)) x y H Q ∨ rRep x y H Q
/-- a < b -/
def rStrLt : R2 := fun x y H Q => ∃ i j, x = .str i ∧ y = .str j ∧ Q (.bl (decide (i.cps.toList < j.cps.toList))) H
/-- a < b of data that can be compared place by place -/
def rLtD (K : PySem.W.Frag) : R2 := fun x y H Q => ∃ d e, Dp K H x d ∧ Dp K H y e ∧ PySem.W.alike d e = true ∧ d ≠ .none ∧ PyData.depth d ≤ 64 ∧ Q (.bl (PySem.W.dataLt d e)) H
theorem op_ltD {X : Cx} (hu : X.A.units + 64 < cLine) : OpR X (compareOp .Lt) (rLtD X.K) := by
  rintro pins s σ H x y v u Q hI hv hu' ⟨d, e, hd, he, hal, hno, hdep, hQ⟩
  have ⟨l1, hr1⟩ := Dp.reads hI d x v hd hv
  have ⟨l2, hr2⟩ := Dp.reads hI e y u he hu'
  have room : X.A.units + min d.depth e.depth < cLine := by
    have hm := Nat.min_le_left d.depth e.depth
    omega
  exact PySem.W.rcLt_alike d e X.A s v u l1 l2 hr1 hr2 hal hno room _ _ _ _ ⟨.bl _, H, hI, rfl, hQ⟩
def gLt (K : PySem.W.Frag) : R2 := fun x y H Q => rI0 (fun i j => .bl (decide (i < j))) x y H Q ∨ rStrLt x y H Q ∨ rLtD K x y H Q
/-- x in y: a sign of a text; of a list or tuple of flat things; data in a list -/
def gIn (K : PySem.W.Frag) : R2 := fun x y H Q => rInS x y H Q ∨ rIn K false x y H Q
def gNotIn (K : PySem.W.Frag) : R2 := fun x y H Q => rNotInS x y H Q ∨ rIn K true x y H Q
def gSl (K : PySem.W.Frag) : V → Option Int → Option Int → Hp → VK → Prop := fun x lo hi H Q => rSlL K x lo hi H Q ∨ rSlS x lo hi H Q ∨ rSlT K x lo hi H Q
def rSeqOf (K : PySem.W.Frag) (x : V) (H : Hp) (xs : List V) : Prop := ∃ p, x = .ref p ∧ (SqL K H p xs ∨ SqT K H p xs)
def gLen (K : PySem.W.Frag) : List V → Hp → VK → Prop := fun xs H Q => ∃ x n, xs = [x] ∧ LenV K x H n ∧ Q (.int n) H
def gInt : List V → Hp → VK → Prop := fun xs H Q => ((∃ i, xs = [.int i] ∧ Q (.int i) H) ∨ ∃ k, xs = [.bl k] ∧ Q (.int (if k then 1 else 0)) H) ∨ (∃ a n, xs = [.str a] ∧ PySem.intText? a = some n ∧ a.length ≤ 640 ∧ Q (.int n) H)
def gBool : List V → Hp → VK → Prop := fun xs H Q => (∃ i, xs = [.int i] ∧ Q (.bl (i != 0)) H) ∨ ∃ k, xs = [.bl k] ∧ Q (.bl k) H
def gList (K : PySem.W.Frag) : List V → Hp → VK → Prop := fun xs H Q => ∃ p ys, xs = [.ref p] ∧ (SqL K H p ys ∨ SqT K H p ys) ∧ ∀ l, H l = none → Q (.ref l) (upd H l (.lst ys))
def gTuple (K : PySem.W.Frag) : List V → Hp → VK → Prop := fun xs H Q => ∃ p ys, xs = [.ref p] ∧ ((SqL K H p ys ∧ ∀ l, H l = none → Q (.ref l) (upd H l (.tup ys))) ∨ (SqT K H p ys ∧ Q (.ref p) H))
def gIsi (K : PySem.W.Frag) : List V → Hp → VK → Prop := fun xs H Q => rIsi K xs H Q ∨ rIsiT K xs H Q
def gRange1 : Nat := 0
section
variable {X : Cx}
theorem og_add : OpR X (binaryOp .Add) (gAdd X.K) := op_add.or (op_add_str.or (op_cat.or op_catA))
theorem og_sub : OpR X (binaryOp .Sub) (rI0 fun i j => .int (i - j)) := op_sub
theorem og_mul : OpR X (binaryOp .Mult) gMul := op_mul.or op_rep
theorem og_mod : OpR X (binaryOp .Mod) (rI (fun _ j => j ≠ 0) fun i j => .int (i.fmod j)) := op_modN
theorem og_fdiv : OpR X (binaryOp .FloorDiv) (rI CDivN fun i j => .int (i.fdiv j)) := op_fdivN
theorem og_pow : OpR X (binaryOp .Pow) (rI CPow fun i j => .int (i ^ j.toNat)) := op_pow
theorem og_eq (hu : X.A.units + 64 < cLine) : OpR X (compareOp .Eq) (gEq X.K) := op_eq.or (op_eqD hu)
theorem og_ne (hu : X.A.units + 64 < cLine) : OpR X (compareOp .NotEq) (gNe X.K) := op_ne.or (op_neD hu)
theorem og_lt (hu : X.A.units + 64 < cLine) : OpR X (compareOp .Lt) (gLt X.K) := op_lt.or (op_lt_str.or (op_ltD hu))
theorem og_le : OpR X (compareOp .LtE) (rI0 fun i j => .bl (decide (i ≤ j))) := op_le
theorem og_gt : OpR X (compareOp .Gt) (rI0 fun i j => .bl (decide (j < i))) := op_gt
theorem og_ge : OpR X (compareOp .GtE) (rI0 fun i j => .bl (decide (j ≤ i))) := op_ge
theorem og_in : OpR X (compareOp .In) (gIn X.K) := op_inS.or op_in_seq
theorem og_notIn : OpR X (compareOp .NotIn) (gNotIn X.K) := op_notInS.or op_notIn_seq
theorem og_sl : SlR X (gSl X.K) := sl_list.or (sl_str.or sl_tup)
theorem cg_len : CallR X (.builtin "len") (gLen X.K) := call_len
theorem cg_int : CallR X (.type "int") gInt := call_int1.or call_int_str
theorem cg_bool : CallR X (.type "bool") gBool := call_bool1
theorem cg_list : CallR X (.type "list") (gList X.K) := call_list_of
theorem cg_tuple : CallR X (.type "tuple") (gTuple X.K) := call_tuple_of
theorem cg_isi : CallR X (.builtin "isinstance") (gIsi X.K) := call_isi.or call_isiT
end
section
variable {K : PySem.W.Frag} {σ : L2.St} {H : Hp} {v x y : V} {Q : VK}
theorem rd_addI {a b : Int} (q : Q (.int (a + b)) H) : gAdd K (.int a) (.int b) H Q := .inl ⟨a, b, rfl, rfl, q⟩
theorem rd_addS {a b : Str} (h : a.length + b.length ≤ sizeLine) (q : Q (.str (a ++ b)) H) : gAdd K (.str a) (.str b) H Q := .inr (.inl ⟨a, b, rfl, rfl, h, q⟩)
theorem rd_addL {a b : Addr} {xs ys : List V} (h1 : H a = some (.lst xs)) (h2 : H b = some (.lst ys)) (h : xs.length + ys.length ≤ sizeLine) (q : ∀ p, H p = none → Q (.ref p) (upd H p (.lst (xs ++ ys)))) : gAdd K (.ref a) (.ref b) H Q := .inr (.inr (.inl ⟨a, b, xs, ys, rfl, rfl, h1, h2, h, q⟩))
theorem rd_mulI {a b : Int} (h : CMul a b) (q : Q (.int (a * b)) H) : gMul (.int a) (.int b) H Q := .inl ⟨a, b, rfl, rfl, h, q⟩
theorem rd_eqI {a b : Int} (q : Q (.bl (decide (a = b))) H) : gEq K (.int a) (.int b) H Q := .inl ⟨rfl, by rw [int_eq]; exact q⟩
theorem rd_neI {a b : Int} (q : Q (.bl (!decide (a = b))) H) : gNe K (.int a) (.int b) H Q := .inl ⟨rfl, by rw [int_eq]; exact q⟩
theorem rd_eqB {a b : Bool} (q : Q (.bl (decide (a = b))) H) : gEq K (.bl a) (.bl b) H Q := .inl ⟨rfl, by rw [bl_eq]; exact q⟩
theorem rd_neB {a b : Bool} (q : Q (.bl (!decide (a = b))) H) : gNe K (.bl a) (.bl b) H Q := .inl ⟨rfl, by rw [bl_eq]; exact q⟩
theorem rd_eqS {a b : Str} (q : Q (.bl (decide (a = b))) H) : gEq K (.str a) (.str b) H Q := .inl ⟨rfl, by rw [str_eq]; exact q⟩
theorem rd_neS {a b : Str} (q : Q (.bl (!decide (a = b))) H) : gNe K (.str a) (.str b) H Q := .inl ⟨rfl, by rw [str_eq]; exact q⟩
theorem rd_eqD {d e : PyData} (h1 : Dp K H x d) (h2 : Dp K H y e) (s1 : SeqAt.shaped d = true) (s2 : SeqAt.shaped e = true) (q : Q (.bl (PyData.eqv d e)) H) : gEq K x y H Q := .inr ⟨d, e, h1, h2, s1, s2, q⟩
theorem rd_neD {d e : PyData} (h1 : Dp K H x d) (h2 : Dp K H y e) (s1 : SeqAt.shaped d = true) (s2 : SeqAt.shaped e = true) (q : Q (.bl (!PyData.eqv d e)) H) : gNe K x y H Q := .inr ⟨d, e, h1, h2, s1, s2, q⟩
theorem rd_ltI {a b : Int} (q : Q (.bl (decide (a < b))) H) : gLt K (.int a) (.int b) H Q := .inl ⟨a, b, rfl, rfl, q⟩
theorem rd_ltD {d e : PyData} (h1 : Dp K H x d) (h2 : Dp K H y e) (a : PySem.W.alike d e = true) (n : d ≠ .none) (z : PyData.depth d ≤ 64) (q : Q (.bl (PySem.W.dataLt d e)) H) : gLt K x y H Q := .inr (.inr ⟨d, e, h1, h2, a, n, z, q⟩)
theorem rd_intI {a : Int} (q : Q (.int a) H) : gInt [.int a] H Q := .inl (.inl ⟨a, rfl, q⟩)
theorem rd_intB {k : Bool} (q : Q (.int (if k then 1 else 0)) H) : gInt [.bl k] H Q := .inl (.inr ⟨k, rfl, q⟩)
theorem rd_boolB {k : Bool} (q : Q (.bl k) H) : gBool [.bl k] H Q := .inr ⟨k, rfl, q⟩
theorem rd_boolI {k : Int} (q : Q (.bl (k != 0)) H) : gBool [.int k] H Q := .inl ⟨k, rfl, q⟩
theorem rd_lenL {a : Addr} {xs : List V} (h : SqL K H a xs) (q : Q (.int xs.length) H) : gLen K [.ref a] H Q := ⟨.ref a, xs.length, rfl, .inl ⟨xs, h, rfl⟩, q⟩
theorem rd_lenT {a : Addr} {xs : List V} (h : SqT K H a xs) (q : Q (.int xs.length) H) : gLen K [.ref a] H Q := ⟨.ref a, xs.length, rfl, .inr ⟨xs, h, rfl⟩, q⟩
theorem rd_lenS {z : Str} (h : z.length ≤ sizeLine) (q : Q (.int z.length) H) : gLen K [.str z] H Q := ⟨.str z, z.length, rfl, ⟨h, rfl⟩, q⟩
theorem rd_ixL {a : Addr} {xs : List V} {i : Int} (h : SqL K H a xs) (e : atI xs i = some v) (q : Q v H) : rIx K (.ref a) (.int i) H Q := .inl ⟨a, xs, i, v, rfl, rfl, h, e, q⟩
theorem rd_ixT {a : Addr} {xs : List V} {i : Int} (h : SqT K H a xs) (e : atI xs i = some v) (q : Q v H) : rIx K (.ref a) (.int i) H Q := .inr (.inl ⟨a, xs, i, v, rfl, rfl, h, e, q⟩)
theorem rd_ixS {z : Str} {c : Nat} {i : Int} (h : z.length ≤ sizeLine) (e : atI z.cps.toList i = some c) (q : Q (.str ⟨#[c]⟩) H) : rIx K (.str z) (.int i) H Q := .inr (.inr ⟨z, i, c, rfl, rfl, h, e, q⟩)
theorem rd_all {a : Addr} {bs : List Bool} (h : SqL K H a (bs.map V.bl)) (q : Q (.bl (bs.all id)) H) : rAll K [.ref a] H Q := ⟨a, bs, rfl, h, q⟩
theorem rd_any {a : Addr} {bs : List Bool} (h : SqL K H a (bs.map V.bl)) (q : Q (.bl (bs.any id)) H) : rAny K [.ref a] H Q := ⟨a, bs, rfl, h, q⟩
theorem rd_slL {a : Addr} {xs : List V} {lo hi : Option Int} (h : SqL K H a xs) (q : ∀ p, H p = none → Q (.ref p) (upd H p (.lst (cutV xs lo hi)))) : gSl K (.ref a) lo hi H Q := .inl ⟨a, xs, rfl, h, q⟩
end

/-! The law's bag of draws. -/
theorem rd_sub {to ti : TE} {t : TSet} {v : V} {σ : L2.St} {H : Hp} {N : L2.St → Hp → Prop} (q : to σ H fun o H1 => ti σ H1 fun i H2 => t o i v H2 fun H3 => N σ H3) : gSub to ti t v σ H N := q
theorem rd_setL {p : Addr} {xs : List V} {k : Int} {j : Nat} {v : V} {H : Hp} {Q : Hp → Prop} (h : H p = some (.lst xs)) (e : ixN xs.length k = some j) (q : Q (upd H p (.lst (xs.set j v)))) : rSetL (.ref p) (.int k) v H Q := ⟨p, xs, k, j, rfl, rfl, h, e, q⟩
local macro_rules | `(tactic| walk_at "sql") => `(tactic| first
  | exact sq_of (by assumption)
  | assumption
  | exact ex_l (Stt.ex (by assumption)) (by assumption)
  | exact sq_of upd_same)
local macro_rules | `(tactic| walk_at "sqt") => `(tactic| first
  | exact st_of (by assumption)
  | assumption
  | exact ex_t (Stt.ex (by assumption)) (by assumption)
  | exact st_of upd_same)
local macro_rules | `(tactic| walk_at "ix") => `(tactic| first
  | ((with_reducible refine' rd_ixL ?h1 ?h2 ?_); (case h1 => walk_at "sql"); (case h2 => exact rfl))
  | ((with_reducible refine' rd_ixT ?h1 ?h2 ?_); (case h1 => walk_at "sqt"); (case h2 => exact rfl)))
local macro_rules | `(tactic| walk_at "go1") => `(tactic| first
  | with_reducible refine rd_seq ?_
  | with_reducible refine rd_op ?_
  | with_reducible refine rd_c ?_
  | ((with_reducible refine' rd_var ?hv ?_); (case hv => exact rfl))
  | with_reducible refine rd_cons ?_
  | with_reducible refine rd_nil ?_
  | with_reducible refine rd_asg ?_
  | with_reducible refine rd_name ?_
  | with_reducible refine rd_ret ?_
  | with_reducible refine rd_ifs ?_
  | with_reducible refine rd_test ?_
  | with_reducible refine rd_B ?_
  | with_reducible refine rd_bl ?_
  | with_reducible refine rd_and ?_
  | with_reducible refine rd_or ?_
  | with_reducible refine rd_not ?_
  | with_reducible refine rd_andV ?_
  | with_reducible refine rd_orV ?_
  | with_reducible refine rd_notV ?_
  | with_reducible refine rd_if ?_
  | with_reducible refine rd_iT ?_
  | with_reducible refine rd_iF ?_
  | with_reducible refine rd_nT ?_
  | with_reducible refine rd_nF ?_
  | with_reducible refine rd_cb ?_
  | with_reducible refine rd_call ?_
  | with_reducible refine rd_callK ?_
  | with_reducible refine rd_next ?_
  | with_reducible refine rd_drop ?_
  | with_reducible refine rd_par ?_
  | with_reducible refine rd_two ?_
  | with_reducible refine rd_bm ?_
  | with_reducible refine rd_tup ?_
  | with_reducible refine rd_lst ?_
  | with_reducible refine rd_sl ?_
  | with_reducible refine rd_noPart ?_
  | with_reducible refine rd_part ?_
  | with_reducible refine rd_int ?_
  | with_reducible refine rd_un ?_
  | with_reducible refine rd_I0 ?_
  | with_reducible refine rd_U ?_
  | with_reducible refine rd_isN ?_
  | with_reducible refine rd_notN ?_
  | with_reducible refine rd_addI ?_
  | with_reducible refine rd_eqI ?_
  | with_reducible refine rd_neI ?_
  | with_reducible refine rd_eqB ?_
  | with_reducible refine rd_neB ?_
  | with_reducible refine rd_eqS ?_
  | with_reducible refine rd_neS ?_
  | with_reducible refine rd_ltI ?_
  | with_reducible refine rd_intI ?_
  | with_reducible refine rd_intB ?_
  | with_reducible refine rd_boolB ?_
  | with_reducible refine rd_boolI ?_
  | with_reducible refine rd_sub ?_
  | walk_at "ix")
local macro_rules | `(tactic| walk_at "go") => `(tactic| (repeat walk_at "go1"); (try dsimp only))
local macro_rules | `(tactic| walk_at "dec") => `(tactic| first
  | ((with_reducible refine rd_dec (fun e => ?_) (fun e => ?_)) <;> first | (exfalso; revert e; decide) | (exfalso; cases e; done) | exact absurd rfl e | skip)
  | ((with_reducible refine rd_decN (fun e => ?_) (fun e => ?_)) <;> first | (exfalso; revert e; decide) | (exfalso; cases e; done) | exact absurd rfl e | skip))

def bagO (c : Addr) (i r x n : Int) : HO := .lst [.ref c, .int i, .int r, .int x, .int n]
def Bag (K : PySem.W.Frag) (G H : Hp) (b : Addr) (L : List (Addr × HO)) : Prop :=
  ∃ (c : Addr) (i r x n : Int) (ns : List Int), Stt G H ((b, .lst [.ref c, .int i, .int r, .int x, .int n]) :: L) ∧ SqL K G c (ns.map V.int) ∧ 0 ≤ i ∧ 0 ≤ r ∧ 0 ≤ x ∧ x < 2147483587 ∧ 0 ≤ n
def sp_draw (K : PySem.W.Frag) : Sp := fun vs H Q _ => ∃ (b : Addr) (m : Int) (G : Hp) (L : List (Addr × HO)), vs = [.ref b, .int m] ∧ 0 < m ∧ m < 1073741824 ∧ Bag K G H b L ∧
  ∀ d H', 0 ≤ d → d < m → Bag K G H' b L → Q (.int d) H'
def t_draw_0a_3 (K : PySem.W.Frag) : TS :=
  (tAsg (tOp (rI (fun _ j => j ≠ 0) fun i j => .int (i.fmod j)) (tCB gInt (tCons (tOp (gAdd K) (tOp (gAdd K) (tOp gMul (tOp (rIx K) (tVar 0) (tC (.int 3))) (tC (.int 40039))) (tOp gMul (tOp (rI (fun _ j => j ≠ 0) fun i j => .int (i.fmod j)) (tCB gInt (tCons (tVar 2) tNil)) (tC (.int 2147483549))) (tC (.int 337)))) (tC (.int 2017))) tNil)) (tC (.int 2147483587))) (gSub (tVar 0) (tC (.int 3)) rSetL))
def t_draw_0a_2 (K : PySem.W.Frag) : TS :=
  (tSeq (tAsg (tIf (tTest (tOp (rI0 fun i j => .bl (decide (j ≤ i))) (tVar 2) (tOp (rI CPow fun i j => .int (i ^ j.toNat)) (tC (.int 10)) (tC (.int 18))))) (tVar 2) (tC (.int 0))) (gSub (tVar 0) (tC (.int 2)) rSetL))
  (t_draw_0a_3 K))
def t_draw_0a_1 (K : PySem.W.Frag) : TS :=
  (tSeq (tAsg (tOp (gAdd K) (tOp (rIx K) (tVar 0) (tC (.int 1))) (tC (.int 1))) (gSub (tVar 0) (tC (.int 1)) rSetL))
  (t_draw_0a_2 K))
def t_draw_1a_2 (K : PySem.W.Frag) : TS :=
  (tRet (tVar 3))
def t_draw_1a_1 (K : PySem.W.Frag) : TS :=
  (tSeq (tAsg (tOp (rI CDivN fun i j => .int (i.fdiv j)) (tOp (rIx K) (tVar 0) (tC (.int 2))) (tVar 1)) (gSub (tVar 0) (tC (.int 2)) rSetL))
  (t_draw_1a_2 K))
def t_draw_5 (K : PySem.W.Frag) : TS :=
  (tRet (tOp (rI (fun _ j => j ≠ 0) fun i j => .int (i.fmod j)) (tCB gInt (tCons (tOp (gAdd K) (tOp (gAdd K) (tOp (rI CDivN fun i j => .int (i.fdiv j)) (tOp (rIx K) (tVar 0) (tC (.int 3))) (tC (.int 61))) (tOp gMul (tVar 4) (tC (.int 32003)))) (tOp (rIx K) (tVar 0) (tC (.int 4)))) tNil)) (tVar 1)))
def t_draw_4 (K : PySem.W.Frag) : TS :=
  (tSeq (tAsg (tOp (rI (fun _ j => j ≠ 0) fun i j => .int (i.fmod j)) (tCB gInt (tCons (tOp (gAdd K) (tOp (gAdd K) (tOp (gAdd K) (tOp gMul (tVar 4) (tVar 4)) (tOp gMul (tC (.int 65063)) (tVar 4))) (tOp gMul (tC (.int 6679)) (tOp (rIx K) (tVar 0) (tC (.int 4))))) (tC (.int 40009))) tNil)) (tC (.int 2147483587))) (gSub (tVar 0) (tC (.int 3)) rSetL))
  (t_draw_5 K))
def t_draw_3 (K : PySem.W.Frag) : TS :=
  (tSeq (tAsg (tOp (rIx K) (tVar 0) (tC (.int 3))) (gName 4))
  (t_draw_4 K))
def t_draw_2 (K : PySem.W.Frag) : TS :=
  (tSeq (tAsg (tOp (gAdd K) (tOp (rIx K) (tVar 0) (tC (.int 4))) (tC (.int 1))) (gSub (tVar 0) (tC (.int 4)) rSetL))
  (t_draw_3 K))
def t_draw_1 (K : PySem.W.Frag) : TS :=
  (tSeq (tIfS (tTest (tOp (rI0 fun i j => .bl (decide (j < i))) (tOp (rIx K) (tVar 0) (tC (.int 2))) (tC (.int 0)))) (tSeq (tAsg (tOp (rI (fun _ j => j ≠ 0) fun i j => .int (i.fmod j)) (tCB gInt (tCons (tOp (rIx K) (tVar 0) (tC (.int 2))) tNil)) (tVar 1)) (gName 3))
  (t_draw_1a_1 K)) tNext)
  (t_draw_2 K))
def t_draw (K : PySem.W.Frag) : TS :=
  (tSeq (tIfS (tAnd (tTest (tOp (gEq K) (tOp (rIx K) (tVar 0) (tC (.int 2))) (tC (.int 0)))) (tTest (tOp (gLt K) (tOp (rIx K) (tVar 0) (tC (.int 1))) (tCB (gLen K) (tCons (tOp (rIx K) (tVar 0) (tC (.int 0))) tNil))))) (tSeq (tAsg (tOp (rIx K) (tOp (rIx K) (tVar 0) (tC (.int 0))) (tOp (rIx K) (tVar 0) (tC (.int 1)))) (gName 2))
  (t_draw_0a_1 K)) tNext)
  (t_draw_1 K))
theorem fmod_lo (a : Int) {b : Int} (h : 0 < b) : 0 ≤ a.fmod b := by rw [Int.fmod_eq_emod_of_nonneg a (by omega)]; exact Int.emod_nonneg a (by omega)
theorem fmod_hi (a : Int) {b : Int} (h : 0 < b) : a.fmod b < b := by rw [Int.fmod_eq_emod_of_nonneg a (by omega)]; exact Int.emod_lt_of_pos a h
theorem fdiv_lo {a b : Int} (ha : 0 ≤ a) (h : 0 < b) : 0 ≤ a.fdiv b := by rw [Int.fdiv_eq_ediv_of_nonneg a (by omega)]; exact Int.ediv_nonneg ha (by omega)
theorem read_draw_1 {K : PySem.W.Frag} {b c : Addr} {m i r x n : Int} {ns : List Int} {G H : Hp} {L : List (Addr × HO)} {D : Ends} {s2 s3 s4 : Option V} (m0 : 0 < m) (m1 : m < 1073741824)
    (S : Stt G H ((b, .lst [.ref c, .int i, .int r, .int x, .int n]) :: L)) (hc : SqL K G c (ns.map V.int)) (hi : 0 ≤ i) (hr : 0 ≤ r) (hx : 0 ≤ x) (hx2 : x < 2147483587) (hn : 0 ≤ n)
    (q : ∀ d H', 0 ≤ d → d < m → Bag K G H' b L → D.rt (.int d) H') : t_draw_1 K D [some (.ref b), some (.int m), s2, s3, s4] H := by
  have hb := S.at 0 rfl
  unfold t_draw_1
  walk_at "go"
  refine rd_dec (fun e => ?_) (fun e => ?_)
  · walk_at "go"
    refine rd_I (by omega) ?_
    walk_at "go"
    unfold t_draw_1a_1
    walk_at "go"
    refine rd_I ⟨by omega, by omega⟩ ?_
    walk_at "go"
    refine rd_setL hb rfl ?_
    unfold t_draw_1a_2
    walk_at "go"
    exact q _ _ (fmod_lo _ m0) (fmod_hi _ m0) ⟨c, i, r.fdiv m, x, n, ns, S.wr 0 rfl, hc, hi, fdiv_lo hr m0, hx, hx2, hn⟩
  · walk_at "go"
    unfold t_draw_2
    walk_at "go"
    refine rd_setL hb rfl ?_
    have S2 : Stt G (upd H b _) ((b, .lst [.ref c, .int i, .int r, .int x, .int (n + 1)]) :: L) := S.wr 0 rfl
    have hb2 := S2.at 0 rfl
    unfold t_draw_3
    walk_at "go"
    unfold t_draw_4
    walk_at "go"
    refine rd_mulI (.inl ⟨by omega, by omega⟩) ?_
    walk_at "go"
    refine rd_mulI (.inl ⟨by omega, by omega⟩) ?_
    walk_at "go"
    refine rd_mulI (.inl ⟨by omega, by omega⟩) ?_
    walk_at "go"
    refine rd_I (by decide) ?_
    walk_at "go"
    refine rd_setL hb2 rfl ?_
    have S3 : Stt G _ ((b, .lst [.ref c, .int i, .int r, .int ((x * x + 65063 * x + 6679 * (n + 1) + 40009).fmod 2147483587), .int (n + 1)]) :: L) := S2.wr 0 rfl
    have hb3 := S3.at 0 rfl
    unfold t_draw_5
    walk_at "go"
    refine rd_I ⟨by decide, by decide⟩ ?_
    walk_at "go"
    refine rd_mulI (.inl ⟨by omega, by omega⟩) ?_
    walk_at "go"
    refine rd_I (by omega) ?_
    exact q _ _ (fmod_lo _ m0) (fmod_hi _ m0) ⟨c, i, r, _, n + 1, ns, S3, hc, hi, hr, fmod_lo _ (by decide), fmod_hi _ (by decide), by omega⟩
theorem read_draw {K : PySem.W.Frag} {b : Addr} {m : Int} {G H : Hp} {L : List (Addr × HO)} {D : Ends} {s2 s3 s4 : Option V} (m0 : 0 < m) (m1 : m < 1073741824)
    (B : Bag K G H b L) (q : ∀ d H', 0 ≤ d → d < m → Bag K G H' b L → D.rt (.int d) H') : t_draw K D [some (.ref b), some (.int m), s2, s3, s4] H := by
  obtain ⟨c, i, r, x, n, ns, S, hc, hi, hr, hx, hx2, hn⟩ := B
  obtain ⟨j, rfl⟩ : ∃ j : Nat, i = (j : Int) := ⟨i.toNat, by omega⟩
  have hb := S.at 0 rfl
  unfold t_draw
  walk_at "go"
  refine rd_dec (fun e => ?_) (fun e => ?_)
  · walk_at "go"
    refine rd_lenL (ex_l S.ex hc) ?_
    walk_at "go"
    refine rd_dec (fun e2 => ?_) (fun e2 => ?_)
    · walk_at "go"
      rw [List.length_map] at e2
      have hi2 : j < ns.length := by omega
      refine rd_ixL (ex_l S.ex hc) (v := .int ns[j]) ?_ ?_
      · refine atI_nat ?_
        rw [List.getElem?_map, List.getElem?_eq_getElem hi2]
        rfl
      walk_at "go"
      unfold t_draw_0a_1
      walk_at "go"
      refine rd_setL hb rfl ?_
      have S2 : Stt G _ ((b, .lst [.ref c, .int ((j : Int) + 1), .int r, .int x, .int n]) :: L) := S.wr 0 rfl
      have hb2 := S2.at 0 rfl
      unfold t_draw_0a_2
      walk_at "go"
      refine rd_I ⟨by decide, by decide, by decide⟩ ?_
      walk_at "go"
      have key : ∀ r', 0 ≤ r' → t_draw_0a_3 K { D with nx := t_draw_1 K D } [some (.ref b), some (.int m), some (.int ns[j]), s3, s4] (upd (upd H b (.lst [.ref c, .int ((j : Int) + 1), .int r, .int x, .int n])) b (.lst [.ref c, .int ((j : Int) + 1), .int r', .int x, .int n])) := by
        intro r' hr'
        have S3 : Stt G _ ((b, .lst [.ref c, .int ((j : Int) + 1), .int r', .int x, .int n]) :: L) := S2.wr 0 rfl
        have hb3 := S3.at 0 rfl
        unfold t_draw_0a_3
        walk_at "go"
        refine rd_mulI (.inr ⟨by decide, by decide⟩) ?_
        walk_at "go"
        refine rd_I (by decide) ?_
        walk_at "go"
        refine rd_mulI (.inr ⟨by decide, by decide⟩) ?_
        walk_at "go"
        refine rd_I (by decide) ?_
        walk_at "go"
        refine rd_setL hb3 rfl ?_
        refine read_draw_1 m0 m1 (S3.wr 0 rfl) hc (by omega) hr' (fmod_lo _ (by decide)) (fmod_hi _ (by decide)) hn q
      refine rd_dec (fun e3 => ?_) (fun e3 => ?_)
      · walk_at "go"
        refine rd_setL hb2 rfl ?_
        exact key _ (by have e3' : (10 : Int) ^ (18 : Int).toNat ≤ ns[j] := e3; have : (0 : Int) < 10 ^ (18 : Int).toNat := by decide
                        omega)
      · walk_at "go"
        refine rd_setL hb2 rfl ?_
        exact key 0 (by decide)
    · walk_at "go"
      exact read_draw_1 m0 m1 S hc hi hr hx hx2 hn q
  · walk_at "go"
    exact read_draw_1 m0 m1 S hc hi hr hx hx2 hn q

/-! Comprehensions and loops over the unchanging heap. -/
/-- what may be said of the heaps: it stays behind a new object, a list at its head may be written -/
structure Wd (W : Hp → Hp → List (Addr × HO) → Prop) : Prop where
  ex : ∀ {G H L}, W G H L → Ex G H
  new : ∀ {G H L p o}, W G H L → H p = none → W (upd G p o) (upd H p o) L
  mk2 : ∀ {G H L p o}, W G H L → H p = none → W G (upd H p o) ((p, o) :: L)
  get : ∀ {G H L p o}, W G H ((p, o) :: L) → H p = some o
  set : ∀ {G H L p o o'}, W G H ((p, o) :: L) → W G (upd H p o') ((p, o') :: L)
  free : ∀ {G H L p}, W G H L → H p = none → G p = none
  drop : ∀ {G H L p o}, W G H ((p, o) :: L) → W G H L
  frz : ∀ {G H L p o}, W G H ((p, o) :: L) → W (upd G p o) H L ∧ Ex G (upd G p o)
theorem stt_world : Wd Stt := ⟨Stt.ex, Stt.new, Stt.mkL, fun S => S.at 0 rfl, fun S => S.wr 0 rfl, Stt.free, Stt.drop, fun S => ⟨S.frz, S.frzE⟩⟩
theorem Wd.newE {W : Hp → Hp → List (Addr × HO) → Prop} (hW : Wd W) {G H : Hp} {L : List (Addr × HO)} {p : Addr} {o : HO} (S : W G H L) (h : H p = none) : Ex G (upd G p o) := Ex.new (hW.free S h)
section
variable {W : Hp → Hp → List (Addr × HO) → Prop} {K : PySem.W.Frag} {J : It} {n : Nat} {Gw : Hp → Prop} {Y : Nat → Hp → V → Hp → Prop} {G H : Hp} {L : List (Addr × HO)} {σ : L2.St} {g : TG} {tt : TT} {te : TE} {vs : List Nat} {Q : VK}
/-- what is read of a comprehension behind its source -/
def LcG (J : It) (g : TG) (tt : TT) (te : TE) (vs : List Nat) (σ : L2.St) (H : Hp) (Q : VK) : Prop := tLc (fun _ H R => R J H) g tt te vs σ H Q
theorem rd_lc {wi : TI} (q : wi σ H fun J H1 => LcG J g tt te vs σ H1 Q) : tLc wi g tt te vs σ H Q := q
theorem rd_yes {QT : Bool → Hp → Prop} (q : QT true H) : tYes σ H QT := q
/-- a comprehension over a walk -/
theorem lc_go (hW : Wd W) (w : Walk J n Gw Y) (S : W G H L) (hn : n < 1000000) (It : Nat → V → Hp → Prop) (Inv : Nat → List V → Hp → Prop)
    (hG : ∀ H', Ex G H' → Gw H')
    (hY : ∀ i x G1 H1 H2 L1, i < n → Ex G G1 → W G1 H1 L1 → Y i H1 x H2 → ∃ G2, Ex G1 G2 ∧ W G2 H2 L1 ∧ It i x G2)
    (h0 : Inv 0 [] G) (hM : ∀ i acc G1 G2, Ex G1 G2 → Inv i acc G1 → Inv i acc G2)
    (hS : ∀ D i x acc G1 H1, i < n → acc.length ≤ i → Ex G G1 → W G1 H1 ((D, .lst acc) :: L) → Inv i acc G1 → It i x G1 → ∀ (Kp : VK) (Sk : Hp → Prop),
      (∀ v G2 H2, Ex G1 G2 → W G2 H2 ((D, .lst acc) :: L) → Inv (i + 1) (acc ++ [v]) G2 → Kp v H2) →
      (∀ G2 H2, Ex G1 G2 → W G2 H2 ((D, .lst acc) :: L) → Inv (i + 1) acc G2 → Sk H2) →
      g x (wipe σ vs) H1 fun σ2 H2 => wipe σ2 vs = wipe σ vs ∧ tt σ2 H2 fun b H3 => if b = true then te σ2 H3 Kp else Sk H3)
    (q : ∀ D acc G2 H2, Ex G G2 → W G2 H2 ((D, .lst acc) :: L) → Inv n acc G2 → acc.length ≤ n → Q (.ref D) H2) :
    LcG J g tt te vs σ H Q := by
  intro D hD
  refine lc_it w (fun i H' => ∃ G1 acc, Ex G G1 ∧ W G1 H' ((D, .lst acc) :: L) ∧ Inv i acc G1 ∧ acc.length ≤ i) ⟨G, [], Ex.refl G, hW.mk2 S hD, h0, Nat.le_refl _⟩
    (fun i H' _ ⟨G1, acc, e1, S1, _, _⟩ => hG H' (e1.trans (hW.ex S1))) (fun i x H1 H2 hi ⟨G1, acc, e1, S1, I1, l1⟩ y => ?_) (fun H' ⟨G1, acc, e1, S1, I1, l1⟩ => q D acc G1 H' e1 S1 I1 l1)
  obtain ⟨G2, e2, S2, it2⟩ := hY i x G1 H1 H2 _ hi e1 S1 y
  have hsz : sizeLine = 16777216 := sizeLine_eq
  refine hS D i x acc G2 H2 hi l1 (e1.trans e2) S2 (hM i acc G1 G2 e2 I1) it2 _ _ (fun v G3 H3 e3 S3 I3 => ?_) (fun G3 H3 e3 S3 I3 => ?_)
  · exact ⟨acc, hW.get S3, by omega, G3, acc ++ [v], e1.trans (e2.trans e3), hW.set S3, I3, by rw [List.length_append, List.length_singleton]; omega⟩
  · exact ⟨G3, acc, e1.trans (e2.trans e3), S3, I3, by omega⟩
end
/-! ### new objects -/
section
variable {W : Hp → Hp → List (Addr × HO) → Prop} {G H : Hp} {L : List (Addr × HO)} {o : HO} {Q : Addr → Prop} {xs : List V}
theorem mk_im (hW : Wd W) (S : W G H L) (q : ∀ p G', Ex G G' → W G' (upd H p o) L → G' p = some o → Q p) : ∀ p, H p = none → Q p := fun p hp =>
  q p _ (hW.newE S hp) (hW.new S hp) upd_same
theorem mk_mu (hW : Wd W) (S : W G H L) (q : ∀ p, W G (upd H p o) ((p, o) :: L) → Q p) : ∀ p, H p = none → Q p := fun p hp =>
  q p (hW.mk2 S hp)
theorem mk_lst (hW : Wd W) (S : W G H L) (hz : xs.length ≤ 100000) (q : ∀ p G', Ex G G' → W G' (upd H p (.lst xs)) L → G' p = some (.lst xs) → Q p) : xs.length ≤ sizeLine ∧ ∀ p, H p = none → Q p := ⟨sz_of hz, mk_im hW S q⟩
theorem mk_tup (hW : Wd W) (S : W G H L) (hz : xs.length ≤ 100000) (q : ∀ p G', Ex G G' → W G' (upd H p (.tup xs)) L → G' p = some (.tup xs) → Q p) : xs.length ≤ sizeLine ∧ ∀ p, H p = none → Q p := ⟨sz_of hz, mk_im hW S q⟩
theorem mk_lstM (hW : Wd W) (S : W G H L) (hz : xs.length ≤ 100000) (q : ∀ p, W G (upd H p (.lst xs)) ((p, .lst xs) :: L) → Q p) : xs.length ≤ sizeLine ∧ ∀ p, H p = none → Q p := ⟨sz_of hz, mk_mu hW S q⟩
end
/-! ### a for -/
section
variable {J : It} {n : Nat} {Gw : Hp → Prop} {Y : Nat → Hp → V → Hp → Prop} {G H : Hp} {σ : L2.St} {g : TG} {tb : TS} {D : Ends}
def ForG (J : It) (g : TG) (tb : TS) (D : Ends) (σ : L2.St) (H : Hp) : Prop := tFor (fun _ H R => R J H) g tb D σ H
theorem rd_for {wi : TI} (q : wi σ H fun J H1 => ForG J g tb D σ H1) : tFor wi g tb D σ H := q
theorem for_go (w : Walk J n Gw Y) (Inv : Nat → L2.St → Hp → Hp → Prop) (h0 : Inv 0 σ G H) (hG : ∀ i σ1 G1 H1, i ≤ n → Inv i σ1 G1 H1 → Gw H1)
    (hS : ∀ i x σ1 G1 H1 H2, i < n → Inv i σ1 G1 H1 → Y i H1 x H2 → ∀ N : L2.St → Hp → Prop, (∀ σ2 G2 H2, Inv (i + 1) σ2 G2 H2 → N σ2 H2) → g x σ1 H2 fun σ2 H3 => tb { D with nx := N, ct := N, bk := D.nx } σ2 H3)
    (hd : ∀ σ1 G1 H1, Inv n σ1 G1 H1 → D.nx σ1 H1) : ForG J g tb D σ H := by
  refine for_it w (fun i σ1 H1 => ∃ G1, Inv i σ1 G1 H1) ⟨G, h0⟩ (fun i σ1 H1 hi ⟨G1, h1⟩ => hG i σ1 G1 H1 hi h1) (fun i x σ1 H1 H2 hi ⟨G1, h1⟩ y => ?_) (fun σ1 H1 ⟨G1, h1⟩ => hd σ1 G1 H1 h1)
  exact hS i x σ1 G1 H1 H2 hi h1 y _ fun σ2 G2 H3 h2 => ⟨G2, h2⟩
end
/-! ### the sources -/
section
variable {K : PySem.W.Frag} {σ : L2.St} {H G : Hp} {a b : Addr} {xs ys : List V} {ta : TA} {te : TE} {R : It → Hp → Prop}
theorem rd_zipA (q : ta σ H fun vs H1 => ∃ a b xs ys, vs = [.ref a, .ref b] ∧ ((SqL K H1 a xs ∧ SqL K H1 b ys ∧ R (Itz K a b) H1) ∨ (SqT K H1 a xs ∧ SqT K H1 b ys ∧ R (ItzT K a b) H1))) : iZipA K ta σ H R := q
theorem rd_zipL {P : It → Prop} (h1 : SqL K H a xs) (h2 : SqL K H b ys) (q : P (Itz K a b)) : ∃ a' b' xs ys, [V.ref a, V.ref b] = [V.ref a', V.ref b'] ∧ ((SqL K H a' xs ∧ SqL K H b' ys ∧ P (Itz K a' b')) ∨ (SqT K H a' xs ∧ SqT K H b' ys ∧ P (ItzT K a' b'))) :=
  ⟨a, b, xs, ys, rfl, .inl ⟨h1, h2, q⟩⟩
theorem rd_zipT {P : It → Prop} (h1 : SqT K H a xs) (h2 : SqT K H b ys) (q : P (ItzT K a b)) : ∃ a' b' xs ys, [V.ref a, V.ref b] = [V.ref a', V.ref b'] ∧ ((SqL K H a' xs ∧ SqL K H b' ys ∧ P (Itz K a' b')) ∨ (SqT K H a' xs ∧ SqT K H b' ys ∧ P (ItzT K a' b'))) :=
  ⟨a, b, xs, ys, rfl, .inr ⟨h1, h2, q⟩⟩
theorem walk_zipT {n : Nat} (hn : n = min xs.length ys.length) : Walk (ItzT K a b) n (fun H => SqT K H a xs ∧ SqT K H b ys) (YPair (fun i => xs[i]?) (fun i => ys[i]?)) where
  goes := fun i _ hi hq =>
    have a1 : i < xs.length := by omega
    have a2 : i < ys.length := by omega
    ⟨xs, ys, _, _, hq.1, hq.2, List.getElem?_eq_getElem a1, List.getElem?_eq_getElem a2⟩
  stops := fun _ hq => ⟨xs, ys, hq.1, hq.2, by omega⟩
  yields := fun _ _ _ _ _ hq ⟨T, c, d, e1, e2, e3, e4, e5⟩ => ⟨T, c, d, e1, e2, e3, e4 xs hq.1, e5 ys hq.2⟩
def ItPair (K : PySem.W.Frag) (xs ys : Nat → Option V) (i : Nat) (x : V) (G : Hp) : Prop := ∃ T u w, x = .ref T ∧ SqT K G T [u, w] ∧ xs i = some u ∧ ys i = some w
theorem item_pair {W : Hp → Hp → List (Addr × HO) → Prop} (hW : Wd W) {xs ys : Nat → Option V} {i : Nat} {x : V} {G1 H1 H2 : Hp} {L1 : List (Addr × HO)} (S : W G1 H1 L1) (y : YPair xs ys i H1 x H2) :
    ∃ G2, Ex G1 G2 ∧ W G2 H2 L1 ∧ ItPair K xs ys i x G2 := by
  obtain ⟨T, u, z, rfl, hT, rfl, h1, h2⟩ := y
  exact ⟨_, hW.newE S hT, hW.new S hT, T, u, z, rfl, st_of upd_same, h1, h2⟩
theorem item_at {W : Hp → Hp → List (Addr × HO) → Prop} {i : Nat} {x : V} {G1 H1 H2 : Hp} {L1 : List (Addr × HO)} (S : W G1 H1 L1) (y : YAt xs i H1 x H2) :
    ∃ G2, Ex G1 G2 ∧ W G2 H2 L1 ∧ xs[i]? = some x := by
  obtain ⟨rfl, h⟩ := y
  exact ⟨G1, Ex.refl _, S, h⟩
theorem item_fn {W : Hp → Hp → List (Addr × HO) → Prop} {f : Nat → V} {i : Nat} {x : V} {G1 H1 H2 : Hp} {L1 : List (Addr × HO)} (S : W G1 H1 L1) (y : YFn f i H1 x H2) :
    ∃ G2, Ex G1 G2 ∧ W G2 H2 L1 ∧ x = f i := by
  obtain ⟨rfl, h⟩ := y
  exact ⟨G1, Ex.refl _, S, h⟩
/-- targets -/
theorem rd_gtup2 {i j : Nat} {T : Addr} {x y : V} {N : L2.St → Hp → Prop} (h : SqT K H T [x, y]) (q : N ((σ.set i (some x)).set j (some y)) H) : gTup K 2 (gCons (gName i) (gCons (gName j) gNil)) (.ref T) σ H N :=
  ⟨T, [x, y], rfl, h, rfl, x, [y], rfl, y, [], rfl, rfl, q⟩
end
section
variable {K : PySem.W.Frag} {σ : L2.St} {H : Hp} {a : Addr} {xs : List V} {te : TE} {R : It → Hp → Prop} {z : Str}
theorem rd_il (q : te σ H fun x H1 => ∃ a, x = .ref a ∧ (∃ xs, SqL K H1 a xs) ∧ R (Itl K a) H1) : iList K te σ H R := q
theorem rd_it (q : te σ H fun x H1 => ∃ a, x = .ref a ∧ (∃ xs, SqT K H1 a xs) ∧ R (Itt K a) H1) : iTup K te σ H R := q
theorem rd_is (q : te σ H fun x H1 => ∃ z, x = .str z ∧ R (Its z) H1) : iStr te σ H R := q
theorem rd_rng1 {ta : TA} (q : ta σ H fun vs H1 => ∃ j : Int, vs = [.int j] ∧ -(2 ^ 62) ≤ j ∧ j < 2 ^ 62 ∧ R (Itr 0 j.toNat) H1) : iRng1 ta σ H R := q
theorem rd_rng1i {P : It → Prop} {n : Int} (h1 : -(2 ^ 62) ≤ n) (h2 : n < 2 ^ 62) (q : P (Itr 0 n.toNat)) : ∃ j : Int, [V.int n] = [.int j] ∧ -(2 ^ 62) ≤ j ∧ j < 2 ^ 62 ∧ P (Itr 0 j.toNat) := ⟨n, rfl, h1, h2, q⟩
end

/-! The law's likeness of data. -/

mutual
def lk : PyData → PyData → Bool
  | .none, .none => true
  | .bool a, .bool b => decide (a = b)
  | .int a, .int b => decide (a = b)
  | .str a, .str b => decide (a = b)
  | .list xs, .list ys => lkAll xs ys
  | .tuple xs, .tuple ys => lkAll xs ys
  | _, _ => false
def lkAll : List PyData → List PyData → Bool
  | [], [] => true
  | x :: xs, y :: ys => lk x y && lkAll xs ys
  | _, _ => false
end
mutual
theorem lk_refl : ∀ d, PyData.plain d = true → lk d d = true
  | .none, _ => rfl
  | .bool b, _ => decide_eq_true rfl
  | .int i, _ => decide_eq_true rfl
  | .str s, _ => decide_eq_true rfl
  | .list xs, h => lkAll_refl xs h
  | .tuple xs, h => lkAll_refl xs h
  | .dict _, h => by cases h
theorem lkAll_refl : ∀ ds, PyData.plainAll ds = true → lkAll ds ds = true
  | [], _ => rfl
  | x :: xs, h => by
    have h' := Bool.and_eq_true_iff.mp (show (PyData.plain x && PyData.plainAll xs) = true from h)
    show (lk x x && lkAll xs xs) = true
    rw [lk_refl x h'.1, lkAll_refl xs h'.2]; rfl
end
mutual
theorem Dp.plain {K : PySem.W.Frag} {H : Hp} : ∀ (d : PyData) (v : V), Dp K H v d → PyData.plain d = true
  | .none, _, _ => rfl
  | .bool _, _, _ => rfl
  | .int _, _, _ => rfl
  | .str _, _, _ => rfl
  | .list ds, _, h => by cases h with | lst hs ha => exact DpAll.plain ds _ ha
  | .tuple ds, _, h => by cases h with | tup hs ha => exact DpAll.plain ds _ ha
  | .dict _, _, h => by cases h
theorem DpAll.plain {K : PySem.W.Frag} {H : Hp} : ∀ (ds : List PyData) (vs : List V), DpAll K H vs ds → PyData.plainAll ds = true
  | [], _, _ => rfl
  | d :: ds, _, h => by
    cases h with
    | cons h1 h2 =>
      show (PyData.plain d && PyData.plainAll ds) = true
      rw [Dp.plain d _ h1, DpAll.plain ds _ h2]; rfl
end
theorem lkAll_zip : ∀ (ds es : List PyData), ds.length = es.length → lkAll ds es = (List.zipWith lk ds es).all id
  | [], [], _ => rfl
  | d :: ds, e :: es, h => by
    show (lk d e && lkAll ds es) = (id (lk d e) && (List.zipWith lk ds es).all id)
    rw [lkAll_zip ds es (by simpa using h)]
    rfl
  | [], _ :: _, h => nomatch h
  | _ :: _, [], h => nomatch h
theorem lkAll_len : ∀ (ds es : List PyData), ds.length ≠ es.length → lkAll ds es = false
  | [], [], h => (h rfl).elim
  | d :: ds, e :: es, h => by
    show (lk d e && lkAll ds es) = false
    rw [lkAll_len ds es (fun z => h (by simp [z])), Bool.and_false]
  | [], _ :: _, _ => rfl
  | _ :: _, [], _ => rfl
/-! ### kinds -/
def tyN : PyData → String
  | .none => "NoneType"
  | .bool _ => "bool"
  | .int _ => "int"
  | .str _ => "str"
  | .list _ => "list"
  | .tuple _ => "tuple"
  | .dict _ => "dict"
theorem SqL.ty {K : PySem.W.Frag} {H : Hp} {a : Addr} {xs : List V} (h : SqL K H a xs) : TyX K H (.ref a) (.type "list") := by
  rcases h with (h | ⟨o, h⟩) | ⟨o, its, n, h1, h2, _⟩
  · exact .base (.lst h)
  · exact .base (.frz h)
  · exact .kList h1 h2
theorem SqT.ty {K : PySem.W.Frag} {H : Hp} {a : Addr} {xs : List V} (h : SqT K H a xs) : TyX K H (.ref a) (.type "tuple") := by
  rcases h with (h | ⟨o, h⟩) | ⟨o, its, n, h1, h2, _⟩
  · exact .base (.tup h)
  · exact .fTuple h
  · exact .kTuple h1 h2
theorem Dp.ty {K : PySem.W.Frag} {H : Hp} {v : V} {d : PyData} (h : Dp K H v d) : TyX K H v (.type (tyN d)) := by
  cases h with
  | non => exact .base .non
  | bl b => exact .base (.bl b)
  | int i => exact .base (.int i)
  | str x => exact .base (.str x)
  | lst hs _ => exact SqL.ty hs
  | tup hs _ => exact SqT.ty hs
theorem rd_isi {K : PySem.W.Frag} {H : Hp} {v : V} {d : PyData} {T : String} {b : Bool} {Q : VK} (h : Dp K H v d) (k : kitB (tyN d) T = some b) (q : Q (.bl b) H) : gIsi K [v, .ty T] H Q :=
  .inl ⟨v, .ty T, .type (tyN d), .type T, b, rfl, .ty T, Dp.ty h, kit_ty k, q⟩
theorem rd_isi2 {K : PySem.W.Frag} {H : Hp} {v : V} {d : PyData} {T U : String} {tp : Addr} {b c : Bool} {Q : VK} (ht : H tp = some (.tup [.ty T, .ty U])) (h : Dp K H v d) (k1 : kitB (tyN d) T = some b) (k2 : kitB (tyN d) U = some c) {r : Bool} (er : (b || c) = r) (q : Q (.bl r) H) : gIsi K [v, .ref tp] H Q :=
  .inr ⟨v, tp, [.ty T, .ty U], .type (tyN d), [.type T, .type U], b || c, rfl, ht, .cons (.ty T) (.cons (.ty U) .nil), Dp.ty h,
    kitAny_cons (kit_ty k1) (fun hb => by subst hb; exact kitAny_cons (kit_ty k2) (fun hc => by subst hc; exact kitAny_nil) (fun hc => by subst hc; rfl)) (fun hb => by subst hb; rfl), by rw [er]; exact q⟩
theorem Stt.less {G G' H : Hp} {L : List (Addr × HO)} (e : Ex G G') (S : Stt G' H L) : Stt G H L := ⟨e.trans S.ex, S.has, fun p hp => fresh_back e (S.out p hp), S.nd⟩
theorem kt_NoneType_bool : kitB "NoneType" "bool" = some false := by decide +kernel
theorem kt_NoneType_int : kitB "NoneType" "int" = some false := by decide +kernel
theorem kt_NoneType_str : kitB "NoneType" "str" = some false := by decide +kernel
theorem kt_NoneType_list : kitB "NoneType" "list" = some false := by decide +kernel
theorem kt_NoneType_tuple : kitB "NoneType" "tuple" = some false := by decide +kernel
theorem kt_bool_bool : kitB "bool" "bool" = some true := by decide +kernel
theorem kt_bool_int : kitB "bool" "int" = some true := by decide +kernel
theorem kt_bool_str : kitB "bool" "str" = some false := by decide +kernel
theorem kt_bool_list : kitB "bool" "list" = some false := by decide +kernel
theorem kt_bool_tuple : kitB "bool" "tuple" = some false := by decide +kernel
theorem kt_int_bool : kitB "int" "bool" = some false := by decide +kernel
theorem kt_int_int : kitB "int" "int" = some true := by decide +kernel
theorem kt_int_str : kitB "int" "str" = some false := by decide +kernel
theorem kt_int_list : kitB "int" "list" = some false := by decide +kernel
theorem kt_int_tuple : kitB "int" "tuple" = some false := by decide +kernel
theorem kt_str_bool : kitB "str" "bool" = some false := by decide +kernel
theorem kt_str_int : kitB "str" "int" = some false := by decide +kernel
theorem kt_str_str : kitB "str" "str" = some true := by decide +kernel
theorem kt_str_list : kitB "str" "list" = some false := by decide +kernel
theorem kt_str_tuple : kitB "str" "tuple" = some false := by decide +kernel
theorem kt_list_bool : kitB "list" "bool" = some false := by decide +kernel
theorem kt_list_int : kitB "list" "int" = some false := by decide +kernel
theorem kt_list_str : kitB "list" "str" = some false := by decide +kernel
theorem kt_list_list : kitB "list" "list" = some true := by decide +kernel
theorem kt_list_tuple : kitB "list" "tuple" = some false := by decide +kernel
theorem kt_tuple_bool : kitB "tuple" "bool" = some false := by decide +kernel
theorem kt_tuple_int : kitB "tuple" "int" = some false := by decide +kernel
theorem kt_tuple_str : kitB "tuple" "str" = some false := by decide +kernel
theorem kt_tuple_list : kitB "tuple" "list" = some false := by decide +kernel
theorem kt_tuple_tuple : kitB "tuple" "tuple" = some true := by decide +kernel
/-- nested less than n deep, no list of a million things -/
def fit : Nat → PyData → Prop
  | 0, _ => False
  | n + 1, .list es => es.length < 1000000 ∧ ∀ e, e ∈ es → fit n e
  | n + 1, .tuple es => es.length < 1000000 ∧ ∀ e, e ∈ es → fit n e
  | _ + 1, _ => True
def sp_like (K : PySem.W.Frag) (n : Nat) : Sp := fun vs H Q _ => ∃ (G : Hp) (L : List (Addr × HO)) (x y : V) (d e : PyData), vs = [x, y] ∧ Stt G H L ∧ Dp K G x d ∧ Dp K G y e ∧ fit n e ∧ (∀ H', Stt G H' L → Q (.bl (lk d e)) H')
def t_like_0a_1 (K : PySem.W.Frag) (n : Nat) : TS :=
  (tRet (tAndV (tOp (gEq K) (tCB (gLen K) (tCons (tVar 0) tNil)) (tCB (gLen K) (tCons (tVar 1) tNil))) (tCB (rAll K) (tCons (tLc (iZipA K (tCons (tVar 0) (tCons (tVar 1) tNil))) (gTup K 2 (gCons (gName 2) (gCons (gName 3) gNil))) tYes (tCall (sp_like K n) [] E0 (tCons (tVar 2) (tCons (tVar 3) tNil))) [2, 3]) tNil))))
def t_like_3 (K : PySem.W.Frag) (n : Nat) : TS :=
  (tRet (tAndV (tOp (gEq K) (tCB (gIsi K) (tCons (tVar 0) (tCons (tC (.ty "str")) tNil))) (tCB (gIsi K) (tCons (tVar 1) (tCons (tC (.ty "str")) tNil)))) (tOp (gEq K) (tVar 0) (tVar 1))))
def t_like_2 (K : PySem.W.Frag) (n : Nat) : TS :=
  (tSeq (tIfS (tOr (tTest (tOp (gNe K) (tCB (gIsi K) (tCons (tVar 0) (tCons (tC (.ty "bool")) tNil))) (tCB (gIsi K) (tCons (tVar 1) (tCons (tC (.ty "bool")) tNil))))) (tTest (tOp (gNe K) (tCB (gIsi K) (tCons (tVar 0) (tCons (tC (.ty "int")) tNil))) (tCB (gIsi K) (tCons (tVar 1) (tCons (tC (.ty "int")) tNil)))))) (tRet (tC (.bl false))) tNext)
  (t_like_3 K n))
def t_like_1 (K : PySem.W.Frag) (n : Nat) : TS :=
  (tSeq (tIfS (tOr (tTest (tOp rIsN (tVar 1) (tC .non))) (tTest (tOp rIsN (tVar 0) (tC .non)))) (tRet (tAndV (tOp rIsN (tVar 1) (tC .non)) (tOp rIsN (tVar 0) (tC .non)))) tNext)
  (t_like_2 K n))
def t_like (K : PySem.W.Frag) (n : Nat) : TS :=
  (tSeq (tIfS (tB (tCB (gIsi K) (tCons (tVar 1) (tCons (tTup (tCons (tC (.ty "list")) (tCons (tC (.ty "tuple")) tNil))) tNil)))) (tSeq (tIfS (tOr (tTest (tOp (gNe K) (tCB (gIsi K) (tCons (tVar 0) (tCons (tC (.ty "list")) tNil))) (tCB (gIsi K) (tCons (tVar 1) (tCons (tC (.ty "list")) tNil))))) (tTest (tOp (gNe K) (tCB (gIsi K) (tCons (tVar 0) (tCons (tC (.ty "tuple")) tNil))) (tCB (gIsi K) (tCons (tVar 1) (tCons (tC (.ty "tuple")) tNil)))))) (tRet (tC (.bl false))) tNext)
  (t_like_0a_1 K n)) tNext)
  (t_like_1 K n))
local macro_rules | `(tactic| walk_at "kt") => `(tactic| first
  | exact kt_NoneType_bool
  | exact kt_NoneType_int
  | exact kt_NoneType_str
  | exact kt_NoneType_list
  | exact kt_NoneType_tuple
  | exact kt_bool_bool
  | exact kt_bool_int
  | exact kt_bool_str
  | exact kt_bool_list
  | exact kt_bool_tuple
  | exact kt_int_bool
  | exact kt_int_int
  | exact kt_int_str
  | exact kt_int_list
  | exact kt_int_tuple
  | exact kt_str_bool
  | exact kt_str_int
  | exact kt_str_str
  | exact kt_str_list
  | exact kt_str_tuple
  | exact kt_list_bool
  | exact kt_list_int
  | exact kt_list_str
  | exact kt_list_list
  | exact kt_list_tuple
  | exact kt_tuple_bool
  | exact kt_tuple_int
  | exact kt_tuple_str
  | exact kt_tuple_list
  | exact kt_tuple_tuple)
local macro_rules | `(tactic| walk_at "dp") => `(tactic| first
  | exact Dp.non | exact Dp.bl _ | exact Dp.int _ | exact Dp.str _ | assumption | exact Dp.ex (Stt.ex (by assumption)) _ _ (by assumption))
local macro_rules | `(tactic| walk_at "isi") => `(tactic| ((with_reducible refine' rd_isi ?h ?k ?_); (case h => walk_at "dp"); (case k => walk_at "kt")))
theorem read_like_list {K : PySem.W.Frag} {n : Nat} {G H : Hp} {L : List (Addr × HO)} {x y : V} {ds : List PyData} {es : List PyData} {D : Ends} {s2 s3 : Option V} (S : Stt G H L) (hx : Dp K G x (.list ds)) (hy : Dp K G y (.list es)) (hz : es.length < 1000000) (hn : ∀ e, e ∈ es → fit n e)
    (q : ∀ H', Stt G H' L → D.rt (.bl (lkAll ds es)) H') : t_like_0a_1 K n D [some x, some y, s2, s3] H := by
  unfold t_like_0a_1
  cases hx with
  | @lst a xs _ ha hA =>
  cases hy with
  | @lst b ys _ hb hB =>
  walk_at "go"
  refine rd_lenL (ex_l S.ex ha) ?_
  walk_at "go"
  refine rd_lenL (ex_l S.ex hb) ?_
  have hl1 := DpAll.length hA
  have hl2 := DpAll.length hB
  walk_at "go"
  refine rd_dec (fun e => ?_) (fun e => ?_)
  · have hl : ds.length = es.length := by omega
    walk_at "go"
    refine rd_lc ?_
    refine rd_zipA ?_
    walk_at "go"
    refine ⟨_, _, _, _, rfl, .inl ⟨ex_l S.ex ha, ex_l S.ex hb, ?_⟩⟩
    refine lc_go stt_world (walk_zip (n := ds.length) (by omega)) S (by omega) (ItPair K (fun i => xs[i]?) (fun i => ys[i]?)) (fun i acc _ => acc = (List.zipWith (fun d e => V.bl (lk d e)) ds es).take i)
      (fun H' e' => ⟨ex_l e' ha, ex_l e' hb⟩) (fun i x G1 H1 H2 L1 _ e1 S1 y => item_pair stt_world S1 y) rfl (fun _ _ _ _ _ h => h) ?_ ?_
    · intro D i x acc G1 H1 hi hacc e1 S1 I1 it Kp Sk kp sk
      obtain ⟨T, u, w, rfl, hT, hu, hw⟩ := it
      obtain ⟨d1, hd1, dp1⟩ := DpAll.get hA hu
      obtain ⟨d2, hd2, dp2⟩ := DpAll.get hB hw
      refine rd_gtup2 (ex_t S1.ex hT) ⟨rfl, ?_⟩
      refine rd_yes (rd_iT ?_)
      walk_at "go"
      refine ⟨G1, _, u, w, d1, d2, rfl, S1, Dp.ex e1 _ _ dp1, Dp.ex e1 _ _ dp2, hn d2 (List.mem_of_getElem? hd2), fun H2 S2 => kp _ G1 H2 (Ex.refl _) S2 ?_⟩
      rw [I1, List.take_add_one, List.getElem?_zipWith, hd1, hd2]
      rfl
    · intro D acc G2 H2 e2 S2 I2 _
      have hacc : acc = (List.zipWith lk ds es).map V.bl := by
        rw [I2, List.map_zipWith, List.take_of_length_le (by rw [List.length_zipWith]; omega)]
      subst hacc
      walk_at "go"
      refine rd_all (sq_of (S2.at 0 rfl)) ?_
      have := q H2 (S2.drop.less e2)
      rw [lkAll_zip ds es hl] at this
      exact this
  · walk_at "go"
    have := q H S
    rw [lkAll_len ds es (by omega)] at this
    exact this
theorem read_like_tup {K : PySem.W.Frag} {n : Nat} {G H : Hp} {L : List (Addr × HO)} {x y : V} {ds : List PyData} {es : List PyData} {D : Ends} {s2 s3 : Option V} (S : Stt G H L) (hx : Dp K G x (.tuple ds)) (hy : Dp K G y (.tuple es)) (hz : es.length < 1000000) (hn : ∀ e, e ∈ es → fit n e)
    (q : ∀ H', Stt G H' L → D.rt (.bl (lkAll ds es)) H') : t_like_0a_1 K n D [some x, some y, s2, s3] H := by
  unfold t_like_0a_1
  cases hx with
  | @tup a xs _ ha hA =>
  cases hy with
  | @tup b ys _ hb hB =>
  walk_at "go"
  refine rd_lenT (ex_t S.ex ha) ?_
  walk_at "go"
  refine rd_lenT (ex_t S.ex hb) ?_
  have hl1 := DpAll.length hA
  have hl2 := DpAll.length hB
  walk_at "go"
  refine rd_dec (fun e => ?_) (fun e => ?_)
  · have hl : ds.length = es.length := by omega
    walk_at "go"
    refine rd_lc ?_
    refine rd_zipA ?_
    walk_at "go"
    refine ⟨_, _, _, _, rfl, .inr ⟨ex_t S.ex ha, ex_t S.ex hb, ?_⟩⟩
    refine lc_go stt_world (walk_zipT (n := ds.length) (by omega)) S (by omega) (ItPair K (fun i => xs[i]?) (fun i => ys[i]?)) (fun i acc _ => acc = (List.zipWith (fun d e => V.bl (lk d e)) ds es).take i)
      (fun H' e' => ⟨ex_t e' ha, ex_t e' hb⟩) (fun i x G1 H1 H2 L1 _ e1 S1 y => item_pair stt_world S1 y) rfl (fun _ _ _ _ _ h => h) ?_ ?_
    · intro D i x acc G1 H1 hi hacc e1 S1 I1 it Kp Sk kp sk
      obtain ⟨T, u, w, rfl, hT, hu, hw⟩ := it
      obtain ⟨d1, hd1, dp1⟩ := DpAll.get hA hu
      obtain ⟨d2, hd2, dp2⟩ := DpAll.get hB hw
      refine rd_gtup2 (ex_t S1.ex hT) ⟨rfl, ?_⟩
      refine rd_yes (rd_iT ?_)
      walk_at "go"
      refine ⟨G1, _, u, w, d1, d2, rfl, S1, Dp.ex e1 _ _ dp1, Dp.ex e1 _ _ dp2, hn d2 (List.mem_of_getElem? hd2), fun H2 S2 => kp _ G1 H2 (Ex.refl _) S2 ?_⟩
      rw [I1, List.take_add_one, List.getElem?_zipWith, hd1, hd2]
      rfl
    · intro D acc G2 H2 e2 S2 I2 _
      have hacc : acc = (List.zipWith lk ds es).map V.bl := by
        rw [I2, List.map_zipWith, List.take_of_length_le (by rw [List.length_zipWith]; omega)]
      subst hacc
      walk_at "go"
      refine rd_all (sq_of (S2.at 0 rfl)) ?_
      have := q H2 (S2.drop.less e2)
      rw [lkAll_zip ds es hl] at this
      exact this
  · walk_at "go"
    have := q H S
    rw [lkAll_len ds es (by omega)] at this
    exact this
local macro_rules | `(tactic| walk_at "gk") => `(tactic| repeat (first | walk_at "go1" | walk_at "isi" | walk_at "dec"))
theorem read_like {K : PySem.W.Frag} {n : Nat} {G H : Hp} {L : List (Addr × HO)} {x y : V} {d e : PyData} {D : Ends} {s2 s3 : Option V} (S : Stt G H L) (hx : Dp K G x d) (hy : Dp K G y e) (hn : fit (n + 1) e)
    (q : ∀ H', Stt G H' L → D.rt (.bl (lk d e)) H') : t_like K n D [some x, some y, s2, s3] H := by
  unfold t_like
  walk_at "gk"
  refine ⟨(by decide : 2 ≤ sizeLine), fun p hp => ?_⟩
  have S1 := S.new (o := .tup [.ty "list", .ty "tuple"]) hp
  have e1 := S.newE (o := .tup [.ty "list", .ty "tuple"]) hp
  have q1 : ∀ H', Stt (upd G p (.tup [.ty "list", .ty "tuple"])) H' L → D.rt (.bl (lk d e)) H' := fun H' S' => q H' (S'.less e1)
  have hx1 := Dp.ex e1 _ _ hx
  have hy1 := Dp.ex e1 _ _ hy
  have hp1 : upd H p (.tup [.ty "list", .ty "tuple"]) p = some (.tup [.ty "list", .ty "tuple"]) := upd_same
  generalize upd G p (.tup [.ty "list", .ty "tuple"]) = G1 at *
  generalize upd H p (.tup [.ty "list", .ty "tuple"]) = H1 at *
  clear hx hy q S e1 hp
  walk_at "go"
  have hy2 := Dp.ex S1.ex _ _ hy1
  cases e with
  | list es =>
    refine rd_isi2 hp1 hy2 kt_list_list kt_list_tuple (r := true) rfl ?_
    walk_at "gk"
    cases d with
    | list ds =>
      walk_at "gk"
      exact read_like_list S1 hx1 hy1 hn.1 hn.2 q1
    | dict _ => cases hx1
    | _ =>
      walk_at "gk"
      exact q1 _ S1
  | tuple es =>
    refine rd_isi2 hp1 hy2 kt_tuple_list kt_tuple_tuple (r := true) rfl ?_
    walk_at "gk"
    cases d with
    | tuple ds =>
      walk_at "gk"
      exact read_like_tup S1 hx1 hy1 hn.1 hn.2 q1
    | dict _ => cases hx1
    | _ =>
      walk_at "gk"
      exact q1 _ S1
  | dict _ => cases hy1
  | none =>
    refine rd_isi2 hp1 hy2 kt_NoneType_list kt_NoneType_tuple (r := false) rfl ?_
    walk_at "gk"
    try dsimp only
    unfold t_like_1
    have hx2 := Dp.ex S1.ex _ _ hx1
    cases hy1
    cases d with
    | dict _ => cases hx1
    | _ =>
      cases hx1
      all_goals (walk_at "gk")
      all_goals (try dsimp only)
      all_goals first
        | exact q1 _ S1
        | (unfold t_like_2; walk_at "gk"; (try dsimp only); first | exact q1 _ S1 | (unfold t_like_3; walk_at "gk"; exact q1 _ S1))
  | bool b =>
    refine rd_isi2 hp1 hy2 kt_bool_list kt_bool_tuple (r := false) rfl ?_
    walk_at "gk"
    try dsimp only
    unfold t_like_1
    have hx2 := Dp.ex S1.ex _ _ hx1
    cases hy1
    cases d with
    | dict _ => cases hx1
    | _ =>
      cases hx1
      all_goals (walk_at "gk")
      all_goals (try dsimp only)
      all_goals first
        | exact q1 _ S1
        | (unfold t_like_2; walk_at "gk"; (try dsimp only); first | exact q1 _ S1 | (unfold t_like_3; walk_at "gk"; exact q1 _ S1))
  | int b =>
    refine rd_isi2 hp1 hy2 kt_int_list kt_int_tuple (r := false) rfl ?_
    walk_at "gk"
    try dsimp only
    unfold t_like_1
    have hx2 := Dp.ex S1.ex _ _ hx1
    cases hy1
    cases d with
    | dict _ => cases hx1
    | _ =>
      cases hx1
      all_goals (walk_at "gk")
      all_goals (try dsimp only)
      all_goals first
        | exact q1 _ S1
        | (unfold t_like_2; walk_at "gk"; (try dsimp only); first | exact q1 _ S1 | (unfold t_like_3; walk_at "gk"; exact q1 _ S1))
  | str b =>
    refine rd_isi2 hp1 hy2 kt_str_list kt_str_tuple (r := false) rfl ?_
    walk_at "gk"
    try dsimp only
    unfold t_like_1
    have hx2 := Dp.ex S1.ex _ _ hx1
    cases hy1
    cases d with
    | dict _ => cases hx1
    | _ =>
      cases hx1
      all_goals (walk_at "gk")
      all_goals (try dsimp only)
      all_goals first
        | exact q1 _ S1
        | (unfold t_like_2; walk_at "gk"; (try dsimp only); first | exact q1 _ S1 | (unfold t_like_3; walk_at "gk"; exact q1 _ S1))


theorem Stt.swap {G H : Hp} {x y : Addr × HO} {L : List (Addr × HO)} (S : Stt G H (x :: y :: L)) : Stt G H (y :: x :: L) := by
  have m : ∀ p, p ∈ y :: x :: L → p ∈ x :: y :: L := fun p hp => (List.Perm.swap x y L).mem_iff.mp hp
  refine ⟨S.ex, fun p hp => S.has p (m p hp), fun p hp => S.out p (m p hp), ?_⟩
  have h := S.nd
  simp only [List.map_cons, List.nodup_cons, List.mem_cons] at h ⊢
  exact ⟨fun z => z.elim (fun z => h.1 (.inl z.symm)) h.2.1, fun z => h.1 (.inr z), h.2.2⟩
theorem Bag.ex {K : PySem.W.Frag} {G H : Hp} {b : Addr} {L : List (Addr × HO)} (B : Bag K G H b L) : Ex G H := by
  obtain ⟨_, _, _, _, _, _, S, _⟩ := B
  exact S.ex
theorem bag_world (K : PySem.W.Frag) (b : Addr) : Wd fun G H L => Bag K G H b L where
  ex := Bag.ex
  new := fun ⟨c, i, r, x, n, ns, S, hc, h⟩ hp => ⟨c, i, r, x, n, ns, S.new hp, ex_l (S.newE hp) hc, h⟩
  mk2 := fun ⟨c, i, r, x, n, ns, S, hc, h⟩ hp => ⟨c, i, r, x, n, ns, (S.mkL hp).swap, hc, h⟩
  get := fun ⟨c, i, r, x, n, ns, S, hc, h⟩ => S.at 1 rfl
  set := fun ⟨c, i, r, x, n, ns, S, hc, h⟩ => ⟨c, i, r, x, n, ns, S.wr 1 rfl, hc, h⟩
  free := fun ⟨c, i, r, x, n, ns, S, hc, h⟩ hp => S.free hp
  drop := fun ⟨c, i, r, x, n, ns, S, hc, h⟩ => ⟨c, i, r, x, n, ns, S.swap.drop, hc, h⟩
  frz := fun ⟨c, i, r, x, n, ns, S, hc, h⟩ => ⟨⟨c, i, r, x, n, ns, S.swap.frz, ex_l S.swap.frzE hc, h⟩, S.swap.frzE⟩
/-- with the bag: what leaves all that may change keeps the bag -/
theorem Bag.stt {K : PySem.W.Frag} {G H : Hp} {b : Addr} {L : List (Addr × HO)} (B : Bag K G H b L) : ∃ M, Stt G H M ∧ ∀ G' H', Ex G G' → Stt G' H' M → Bag K G' H' b L := by
  obtain ⟨c, i, r, x, n, ns, S, hc, h⟩ := B
  exact ⟨_, S, fun G' H' e S' => ⟨c, i, r, x, n, ns, S', ex_l e hc, h⟩⟩
theorem cutV_take (ns : List Int) : cutV (ns.map V.int) none (some 63) = (ns.take 63).map V.int := by
  unfold cutV
  rw [HT.sIx_none, show HT.sIx (ns.map V.int).length (ns.map V.int).length (some 63) = min 63 (ns.map V.int).length from HT.sIx_nat _ _ 63]
  rw [List.drop_zero, Nat.sub_zero, List.map_take, ← List.take_take, List.take_length]
def sp_open (K : PySem.W.Frag) : Sp := fun vs H Q _ => ∃ (a : Addr) (ns : List Int) (G : Hp) (L : List (Addr × HO)), vs = [.ref a] ∧ Stt G H L ∧ SqL K G a (ns.map V.int) ∧ (∀ b G' H', Ex G G' → Bag K G' H' b L → Q (.ref b) H')
def t_open (K : PySem.W.Frag) : TS :=
  (tRet (tLst (tCons (tCB (gList K) (tCons (tSl (gSl K) (tVar 0) tNoPart (tPart (tC (.int 63)))) tNil)) (tCons (tC (.int 0)) (tCons (tC (.int 0)) (tCons (tC (.int 120121)) (tCons (tC (.int 0)) tNil)))))))
theorem read_open {K : PySem.W.Frag} {a : Addr} {ns : List Int} {G H : Hp} {L : List (Addr × HO)} {D : Ends} (S : Stt G H L) (ha : SqL K G a (ns.map V.int)) (q : ∀ b G' H', Ex G G' → Bag K G' H' b L → D.rt (.ref b) H') : t_open K D [some (.ref a)] H := by
  unfold t_open
  walk_at "go"
  refine rd_slL (ex_l S.ex ha) fun p hp => ?_
  have S1 := S.new (o := .lst (cutV (ns.map V.int) none (some 63))) hp
  have e1 := S.newE (o := .lst (cutV (ns.map V.int) none (some 63))) hp
  have h1 : upd H p (.lst (cutV (ns.map V.int) none (some 63))) p = some (.lst ((ns.take 63).map V.int)) := by rw [upd_same, cutV_take]
  walk_at "go"
  refine ⟨p, _, rfl, .inl (sq_of h1), fun c hc => ?_⟩
  have S2 := S1.new (o := .lst ((ns.take 63).map V.int)) hc
  have e2 := S1.newE (o := .lst ((ns.take 63).map V.int)) hc
  walk_at "go"
  refine ⟨by show 5 ≤ sizeLine; decide, fun b hb => ?_⟩
  have S3 := S2.mkL (o := .lst [.ref c, .int 0, .int 0, .int 120121, .int 0]) hb
  exact q b _ _ (e1.trans e2) ⟨c, 0, 0, 120121, 0, ns.take 63, S3, sq_of upd_same, by decide, by decide, by decide, by decide, by decide⟩
/-- one of some things -/
def sp_of (K : PySem.W.Frag) : Sp := fun vs H Q _ => ∃ (b a : Addr) (xs : List V) (G : Hp) (L : List (Addr × HO)), vs = [.ref b, .ref a] ∧ Bag K G H b L ∧ (∀ H', Bag K G H' b L → SqL K H' a xs ∨ SqT K H' a xs) ∧ 0 < xs.length ∧ xs.length < 1000000 ∧
  (∀ x H', x ∈ xs → Bag K G H' b L → Q x H')
def t_of (K : PySem.W.Frag) : TS :=
  (tRet (tOp (rIx K) (tVar 1) (tCall (sp_draw K) [] E0 (tCons (tVar 0) (tCons (tCB (gLen K) (tCons (tVar 1) tNil)) tNil)))))
theorem read_of {K : PySem.W.Frag} {b a : Addr} {xs : List V} {G H : Hp} {L : List (Addr × HO)} {D : Ends} (B : Bag K G H b L) (hs : ∀ H', Bag K G H' b L → SqL K H' a xs ∨ SqT K H' a xs) (h0 : 0 < xs.length) (h1 : xs.length < 1000000)
    (q : ∀ x H', x ∈ xs → Bag K G H' b L → D.rt x H') : t_of K D [some (.ref b), some (.ref a)] H := by
  unfold t_of
  walk_at "go"
  refine ⟨.ref a, xs.length, rfl, ?_, ?_⟩
  · rcases hs H B with h | h
    · exact .inl ⟨xs, h, rfl⟩
    · exact .inr ⟨xs, h, rfl⟩
  walk_at "go"
  refine ⟨b, _, G, L, rfl, by omega, by omega, B, fun d H' d0 d1 B' => ?_⟩
  obtain ⟨j, rfl⟩ : ∃ j : Nat, d = (j : Int) := ⟨d.toNat, by omega⟩
  have hj : j < xs.length := by omega
  have hat : atI xs (j : Int) = some xs[j] := atI_nat (List.getElem?_eq_getElem hj)
  rcases hs H' B' with h | h
  · exact rd_ixL h hat (q _ _ (List.getElem_mem hj) B')
  · exact rd_ixT h hat (q _ _ (List.getElem_mem hj) B')
theorem sat_draw {K : PySem.W.Frag} {vs : List V} {H : Hp} {Q : VK} {E : XK} (h : sp_draw K vs H Q E) : vs.length = 2 ∧ t_draw K { nx := fun _ H' => Q .non H', rt := Q } (vs.map some ++ List.replicate (5 - vs.length) none) H := by
  obtain ⟨b, m, G, L, rfl, m0, m1, B, q⟩ := h
  exact ⟨rfl, read_draw m0 m1 B q⟩
theorem sat_open {K : PySem.W.Frag} {vs : List V} {H : Hp} {Q : VK} {E : XK} (h : sp_open K vs H Q E) : vs.length = 1 ∧ t_open K { nx := fun _ H' => Q .non H', rt := Q } (vs.map some ++ List.replicate (1 - vs.length) none) H := by
  obtain ⟨a, ns, G, L, rfl, S, ha, q⟩ := h
  exact ⟨rfl, read_open S ha q⟩
theorem sat_of {K : PySem.W.Frag} {vs : List V} {H : Hp} {Q : VK} {E : XK} (h : sp_of K vs H Q E) : vs.length = 2 ∧ t_of K { nx := fun _ H' => Q .non H', rt := Q } (vs.map some ++ List.replicate (2 - vs.length) none) H := by
  obtain ⟨b, a, xs, G, L, rfl, B, hs, h0, h1, q⟩ := h
  exact ⟨rfl, read_of B hs h0 h1 q⟩
theorem never_like (K : PySem.W.Frag) : ∀ vs H Q E, sp_like K 0 vs H Q E → False := fun _ _ _ _ ⟨_, _, _, _, _, _, _, _, _, _, h, _⟩ => h
theorem sat_like {K : PySem.W.Frag} {n : Nat} {vs : List V} {H : Hp} {Q : VK} {E : XK} (h : sp_like K (n + 1) vs H Q E) : vs.length = 2 ∧ t_like K n { nx := fun _ H' => Q .non H', rt := Q } (vs.map some ++ List.replicate (4 - vs.length) none) H := by
  obtain ⟨G, L, x, y, d, e, rfl, S, hx, hy, hn, q⟩ := h
  exact ⟨rfl, read_like S hx hy hn q⟩

/-! Comprehensions over lists and tuples by plain functions. -/
section
variable {W : Hp → Hp → List (Addr × HO) → Prop} {K : PySem.W.Frag} {G H : Hp} {L : List (Addr × HO)} {σ : L2.St} {te : TE} {tt : TT} {Q : VK} {a : Addr} {xs : List V} {j : Nat}
theorem lc_mapJ (hW : Wd W) {J : It} {Gw : Hp → Prop} (w : Walk J xs.length Gw (YAt xs)) (S : W G H L) (hg : ∀ H', Ex G H' → Gw H') (hz : xs.length < 1000000) (hw : ∀ x, wipe ((wipe σ [j]).set j (some x)) [j] = wipe σ [j]) (f : V → V)
    (hS : ∀ x acc D G1 H1, x ∈ xs → Ex G G1 → W G1 H1 ((D, .lst acc) :: L) → ∀ Kp : VK, (∀ H2, W G1 H2 ((D, .lst acc) :: L) → Kp (f x) H2) → te ((wipe σ [j]).set j (some x)) H1 Kp)
    (q : ∀ D G2 H2, Ex G G2 → W G2 H2 ((D, .lst (xs.map f)) :: L) → Q (.ref D) H2) : LcG J (gName j) tYes te [j] σ H Q := by
  refine lc_go hW w S hz (fun i v _ => xs[i]? = some v) (fun i acc _ => acc = (xs.take i).map f) hg
    (fun i x G1 H1 H2 L1 _ e1 S1 y => item_at S1 y) rfl (fun _ _ _ _ _ h => h) ?_ ?_
  · intro D i x acc G1 H1 hi _ e1 S1 I1 it Kp Sk kp sk
    refine rd_name ⟨hw x, rd_yes (rd_iT ?_)⟩
    refine hS x acc D G1 H1 (List.mem_of_getElem? it) e1 S1 _ fun H2 S2 => kp _ G1 H2 (Ex.refl _) S2 ?_
    rw [I1, List.take_add_one, it, List.map_append]
    rfl
  · intro D acc G2 H2 e2 S2 I2 _
    rw [List.take_length] at I2
    subst I2
    exact q D G2 H2 e2 S2
theorem lc_filterJ (hW : Wd W) {J : It} {Gw : Hp → Prop} (w : Walk J xs.length Gw (YAt xs)) (S : W G H L) (hg : ∀ H', Ex G H' → Gw H') (hz : xs.length < 1000000) (hw : ∀ x, wipe ((wipe σ [j]).set j (some x)) [j] = wipe σ [j]) (f : V → V) (p : V → Bool)
    (hT : ∀ x acc D G1 H1, x ∈ xs → Ex G G1 → W G1 H1 ((D, .lst acc) :: L) → ∀ Kt : Bool → Hp → Prop, (∀ H2, W G1 H2 ((D, .lst acc) :: L) → Kt (p x) H2) → tt ((wipe σ [j]).set j (some x)) H1 Kt)
    (hS : ∀ x acc D G1 H1, x ∈ xs → p x = true → Ex G G1 → W G1 H1 ((D, .lst acc) :: L) → ∀ Kp : VK, (∀ H2, W G1 H2 ((D, .lst acc) :: L) → Kp (f x) H2) → te ((wipe σ [j]).set j (some x)) H1 Kp)
    (q : ∀ D G2 H2, Ex G G2 → W G2 H2 ((D, .lst ((xs.filter p).map f)) :: L) → Q (.ref D) H2) : LcG J (gName j) tt te [j] σ H Q := by
  refine lc_go hW w S hz (fun i v _ => xs[i]? = some v) (fun i acc _ => acc = ((xs.take i).filter p).map f) hg
    (fun i x G1 H1 H2 L1 _ e1 S1 y => item_at S1 y) rfl (fun _ _ _ _ _ h => h) ?_ ?_
  · intro D i x acc G1 H1 hi _ e1 S1 I1 it Kp Sk kp sk
    refine rd_name ⟨hw x, ?_⟩
    have e : (xs.take (i + 1)).filter p = (xs.take i).filter p ++ (if p x = true then [x] else []) := by
      rw [List.take_add_one, it, List.filter_append, show (some x).toList = [x] from rfl, List.filter_cons, List.filter_nil]
    refine hT x acc D G1 H1 (List.mem_of_getElem? it) e1 S1 _ fun H2 S2 => ?_
    by_cases hp : p x = true
    · rw [if_pos hp]
      rw [if_pos hp] at e
      refine hS x acc D G1 H2 (List.mem_of_getElem? it) hp e1 S2 _ fun H3 S3 => kp _ G1 H3 (Ex.refl _) S3 ?_
      rw [I1, e, List.map_append]
      rfl
    · rw [if_neg hp]
      rw [if_neg hp] at e
      refine sk G1 H2 (Ex.refl _) S2 ?_
      rw [I1, e, List.append_nil]
  · intro D acc G2 H2 e2 S2 I2 _
    rw [List.take_length] at I2
    subst I2
    exact q D G2 H2 e2 S2
/-- n values told by a world that draws -/
theorem lc_draws (hW : Wd W) {n : Nat} {lo : Int} (S : W G H L) (hz : n < 1000000) (hw : ∀ x, wipe ((wipe σ [j]).set j (some x)) [j] = wipe σ [j]) (P : V → Prop)
    (hS : ∀ i acc D G1 H1, i < n → Ex G G1 → W G1 H1 ((D, .lst acc) :: L) → ∀ Kp : VK, (∀ v G2 H2, Ex G1 G2 → W G2 H2 ((D, .lst acc) :: L) → P v → Kp v H2) → te ((wipe σ [j]).set j (some (.int (lo + (i : Nat))))) H1 Kp)
    (q : ∀ D vs G2 H2, Ex G G2 → W G2 H2 ((D, .lst vs) :: L) → vs.length = n → (∀ v, v ∈ vs → P v) → Q (.ref D) H2) : LcG (Itr lo n) (gName j) tYes te [j] σ H Q := by
  refine lc_go hW walk_range S hz (fun i v _ => v = .int (lo + (i : Nat))) (fun i acc _ => acc.length = i ∧ ∀ v, v ∈ acc → P v) (fun _ _ => True.intro)
    (fun i x G1 H1 H2 L1 _ e1 S1 y => item_fn S1 y) ⟨rfl, fun _ h => by cases h⟩ (fun _ _ _ _ _ h => h) ?_ ?_
  · intro D i x acc G1 H1 hi _ e1 S1 I1 it Kp Sk kp sk
    subst it
    refine rd_name ⟨hw _, rd_yes (rd_iT ?_)⟩
    refine hS i acc D G1 H1 hi e1 S1 _ fun v G2 H2 e2 S2 hv => kp v G2 H2 e2 S2 ⟨by rw [List.length_append, I1.1]; rfl, fun u hu => ?_⟩
    cases List.mem_append.mp hu with
    | inl h => exact I1.2 u h
    | inr h => rw [List.mem_singleton.mp h]; exact hv
  · intro D acc G2 H2 e2 S2 I2 _
    exact q D acc G2 H2 e2 S2 I2.1 I2.2
end
theorem len_snoc {α : Type} (l : List α) (a : α) : (l ++ [a]).length = l.length + 1 := List.length_append
theorem in_two {α : Type} {x a : α} {l : List α} (h : x ∈ a :: l) : x = a ∨ x ∈ l := List.mem_cons.mp h
theorem dec_iff {p q : Prop} [Decidable p] [Decidable q] (h : p ↔ q) : decide p = decide q := decide_eq_decide.mpr h
/-! ### scalars -/
/-- a value: a number or None -/
def oV : Option Int → V
  | none => .non
  | some i => .int i
def oD : Option Int → PyData
  | none => .none
  | some i => .int i
theorem oDp {K : PySem.W.Frag} {H : Hp} : ∀ a : Option Int, Dp K H (oV a) (oD a)
  | none => .non
  | some i => .int i
theorem oDps {K : PySem.W.Frag} {H : Hp} : ∀ l : List (Option Int), DpAll K H (l.map oV) (l.map oD)
  | [] => .nil
  | a :: l => .cons (oDp a) (oDps l)
theorem o_eqv (a b : Option Int) : PyData.eqv (oD a) (oD b) = decide (a = b) := by
  cases a <;> cases b
  · rfl
  · rfl
  · rfl
  · rename_i x y
    show (x == y) = decide (some x = some y)
    by_cases h : x = y
    · subst h; rw [beq_self_eq_true, decide_eq_true rfl]
    · rw [decide_eq_false (fun z => h (Option.some.inj z))]; exact beq_eq_false_iff_ne.mpr h
theorem o_shaped (a : Option Int) : SeqAt.shaped (oD a) = true := by cases a <;> rfl
theorem o_canLay : ∀ l : List (Option Int), PyData.canLayAll0 (l.map oD) = true
  | [] => rfl
  | a :: l => by
    show (PyData.canLay0 (oD a) && PyData.canLayAll0 (l.map oD)) = true
    rw [o_canLay l]
    cases a <;> rfl
theorem o_depth : ∀ l : List (Option Int), PyData.depthAll (l.map oD) = 0
  | [] => rfl
  | a :: l => by
    show max (PyData.depth (oD a)) (PyData.depthAll (l.map oD)) = 0
    rw [o_depth l]
    cases a <;> rfl
theorem os_shaped (l : List (Option Int)) : SeqAt.shaped (.list (l.map oD)) = true := by
  unfold SeqAt.shaped
  rw [show PyData.canLay0 (.list (l.map oD)) = PyData.canLayAll0 (l.map oD) from rfl, o_canLay, show PyData.depth (.list (l.map oD)) = PyData.depthAll (l.map oD) + 1 from rfl, o_depth]
  rfl
theorem os_eqv : ∀ l m : List (Option Int), PyData.eqv (.list (l.map oD)) (.list (m.map oD)) = decide (l = m)
  | [], [] => rfl
  | [], _ :: _ => rfl
  | _ :: _, [] => rfl
  | a :: l, b :: m => by
    show (PyData.eqv (oD a) (oD b) && PyData.eqv (.list (l.map oD)) (.list (m.map oD))) = _
    rw [o_eqv, os_eqv l m]
    by_cases h : a = b
    · by_cases h2 : l = m
      · subst h h2; simp
      · rw [decide_eq_false h2, decide_eq_false (fun z => h2 (List.cons.inj z).2), Bool.and_false]
    · rw [decide_eq_false h, decide_eq_false (fun z => h (List.cons.inj z).1), Bool.false_and]
theorem fit_scal {n : Nat} {d : PyData} (h : ∀ es, d ≠ .list es ∧ d ≠ .tuple es) : fit (n + 1) d := by
  cases d with
  | list es => exact ((h es).1 rfl).elim
  | tuple es => exact ((h es).2 rfl).elim
  | _ => exact True.intro
theorem fit_os (n : Nat) (l : List (Option Int)) (h : l.length < 1000000) : fit (n + 2) (.list (l.map oD)) := ⟨by rw [List.length_map]; exact h, fun e he => by
  obtain ⟨a, _, rfl⟩ := List.mem_map.mp he
  cases a <;> exact True.intro⟩
theorem fit_bools (n : Nat) (l : List Bool) (h : l.length < 1000000) : fit (n + 2) (.list (l.map PyData.bool)) := ⟨by rw [List.length_map]; exact h, fun e he => by
  obtain ⟨a, _, rfl⟩ := List.mem_map.mp he
  exact True.intro⟩

/-! Calls with keywords alone; defs made callable. -/
/-- n keyword values, put in the parameters' order -/
def gPV {α : Type} (n : Nat) (perm : List Nat) (vs zs : List α) : List α := if vs.length = 0 ∧ zs.length = n then perm.filterMap fun i => zs[i]? else []
theorem gPV_rel {n : Nat} {perm : List Nat} {vs zs : List V} {us ws : List Value} (r : Vals vs us) (q : Vals zs ws) : Vals (gPV n perm vs zs) (gPV n perm us ws) := by
  have h1 := r.length
  have h2 := q.length
  unfold gPV
  by_cases h : vs.length = 0 ∧ zs.length = n
  · rw [if_pos h, if_pos ⟨by rw [← h1]; exact h.1, by rw [← h2]; exact h.2⟩]
    induction perm with
    | nil => exact .nil
    | cons i perm ih =>
      rw [List.filterMap_cons, List.filterMap_cons]
      cases e : zs[i]? with
      | none =>
        rw [Vals.none_of q e]
        exact ih
      | some x =>
        obtain ⟨u, hu, ru⟩ := Vals.get q e
        rw [hu]
        exact .cons ru ih
  · rw [if_neg h, if_neg (fun z => h ⟨by rw [h1]; exact z.1, by rw [h2]; exact z.2⟩)]
    exact .nil
structure CalK (P : Program) (w : World) (K : PySem.W.Frag) (mg : Str → Option Value) (base : Heap) (k : Nat) (x : Str) (sp : Sp) (ks : List Str) (perm : List Nat) : Prop where
  ex : ∃ (f : Addr) (fd : FuncData) (ps : List Str), FnOk P w K mg base CX0 k f fd ps sp ∧ mg x = some (.ref f) ∧ PySem.W.keepIn K (.ref f) = true ∧ KBinds K fd ps ks (gPV ks.length perm) (gPV ks.length perm)
theorem calK_mk {P : Program} {w : World} {K : PySem.W.Frag} {mg : Str → Option Value} {base : Heap} {k : Nat} {x qual : Str} {st : Stmt} {f : Addr} {fd : FuncData} {ps ks : List Str} {perm : List Nat} {sp : Sp} (F : Fun K x qual st f fd) (G : FnOk P w K mg base CX0 k f fd ps sp) (g : mg x = some (.ref f)) (h0 : 0 < ps.length)
    (h : ∀ (kV doc pm : Value) (an : Option Addr) (cdv ct : Value) (ws : List Value), ws.length = ks.length → bindArgs (PySem.W.fnOf x qual (defArgs st) (defBody st) (defScope st) .none kV doc pm an cdv ct) ⟨[], ks.zip ws⟩ = pure (ps.zip (gPV ks.length perm [] ws))) : CalK P w K mg base k x sp ks perm := by
  have ⟨_, _, kV, doc, pm, an, cdv, ct, _, hfd, _, _⟩ := F.ex
  subst hfd
  refine ⟨f, _, ps, G, g, F.kp, ⟨fun s us ws _ hl => ?_, gPV_rel⟩⟩
  by_cases c : us.length = 0 ∧ ws.length = ks.length
  · have hu : us = [] := List.length_eq_zero_iff.mp c.1
    subst hu
    exact .of_eq (h kV doc pm an cdv ct ws c.2)
  · unfold gPV at hl
    rw [if_neg c] at hl
    exact absurd hl (by simp; omega)
section
variable {X : Cx} {k j : Nat} {x : Str} {sp : Sp} {ks : List Str} {perm : List Nat} {p pos : Pos} {kws : List Keyword} {tk : TA}
/-- a call by its name, all its values by keyword -/
theorem pe_cK (c : CalK X.prog X.w X.K X.mg X.base k x sp ks perm) (hr : Room j X.A) (hk : k ≤ j) (hg : Gl X x) (hkw : PK X kws tk)
    (named : (backToKw pos (keywordEach kws X.env)).all (·.1.isSome) = true := by rfl)
    (names : (backToKw pos (keywordEach kws X.env)).filterMap (·.1) = ks := by rfl)
    (nodb : (x == ("__debug__" : Str)) = false := by decide)
    (noStar : ((backTo pos (starEach [] X.env)).any (·.1)
      || (backToKw pos (keywordEach kws X.env)).any (·.1.isNone)) = false := by rfl) :
    PE X (.Call (.Name x p) [] kws pos) (tCallK sp (gPV ks.length perm) E0 tNil tk) := by
  have ⟨f, fd, ps, ok, hmg, hkeep, hbinds⟩ := c.ex
  constructor
  intro pins s σ H Q hI hQ
  apply wpAny_Call_Name_kw (ld_glob hI hg hmg ?_ nodb)
  apply PySem.W.callWith_KW0 (h₀ := X.base) hI.ok.mod.kin hkeep named ?_ noStar
  apply thn (hkw.run pos pins s σ H _ hI hQ)
  rintro ws s2 ⟨zs, H2, hI2, hz, hQ2⟩
  constructor
  · exact hI2.kIn
  · rw [names]
    exact run_fnk ok (hr.mono hk) hbinds pass0 hI2 .nil hz hQ2
end
/-- a def that keeps its promise, made callable -/
theorem cal_mk {P : Program} {w : World} {K : PySem.W.Frag} {mg : Str → Option Value} {base : Heap} {k : Nat} {x qual : Str} {st : Stmt} {f : Addr} {fd : FuncData} {ps : List Str} {sp : Sp} (F : Fun K x qual st f fd) (G : FnOk P w K mg base CX0 k f fd ps sp) (g : mg x = some (.ref f))
    (h : ∀ (kV doc pm : Value) (an : Option Addr) (cdv ct : Value) (us : List Value), us.length = ps.length → bindArgs (PySem.W.fnOf x qual (defArgs st) (defBody st) (defScope st) .none kV doc pm an cdv ct) ⟨us, []⟩ = pure (ps.zip us)) : C8.Cal P w K mg base k x sp [] :=
  ⟨f, fd, ps, [], G, g, F.kp, F.binds h, .nil⟩
theorem fnOk_never {P : Program} {w : World} {K : PySem.W.Frag} {mg : Str → Option Value} {base : Heap} {k : Nat} {f : Addr} {fd : FuncData} {ps : List Str} {sp : Sp} (h : ∀ vs H Q E, sp vs H Q E → False) : FnOk P w K mg base CX0 k f fd ps sp :=
  ⟨fun vs H Q E z => (h vs H Q E z).elim, fun _ _ _ _ _ _ _ _ _ _ _ _ _ z => (h _ _ _ _ z).elim⟩

/-! Built-ins with one keyword; max and min of numbers with a default. -/
def CallKR (X : Cx) (f : Value) (kn : Str) (r : V → V → Hp → VK → Prop) : Prop :=
  ∀ (pins : List (Addr × Obj)) (s : Shared) (σ : L2.St) (H : Hp) (x d : V) (v w : Value) (Q : VK), Inv X pins σ H s → RelV x v → RelV d w → r x d H Q →
    wpAny (model X.prog X.w) X.A (call f [v] [(kn, w)]) (EP X pins σ Q) X.xe s
def tBK (r : V → V → Hp → VK → Prop) (t tk : TA) : TE := fun σ H Q => t σ H fun vs H1 => tk σ H1 fun zs H2 => ∃ a d, vs = [a] ∧ zs = [d] ∧ r a d H2 Q
theorem rd_bk {r : V → V → Hp → VK → Prop} {t tk : TA} {σ : L2.St} {H : Hp} {Q : VK} (q : t σ H fun vs H1 => tk σ H1 fun zs H2 => ∃ a d, vs = [a] ∧ zs = [d] ∧ r a d H2 Q) : tBK r t tk σ H Q := q
theorem rd_bk1 {P : V → V → Prop} {a d : V} (q : P a d) : ∃ a' d', [a] = [a'] ∧ [d] = [d'] ∧ P a' d' := ⟨a, d, rfl, rfl, q⟩
theorem pe_bK {X : Cx} {id : String} {kn x : Str} {p pos : Pos} {e : Expr} {kws : List Keyword} {t tk : TA} {r : V → V → Hp → VK → Prop} (hc : CallKR X (.builtin id) kn r) (hg : Gl X x) (hm : X.mg x = none) (hv : bootBuiltins x = some (.builtin id))
    (ha : PA X [e] t) (hk : PK X kws tk)
    (hks : (backToKw pos (keywordEach kws X.env)).filterMap (·.1) = [kn] := by rfl)
    (hn : x ≠ "__name__" := by decide) (hdb : (x == ("__debug__" : Str)) = false := by decide)
    (he : backTo pos (starEach [e] X.env) = (false, eval e X.env) :: backTo pos (starEach [] X.env) := by rfl) (hpl : (backTo pos (starEach [e] X.env)).any (·.1) = false := by rfl)
    (hall : (backToKw pos (keywordEach kws X.env)).all (·.1.isSome) = true := by rfl) (hno : (backToKw pos (keywordEach kws X.env)).any (·.1.isNone) = false := by rfl) :
    PE X (.Call (.Name x p) [e] kws pos) (tBK r t tk) := by
  constructor
  intro pins s σ H Q hI hQ
  apply wpAny_Call_Name_kw (ld_blt hI hg hm hv ?_ hn hdb)
  apply PyProof.Rows.callWith_kw ?_ he hpl hall hno
  apply thn (ha.run pos pins s σ H _ hI hQ)
  rintro us s1 ⟨vs, H1, hI1, r1, q1⟩
  apply thn (hk.run pos pins s1 σ H1 _ hI1 q1)
  rintro ws s2 ⟨zs, H2, hI2, r2, a, d, rfl, rfl, q⟩
  rw [hks]
  match r1, r2 with
  | .cons ra .nil, .cons rd .nil => exact hc pins s2 σ H2 a d _ _ Q hI2 ra rd q
def foldMax : List Int → Option Int
  | [] => none
  | n :: r => some (r.foldl max n)
def foldMin : List Int → Option Int
  | [] => none
  | n :: r => some (r.foldl min n)
def rMaxD (K : PySem.W.Frag) : V → V → Hp → VK → Prop := fun x d H Q => ∃ (a : Addr) (ns : List Int), x = .ref a ∧ SqL K H a (ns.map V.int) ∧ Q ((foldMax ns).elim d V.int) H
def rMinD (K : PySem.W.Frag) : V → V → Hp → VK → Prop := fun x d H Q => ∃ (a : Addr) (ns : List Int), x = .ref a ∧ SqL K H a (ns.map V.int) ∧ Q ((foldMin ns).elim d V.int) H
theorem depth_ints : ∀ ns : List Int, PyData.depthAll (ns.map PyData.int) = 0
  | [] => rfl
  | n :: ns => by
    show max 0 (PyData.depthAll (ns.map PyData.int)) = 0
    rw [depth_ints ns]; rfl
theorem alike_ints (ns : List Int) : PySem.W.AlikeAll (ns.map PyData.int) := by
  refine ⟨fun x hx y hy => ?_, fun x hx => ?_⟩
  · have ⟨_, _, h1⟩ := List.mem_map.mp hx
    have ⟨_, _, h2⟩ := List.mem_map.mp hy
    subst h1; subst h2; rfl
  · have ⟨_, _, h1⟩ := List.mem_map.mp hx
    subst h1
    exact fun z => nomatch z
theorem ck_max {X : Cx} (hc : X.calm = true) (hu : X.A.units + 64 < cLine) : CallKR X (.builtin "max") "default" (rMaxD X.K) := by
  rintro pins s σ H x d v w Q hI rx rd ⟨a, ns, rfl, hs, q⟩
  have ⟨its, rv, hl, _⟩ := hI.list hs
  cases rx
  have ⟨as, hr⟩ := Dp.readsAll hI _ _ its (DpAll.ints (K := X.K) (H := H) ns) rv
  have room : PyData.depthAll (ns.map PyData.int) = 0 := depth_ints ns
  apply PySem.W.max_list_default (hI.ok.hd hc) hl.isList hr (alike_ints ns) (by omega)
  · intro e h' tk hk
    cases List.map_eq_nil_iff.mp e
    exact ⟨_, H, hI.kept hk, rd, q⟩
  · intro y ys i v h' tk bs e hi r hk
    match ns, e with
    | n :: r2, e =>
      have ⟨e1, e2⟩ := List.cons.inj e
      subst e1 e2
      rw [PySem.W.maxD_ints] at r
      cases r
      exact ⟨.int (r2.foldl max n), H, hI.kept hk, ⟨_, rfl⟩, q⟩
theorem ck_min {X : Cx} (hc : X.calm = true) (hu : X.A.units + 64 < cLine) : CallKR X (.builtin "min") "default" (rMinD X.K) := by
  rintro pins s σ H x d v w Q hI rx rd ⟨a, ns, rfl, hs, q⟩
  have ⟨its, rv, hl, _⟩ := hI.list hs
  cases rx
  have ⟨as, hr⟩ := Dp.readsAll hI _ _ its (DpAll.ints (K := X.K) (H := H) ns) rv
  have room : PyData.depthAll (ns.map PyData.int) = 0 := depth_ints ns
  apply PySem.W.min_list_default (hI.ok.hd hc) hl.isList hr (alike_ints ns) (by omega)
  · intro e h' tk hk
    cases List.map_eq_nil_iff.mp e
    exact ⟨_, H, hI.kept hk, rd, q⟩
  · intro y ys i v h' tk bs e hi r hk
    match ns, e with
    | n :: r2, e =>
      have ⟨e1, e2⟩ := List.cons.inj e
      subst e1 e2
      rw [PySem.W.minD_ints] at r
      cases r
      exact ⟨.int (r2.foldl min n), H, hI.kept hk, ⟨_, rfl⟩, q⟩
def rMin2 : List V → Hp → VK → Prop := fun xs H Q => ∃ i j, xs = [.int i, .int j] ∧ Q (.int (if j < i then j else i)) H
theorem cg_max2 {X : Cx} (hc : X.calm = true) : CallR X (.builtin "max") Evl.rMax2 := call_max2 hc
theorem cg_min2 {X : Cx} (hc : X.calm = true) : CallR X (.builtin "min") rMin2 := call_min2 hc


local macro_rules | `(tactic| walk_at "kt") => `(tactic| first
  | exact kt_NoneType_bool
  | exact kt_NoneType_int
  | exact kt_NoneType_str
  | exact kt_NoneType_list
  | exact kt_NoneType_tuple
  | exact kt_bool_bool
  | exact kt_bool_int
  | exact kt_bool_str
  | exact kt_bool_list
  | exact kt_bool_tuple
  | exact kt_int_bool
  | exact kt_int_int
  | exact kt_int_str
  | exact kt_int_list
  | exact kt_int_tuple
  | exact kt_str_bool
  | exact kt_str_int
  | exact kt_str_str
  | exact kt_str_list
  | exact kt_str_tuple
  | exact kt_list_bool
  | exact kt_list_int
  | exact kt_list_str
  | exact kt_list_list
  | exact kt_list_tuple
  | exact kt_tuple_bool
  | exact kt_tuple_int
  | exact kt_tuple_str
  | exact kt_tuple_list
  | exact kt_tuple_tuple)
local macro_rules | `(tactic| walk_at "dp") => `(tactic| first
  | exact Dp.non | exact Dp.bl _ | exact Dp.int _ | exact Dp.str _ | assumption | exact Dp.ex (Stt.ex (by assumption)) _ _ (by assumption))
local macro_rules | `(tactic| walk_at "isi") => `(tactic| ((with_reducible refine' rd_isi ?h ?k ?_); (case h => walk_at "dp"); (case k => walk_at "kt")))
local macro_rules | `(tactic| walk_at "gk") => `(tactic| repeat (first | walk_at "go1" | walk_at "isi" | walk_at "dec"))
local macro_rules | `(tactic| walk_at "dc") => `(tactic| first
  | ((with_reducible refine rd_dec (fun e => ?aa) (fun e => ?bb)); (case aa => first | (exfalso; revert e; decide) | (exfalso; cases e; done) | exact absurd rfl e))
  | ((with_reducible refine rd_dec (fun e => ?aa) (fun e => ?bb)); (case bb => first | (exfalso; revert e; decide) | (exfalso; cases e; done) | exact absurd rfl e))
  | ((with_reducible refine rd_decN (fun e => ?aa) (fun e => ?bb)); (case aa => first | (exfalso; revert e; decide) | (exfalso; cases e; done) | exact absurd rfl e))
  | ((with_reducible refine rd_decN (fun e => ?aa) (fun e => ?bb)); (case bb => first | (exfalso; revert e; decide) | (exfalso; cases e; done) | exact absurd rfl e)))
local macro_rules | `(tactic| walk_at "gc") => `(tactic| (repeat (first | walk_at "go1" | walk_at "isi" | walk_at "dc")); (try dsimp only))

/-- a stretch: None, or two sides -/
abbrev SD := Option (Option Int × Option Int)
def StV (K : PySem.W.Frag) (G : Hp) (v : V) : SD → Prop
  | none => v = .non
  | some (a, b) => ∃ p, v = .ref p ∧ SqT K G p [oV a, oV b]
def sD : SD → PyData
  | none => .none
  | some (a, b) => .tuple [oD a, oD b]
theorem StV.ex {K : PySem.W.Frag} {G G' : Hp} {v : V} (e : Ex G G') : ∀ {s : SD}, StV K G v s → StV K G' v s
  | none, h => h
  | some (a, b), ⟨p, h1, h2⟩ => ⟨p, h1, ex_t e h2⟩
theorem StV.dp {K : PySem.W.Frag} {G : Hp} {v : V} : ∀ {s : SD}, StV K G v s → Dp K G v (sD s)
  | none, h => by cases h; exact .non
  | some (a, b), ⟨p, h1, h2⟩ => by subst h1; exact .tup h2 (.cons (oDp a) (.cons (oDp b) .nil))
def loV : Option Int → Int → Bool
  | none, _ => true
  | some a, v => decide (a ≤ v)
def hiV : Option Int → Int → Bool
  | none, _ => true
  | some b, v => decide (v ≤ b)
def inS : SD → Option Int → Bool
  | none, none => true
  | none, some _ => false
  | some _, none => false
  | some (a, b), some v => loV a v && hiV b v
def sp_in_stretch (K : PySem.W.Frag) : Sp := fun vs H Q _ => ∃ (x : V) (s : SD) (o : Option Int), vs = [x, oV o] ∧ StV K H x s ∧ Q (.bl (inS s o)) H
def t_in_stretch_2 (K : PySem.W.Frag) : TS :=
  (tRet (tAndV (tOrV (tOp rIsN (tVar 2) (tC .non)) (tCB gBool (tCons (tOp (rI0 fun i j => .bl (decide (i ≤ j))) (tVar 2) (tVar 1)) tNil))) (tOrV (tOp rIsN (tVar 3) (tC .non)) (tCB gBool (tCons (tOp (rI0 fun i j => .bl (decide (i ≤ j))) (tVar 1) (tVar 3)) tNil)))))
def t_in_stretch_1 (K : PySem.W.Frag) : TS :=
  (tSeq (tAsg (tVar 0) (gTup K 2 (gCons (gName 2) (gCons (gName 3) gNil))))
  (t_in_stretch_2 K))
def t_in_stretch (K : PySem.W.Frag) : TS :=
  (tSeq (tIfS (tOr (tTest (tOp rIsN (tVar 0) (tC .non))) (tTest (tOp rIsN (tVar 1) (tC .non)))) (tRet (tAndV (tOp rIsN (tVar 0) (tC .non)) (tOp rIsN (tVar 1) (tC .non)))) tNext)
  (t_in_stretch_1 K))
theorem read_in_stretch {K : PySem.W.Frag} {x : V} {s : SD} {o : Option Int} {H : Hp} {D : Ends} {a1 a2 : Option V} (hx : StV K H x s) (q : D.rt (.bl (inS s o)) H) : t_in_stretch K D [some x, some (oV o), a1, a2] H := by
  unfold t_in_stretch
  cases s with
  | none =>
    cases hx
    cases o <;> (dsimp only [oV]; walk_at "gc"; exact q)
  | some ab =>
    obtain ⟨a, b⟩ := ab
    obtain ⟨p, rfl, hp⟩ := hx
    cases o with
    | none =>
      dsimp only [oV]
      walk_at "gc"
      exact q
    | some v =>
      dsimp only [oV]
      walk_at "gc"
      try dsimp only
      unfold t_in_stretch_1
      walk_at "gc"
      refine rd_gtup2 hp ?_
      unfold t_in_stretch_2
      rcases a with _ | a <;> rcases b with _ | b <;> dsimp only [oV]
      · walk_at "gc"
        exact q
      · walk_at "gc"
        exact q
      · walk_at "gc"
        by_cases h : a ≤ v
        · rw [decide_eq_true h]
          walk_at "gc"
          rw [show inS (some (some a, none)) (some v) = (decide (a ≤ v) && true) from rfl, decide_eq_true h] at q
          exact q
        · rw [decide_eq_false h]
          walk_at "gc"
          rw [show inS (some (some a, none)) (some v) = (decide (a ≤ v) && true) from rfl, decide_eq_false h] at q
          exact q
      · walk_at "gc"
        by_cases h : a ≤ v
        · rw [decide_eq_true h]
          walk_at "gc"
          rw [show inS (some (some a, some b)) (some v) = (decide (a ≤ v) && decide (v ≤ b)) from rfl, decide_eq_true h] at q
          exact q
        · rw [decide_eq_false h]
          walk_at "gc"
          rw [show inS (some (some a, some b)) (some v) = (decide (a ≤ v) && decide (v ≤ b)) from rfl, decide_eq_false h] at q
          exact q
theorem sat_in_stretch {K : PySem.W.Frag} {vs : List V} {H : Hp} {Q : VK} {E : XK} (h : sp_in_stretch K vs H Q E) : vs.length = 2 ∧ t_in_stretch K { nx := fun _ H' => Q .non H', rt := Q } (vs.map some ++ List.replicate (4 - vs.length) none) H := by
  obtain ⟨x, s, o, rfl, hx, q⟩ := h
  exact ⟨rfl, read_in_stretch hx q⟩
theorem fit_sD (n : Nat) : ∀ s : SD, fit (n + 2) (sD s)
  | none => True.intro
  | some (a, b) => ⟨by show 2 < _; decide, fun e he => by
    rcases in_two he with rfl | he
    · cases a <;> exact True.intro
    · rw [List.mem_singleton.mp he]; cases b <;> exact True.intro⟩

/-! sorted(set(xs)) of a list or a tuple of ints. -/
section
variable {s : Shared} {w : World} {P : Program} {A : Around} {E : Value → Shared → Prop}
theorem in2 {α : Type} {a b c : α} (h : a ∈ [b, c]) : a = b ∨ a = c := by simpa using h
/-- a set with nothing in it -/
abbrev bare (w : World) : Obj := { cls := .type "set", dict := none, data := .set #[] 0 (.fresh 0 0 (!w.params.followText "set-order")) }
/-- the heap and the tokens alone changed, all that stood stays -/
def Grown (s s2 : Shared) (R : Heap → Prop) : Prop := ∃ h2 t2, s2 = { s with heap := h2, toks := t2 } ∧ R h2 ∧ ∀ b o, s.heap.get? b = some o → h2.get? b = some o
theorem fill_list {l : Addr} {vs : Array Value} (ns : List Int) (calm : A.handled = none) (hl : s.heap.IsList l vs) (isI : IntsAre vs.toList ns) (few : ns.length + 1 < scanBound) :
    codeAny (model P w) A (.call (.builtin "set.__init__") ⟨[.ref s.heap.objs.size, .ref l], []⟩)
      (wants (fun r s2 => r = .none ∧ Grown s s2 fun h2 => ∃ c, c ≤ ns.length ∧ SetR w h2 s.heap.objs.size (fun j => decide (j ∈ ns)) c) E) { s with heap := s.heap.push (bare w) } := by
  have size : vs.size = ns.length := (Array.length_toList ..).symm.trans (IntsAre.length isI)
  have stands : (s.heap.push (bare w)).get? s.heap.objs.size = some (bare w) := Heap.get?_push_size _ rfl
  have typed : Shared.TypeIs { s with heap := s.heap.push (bare w) } (.ref s.heap.objs.size) "set" := ⟨_, stands, rfl⟩
  apply codeAny_call_builtin F.called_set.init.plain F.entry_set_init (check_set_init_1 typed ?_)
  have low : l < s.heap.objs.size := have ⟨_, e, _⟩ := hl; Heap.lt_size e
  have hl1 := hl.push (bare w)
  have ⟨ob, e0, e1, n0, e2⟩ := hl1
  obtain ⟨k1, k2, k3, k4⟩ := ob
  simp only at e1 e2
  subst e1 e2
  have t1 := F.sub_list_set
  have t2 := F.sub_list_frozenset
  have t3 : (Value.type "list" == Value.type "dict") = false := rfl
  unfold Builtin.«set.__init__»
  unfold noKeywords
  unfold Builtin.Frozenset.updateFrom
  generalize gen : pyIter = PI
  wp_walk
  subst gen
  apply wpAny_pyIter_list hl1
  apply wpAny_bind
  apply wpAny_runValue
  have new : (s.heap.push (bare w)).objs.size = s.heap.objs.size + 1 := Heap.size_push ..
  have ne : l ≠ (s.heap.push (bare w)).objs.size := by rw [new]; exact Nat.ne_of_lt (Nat.lt_succ_of_lt low)
  have apart : s.heap.objs.size ∉ [(s.heap.push (bare w)).objs.size, l] := fun z => by
    rw [new] at z
    rcases in2 z with z | z
    · exact absurd z (Nat.ne_of_lt (Nat.lt_succ_self _))
    · exact absurd z (Nat.ne_of_gt low)
  have each : ∀ (i : Nat) (v : Value), vs[i]? = some v → ∃ k t, ns[i]? = some k ∧ v = .int k t := fun i v hv => by
    have hi : i < ns.length := by rw [← size]; exact (Array.getElem?_eq_some_iff.mp hv).1
    have ⟨t, e⟩ := IntsAre.int_at isI i v (by rw [Array.getElem?_toList]; exact hv)
    exact ⟨ns[i], t, List.getElem?_eq_getElem hi, by rw [e]; simp [hi]⟩
  apply set_update_ints (Walks.list (by simp [calm]) _ l ne vs).toS s.heap.objs.size apart ns size few each (vs.size - 0) 0 _ (by omega) (Nat.zero_le _) ⟨⟨_, Heap.get?_push_size _ rfl, rfl, rfl⟩, hl1.push _⟩
  · exact ⟨0, Nat.le_refl 0, setR_new_at (Heap.get?_push_of_some _ stands)⟩
  · intro s3 c hm hc hR
    obtain ⟨h3, g3, d3, t3, o3⟩ := s3
    cases (hm.gens : g3 = s.gens)
    cases (hm.drawn : d3 = s.drawn)
    cases (hm.os : o3 = s.os)
    apply wpAny_pure
    apply wpAny_pure
    refine ⟨rfl, h3, t3, rfl, ⟨c, by omega, hR⟩, fun b o e => hm.heap b o ?_ (Heap.get?_push_of_some _ (Heap.get?_push_of_some _ e))⟩
    have hlt := Heap.lt_size e
    intro z
    rw [new] at z
    rcases in2 z with z | z
    · exact absurd z (Nat.ne_of_lt hlt)
    · exact absurd z (Nat.ne_of_lt (Nat.lt_succ_of_lt hlt))
/-- set(xs), xs a list of ints -/
theorem set_of_list {l : Addr} {vs : Array Value} (ns : List Int) {Q : Value → Shared → Prop} (calm : A.handled = none) (hl : s.heap.IsList l vs) (isI : IntsAre vs.toList ns) (few : ns.length + 1 < scanBound)
    (h : ∀ (h2 : Heap) (t2 c : Nat), SetR w h2 s.heap.objs.size (fun j => decide (j ∈ ns)) c → c ≤ ns.length → (∀ b o, s.heap.get? b = some o → h2.get? b = some o) → Q (.ref s.heap.objs.size) { s with heap := h2, toks := t2 }) : wpAny (model P w) A (call (.type "set") [.ref l]) Q E s := by
  have ⟨_, _, line⟩ := F.called_set.mro
  have b1 := F.called_set.made
  have b2 := F.called_set.sub
  have b3 := F.called_set.notType
  have b4 := F.called_set.canCreate
  have b5 := F.typeCall_set_1 (.ref l)
  apply wpAny_call
  apply codeAny_of_tree
  change wpAny _ _ (callAny (.type "set") _) _ _ _
  apply wpAny_pure
  refine ⟨Code.quiet_builtin _ (by decide +kernel), ?_⟩
  apply codeAny_builtin F.entry_type_call
  rewrite [Around.under_plain (weight_type_call_type "set" [.ref l] []) rfl]
  repeat any_goals first | assumption | wp_step
  apply codeAny_mono (code_set_led1 (.ref l) (E := E) (Q₁ := fun ob s2 => ob = .ref s.heap.objs.size ∧ s2 = { s with heap := s.heap.push (bare w) }) ⟨rfl, rfl⟩)
  intro r s2 hr
  match r, hr with
  | .error _, hr => exact hr
  | .ok (.ret ob), hr =>
    obtain ⟨e1, e2⟩ := hr
    subst e1 e2
    have stands : (s.heap.push (bare w)).get? s.heap.objs.size = some (bare w) := Heap.get?_push_size _ rfl
    have typed : Shared.TypeIs { s with heap := s.heap.push (bare w) } (.ref s.heap.objs.size) "set" := ⟨_, stands, rfl⟩
    have c1 := F.called_set.init.lookup
    have c2 := F.called_set.init.bind (.ref s.heap.objs.size)
    repeat any_goals first | assumption | wp_step
    apply codeAny_mono (fill_list ns (E := E) (by simp [calm]) hl isI few)
    intro r2 s3 hr2
    match r2, hr2 with
    | .error _, hr2 => exact hr2
    | .ok (.ret ob2), hr2 =>
      obtain ⟨e3, h2, t2, e4, ⟨c, hc, hR⟩, hk⟩ := hr2
      subst e3 e4
      repeat any_goals first | assumption | wp_step
      exact h h2 t2 c hR hc hk
end
section
variable {X : Cx}
/-- set(xs) -/
def rSetI (K : PySem.W.Frag) (w : World) : List V → Hp → VK → Prop := fun xs H Q => ∃ (a : Addr) (ns : List Int), xs = [.ref a] ∧ (SqL K H a (ns.map V.int) ∨ SqT K H a (ns.map V.int)) ∧ ns.length < 64 ∧
  ∀ p c, c ≤ ns.length → H p = none → Q (.ref p) (upd H p (SetO w p (fun j => decide (j ∈ ns)) c))
theorem few64 {n : Nat} (h : n < 64) : n + 1 < scanBound := by unfold scanBound; omega
theorem cg_set (hc : X.calm = true) : CallR X (.type "set") (rSetI X.K X.w) := by
  rintro pins s σ H xs us Q hI hr ⟨a, ns, rfl, hs, hn, q⟩
  rw [Vals.ref1 hr]
  have fin : ∀ (h2 : Heap) (t2 c : Nat), SetR X.w h2 s.heap.objs.size (fun j => decide (j ∈ ns)) c → c ≤ ns.length → (∀ b o, s.heap.get? b = some o → h2.get? b = some o) →
      EP X pins σ Q (.ref s.heap.objs.size) { s with heap := h2, toks := t2 } := fun h2 t2 c hR hle hk =>
    ⟨.ref _, _, hI.laid hk (Nat.le_refl _) (setO_new hR), rfl, q _ c hle (hI.hok.fresh (Nat.le_refl _))⟩
  rcases hs with hs | hs
  · have ⟨its, rv, hl, _⟩ := hI.list hs
    exact set_of_list ns (hI.ok.hd hc) hl.isList (ints_of_vals rv) (few64 hn) fin
  · have ⟨its, rv, ht, _⟩ := hI.tuple hs
    exact call_set_tupI ns (hI.ok.hd hc) (show s.heap.IsTuple a its.toArray from ht) (ints_of_vals rv) (few64 hn) fin
/-- what is read of sorted(set(xs)) -/
def SrtG (K : PySem.W.Frag) (x : V) (H : Hp) (Q : VK) : Prop := ∃ (a : Addr) (ns : List Int), x = .ref a ∧ (SqL K H a (ns.map V.int) ∨ SqT K H a (ns.map V.int)) ∧ ns.length < 64 ∧
  ∀ (ms : List Int) (o : HO) (p r : Addr), ms.Pairwise (· < ·) → (∀ k, k ∈ ms ↔ k ∈ ns) → ms.length ≤ ns.length → H p = none → upd H p o r = none → Q (.ref r) (upd (upd H p o) r (.lst (ms.map V.int)))
def tSrt (K : PySem.W.Frag) (te : TE) : TE := fun σ H Q => te σ H fun x H1 => SrtG K x H1 Q
theorem rd_srt {K : PySem.W.Frag} {te : TE} {σ : L2.St} {H : Hp} {Q : VK} (q : te σ H fun x H1 => SrtG K x H1 Q) : tSrt K te σ H Q := q
/-- with a stronger promise behind it -/
def tUp (te : TE) : TE := fun σ H Q => ∃ Q2 : VK, te σ H Q2 ∧ ∀ x H1, Q2 x H1 → Q x H1
theorem pe_up {e : Expr} {te : TE} (h : PE X e te) : PE X e (tUp te) := by
  constructor
  rintro pins s σ H Q hI ⟨Q2, hq, imp⟩
  exact thn (h.run pins s σ H Q2 hI hq) fun v s1 ⟨x, H1, hI1, hr, q⟩ => ⟨x, H1, hI1, hr, imp x H1 q⟩
theorem pe_weak {e : Expr} {t t2 : TE} (h : PE X e t) (imp : ∀ σ H Q, t2 σ H Q → t σ H Q) : PE X e t2 := ⟨fun pins s σ H Q hI hq => h.run pins s σ H Q hI (imp σ H Q hq)⟩
theorem pe_srt {e : Expr} {te : TE} {p1 p2 q1 q2 : Pos} (hc : X.calm = true) (g1 : Gl X "sorted") (m1 : X.mg "sorted" = none) (g2 : Gl X "set") (m2 : X.mg "set" = none) (he : PE X e te)
    (hs : starEach [e] X.env = (false, eval e X.env) :: starEach [] X.env := by rfl) :
    PE X (.Call (.Name "sorted" p1) [.Call (.Name "set" p2) [e] [] q2] [] q1) (tSrt X.K te) := by
  have pset := pe_callTy (p := p2) (pos := q2) (cg_set hc) g2 m2 (by decide +kernel) (pa_cons (pe_up he) pa_nil hs) (by decide) (by decide) hs
  have psrt := pe_callB (p := p1) (pos := q1) (cr_sortedSet hc) g1 m1 (by decide +kernel) (pa_cons pset pa_nil)
  refine pe_weak psrt fun σ H Q h => ⟨_, h, ?_⟩
  rintro x H1 ⟨a, ns, rfl, hm, hn, q⟩
  refine ⟨a, ns, rfl, hm, hn, fun p c hle hp => ?_⟩
  refine ⟨p, _, c, rfl, upd_same, by omega, fun ms r up hmem hlen hr => ?_⟩
  exact q ms _ p r up (fun k => (hmem k).trans decide_eq_true_iff) (by omega) hp hr
end

/-! pieces: the stretches that part all values. -/


/-! ### lists of stretches -/
def StVs (K : PySem.W.Frag) (G : Hp) : List V → List SD → Prop
  | [], [] => True
  | v :: vs, s :: ss => StV K G v s ∧ StVs K G vs ss
  | _, _ => False
section
variable {K : PySem.W.Frag} {G G' : Hp}
theorem StVs.ex (e : Ex G G') : ∀ {vs : List V} {ss : List SD}, StVs K G vs ss → StVs K G' vs ss
  | [], [], _ => True.intro
  | _ :: _, _ :: _, h => ⟨h.1.ex e, StVs.ex e h.2⟩
  | [], _ :: _, h => h.elim
  | _ :: _, [], h => h.elim
theorem StVs.snoc {v : V} {s : SD} (h1 : StV K G v s) : ∀ {vs : List V} {ss : List SD}, StVs K G vs ss → StVs K G (vs ++ [v]) (ss ++ [s])
  | [], [], _ => ⟨h1, True.intro⟩
  | _ :: _, _ :: _, h => ⟨h.1, StVs.snoc h1 h.2⟩
  | [], _ :: _, h => h.elim
  | _ :: _, [], h => h.elim
theorem StVs.dp : ∀ {vs : List V} {ss : List SD}, StVs K G vs ss → DpAll K G vs (ss.map sD)
  | [], [], _ => .nil
  | _ :: _, _ :: _, h => .cons h.1.dp (StVs.dp h.2)
  | [], _ :: _, h => h.elim
  | _ :: _, [], h => h.elim
theorem StVs.len : ∀ {vs : List V} {ss : List SD}, StVs K G vs ss → vs.length = ss.length
  | [], [], _ => rfl
  | _ :: _, _ :: _, h => congrArg Nat.succ (StVs.len h.2)
  | [], _ :: _, h => h.elim
  | _ :: _, [], h => h.elim
theorem StVs.get {v : V} : ∀ {vs : List V} {ss : List SD} {i : Nat}, StVs K G vs ss → vs[i]? = some v → ∃ s, ss[i]? = some s ∧ StV K G v s
  | [], [], _, _, h => nomatch h
  | _ :: _, s :: _, 0, h, e => by cases Option.some.inj e; exact ⟨s, rfl, h.1⟩
  | _ :: _, _ :: _, i + 1, h, e => StVs.get (i := i) h.2 e
  | [], _ :: _, _, h, _ => h.elim
  | _ :: _, [], _, h, _ => h.elim
end
/-! ### the pieces -/
def below : Option Int → Int → Bool
  | none, _ => true
  | some l, n => decide (l < n)
def nxt (st : List SD × Option Int) (n : Int) : List SD × Option Int :=
  ((if below st.2 n = true then st.1 ++ [some (st.2, some (n - 1))] else st.1) ++ [some (some n, some n)], some (n + 1))
def run (ms : List Int) : List SD × Option Int := ms.foldl nxt ([none], none)
def pcs (ms : List Int) : List SD := (run ms).1 ++ [some ((run ms).2, none)]
theorem run_take {ms : List Int} {i : Nat} {n : Int} (h : ms[i]? = some n) : run (ms.take (i + 1)) = nxt (run (ms.take i)) n := by
  unfold run
  rw [List.take_add_one, h]
  rw [List.foldl_append]
  rfl
theorem run_len : ∀ (ms : List Int) (st : List SD × Option Int), (ms.foldl nxt st).1.length ≤ st.1.length + 2 * ms.length
  | [], st => Nat.le_refl _
  | n :: ms, st => by
    have h := run_len ms (nxt st n)
    have h2 : (nxt st n).1.length ≤ st.1.length + 2 := by
      unfold nxt
      split <;> simp
    simp only [List.foldl, List.length_cons]
    omega
theorem run_few {ms : List Int} (i : Nat) (h : ms.length < 64) : (run (ms.take i)).1.length < 200 := by
  have h1 := run_len (ms.take i) ([none], none)
  have h2 : (ms.take i).length ≤ ms.length := by rw [List.length_take]; omega
  unfold run
  have : ([none] : List SD).length = 1 := rfl
  dsimp only at h1
  omega
def sp_pieces (K : PySem.W.Frag) : Sp := fun vs H Q _ => ∃ (a : Addr) (ns : List Int) (G : Hp) (L : List (Addr × HO)), vs = [.ref a] ∧ Stt G H L ∧ (∀ H', Stt G H' L → SqL K H' a (ns.map V.int) ∨ SqT K H' a (ns.map V.int)) ∧ ns.length < 64 ∧
  (∀ (ms : List Int) p us G' H', ms.Pairwise (· < ·) → (∀ k, k ∈ ms ↔ k ∈ ns) → ms.length < 64 → Ex G G' → Stt G' H' ((p, .lst us) :: L) → StVs K G' us (pcs ms) → Q (.ref p) H')
def t_pieces_1b_2 (K : PySem.W.Frag) : TS :=
  (tAsg (tOp (gAdd K) (tVar 3) (tC (.int 1))) (gName 2))
def t_pieces_1b_1 (K : PySem.W.Frag) : TS :=
  (tSeq (tDrop (tBM K "list" rAppend (tVar 1) (tCons (tTup (tCons (tVar 3) (tCons (tVar 3) tNil))) tNil)))
  (t_pieces_1b_2 K))
def t_pieces_1b (K : PySem.W.Frag) : TS :=
  (tSeq (tIfS (tOr (tTest (tOp rIsN (tVar 2) (tC .non))) (tTest (tOp (gLt K) (tVar 2) (tVar 3)))) (tDrop (tBM K "list" rAppend (tVar 1) (tCons (tTup (tCons (tVar 2) (tCons (tOp (rI0 fun i j => .int (i - j)) (tVar 3) (tC (.int 1))) tNil))) tNil))) tNext)
  (t_pieces_1b_1 K))
def t_pieces_2 (K : PySem.W.Frag) : TS :=
  (tRet (tOp (gAdd K) (tVar 1) (tLst (tCons (tTup (tCons (tVar 2) (tCons (tC .non) tNil))) tNil))))
def t_pieces_1 (K : PySem.W.Frag) : TS :=
  (tSeq (tFor (iList K (tSrt K (tVar 0))) (gName 3) (t_pieces_1b K))
  (t_pieces_2 K))
def t_pieces (K : PySem.W.Frag) : TS :=
  (tSeq (tPar 1 2 (tCons (tLst (tCons (tC .non) tNil)) (tCons (tC .non) tNil)))
  (t_pieces_1 K))
theorem read_pieces {K : PySem.W.Frag} {a : Addr} {ns : List Int} {G H : Hp} {L : List (Addr × HO)} {D : Ends} {a1 a2 a3 : Option V} (S : Stt G H L) (hs : ∀ H', Stt G H' L → SqL K H' a (ns.map V.int) ∨ SqT K H' a (ns.map V.int)) (hn : ns.length < 64)
    (q : ∀ (ms : List Int) p us G' H', ms.Pairwise (· < ·) → (∀ k, k ∈ ms ↔ k ∈ ns) → ms.length < 64 → Ex G G' → Stt G' H' ((p, .lst us) :: L) → StVs K G' us (pcs ms) → D.rt (.ref p) H') : t_pieces K D [some (.ref a), a1, a2, a3] H := by
  unfold t_pieces
  walk_at "gc"
  refine mk_lstM stt_world S (by show 1 ≤ _; decide) fun f S1 => ?_
  walk_at "gc"
  unfold t_pieces_1
  refine rd_seq (rd_for (rd_il (rd_srt ?_)))
  walk_at "gc"
  refine ⟨a, ns, rfl, hs _ S1.drop, hn, fun ms o p r up hm hlen hp hr => ?_⟩
  have S2 := S1.new (o := o) hp
  have e2 := S1.newE (o := o) hp
  have S3 := S2.new (o := .lst (ms.map V.int)) hr
  have e3 := e2.trans (S2.newE (o := .lst (ms.map V.int)) hr)
  have hr3 : SqL K (upd (upd G p o) r (.lst (ms.map V.int))) r (ms.map V.int) := sq_of upd_same
  generalize upd (upd G p o) r (.lst (ms.map V.int)) = G3 at *
  have few : ms.length < 64 := by omega
  refine ⟨r, rfl, ⟨_, ex_l S3.ex hr3⟩, ?_⟩
  refine for_go (walk_list (xs := ms.map V.int)) (G := G3)
    (fun i σ1 G1 H1 => ∃ us x3, σ1 = [some (.ref a), some (.ref f), some (oV (run (ms.take i)).2), x3] ∧ Ex G3 G1 ∧ Stt G1 H1 ((f, .lst us) :: L) ∧ StVs K G1 us (run (ms.take i)).1)
    ⟨[.non], _, rfl, Ex.refl G3, S3, rfl, True.intro⟩ (fun i σ1 G1 H1 _ ⟨_, _, _, e4, S4, _⟩ => ex_l (e4.trans S4.ex) hr3) ?_ ?_
  · rintro i x σ1 G1 H1 H2 hi ⟨us, x3, rfl, e4, S4, hus⟩ y N hN
    obtain ⟨rfl, hx⟩ := y
    rw [List.getElem?_map] at hx
    obtain ⟨n, hn2, rfl⟩ := Option.map_eq_some_iff.mp hx
    have hrun := run_take hn2
    have hfew := run_few (ms := ms) i few
    have hlu := hus.len
    have key : ∀ (us2 : List V) (G5 H5 : Hp), Ex G1 G5 → Stt G5 H5 ((f, .lst us2) :: L) → StVs K G5 us2 (if below (run (ms.take i)).2 n = true then (run (ms.take i)).1 ++ [some ((run (ms.take i)).2, some (n - 1))] else (run (ms.take i)).1) →
        t_pieces_1b_1 K { D with nx := N, ct := N, bk := t_pieces_2 K D } [some (.ref a), some (.ref f), some (oV (run (ms.take i)).2), some (.int n)] H5 := by
      intro us2 G5 H5 e5 S5 hus2
      have hl2 := hus2.len
      have hl3 : us2.length < 300 := by
        rw [hl2]
        split
        · rw [len_snoc]; omega
        · omega
      unfold t_pieces_1b_1
      walk_at "gc"
      refine ⟨ty_list (sq_of (S5.at 0 rfl)), ?_⟩
      walk_at "gc"
      refine mk_tup stt_world S5 (by show 2 ≤ _; decide) fun z G6 e6 S6 hz => ?_
      walk_at "gc"
      refine rd_app (S6.at 0 rfl) (by omega) ?_
      unfold t_pieces_1b_2
      walk_at "gc"
      refine hN _ G6 _ ⟨us2 ++ [.ref z], some (.int n), ?_, e4.trans (e5.trans e6), S6.wr 0 rfl, ?_⟩
      · rw [hrun]; rfl
      · rw [hrun]
        exact StVs.snoc (v := .ref z) (s := some (some n, some n)) ⟨z, rfl, st_of hz⟩ (hus2.ex e6)
    refine rd_name ?_
    unfold t_pieces_1b
    cases hlo : (run (ms.take i)).2 with
    | none =>
      rw [hlo] at key
      walk_at "gc"
      refine ⟨ty_list (sq_of (S4.at 0 rfl)), ?_⟩
      walk_at "gc"
      refine mk_tup stt_world S4 (by show 2 ≤ _; decide) fun z G6 e6 S6 hz => ?_
      walk_at "gc"
      refine rd_app (S6.at 0 rfl) (by omega) ?_
      refine key _ G6 _ e6 (S6.wr 0 rfl) ?_
      rw [if_pos (show below none n = true from rfl)]
      exact StVs.snoc (v := .ref z) (s := some (none, some (n - 1))) ⟨z, rfl, st_of hz⟩ (hus.ex e6)
    | some l =>
      rw [hlo] at key
      dsimp only [oV]
      walk_at "gc"
      refine rd_dec (fun e => ?_) (fun e => ?_)
      · walk_at "gc"
        refine ⟨ty_list (sq_of (S4.at 0 rfl)), ?_⟩
        walk_at "gc"
        refine mk_tup stt_world S4 (by show 2 ≤ _; decide) fun z G6 e6 S6 hz => ?_
        walk_at "gc"
        refine rd_app (S6.at 0 rfl) (by omega) ?_
        refine key _ G6 _ e6 (S6.wr 0 rfl) ?_
        rw [if_pos (show below (some l) n = true from decide_eq_true e)]
        exact StVs.snoc (v := .ref z) (s := some (some l, some (n - 1))) ⟨z, rfl, st_of hz⟩ (hus.ex e6)
      · walk_at "gc"
        refine key us G1 _ (Ex.refl _) S4 ?_
        rw [if_neg (show ¬ below (some l) n = true from fun z => e (of_decide_eq_true z))]
        exact hus
  · rintro σ1 G1 H1 ⟨us, x3, rfl, e4, S4, hus⟩
    have hfew := run_few (ms := ms) ms.length few
    rw [List.length_map, List.take_length] at hus
    rw [List.take_length] at hfew
    simp only [List.length_map, List.take_length]
    have hlu := hus.len
    unfold t_pieces_2
    walk_at "gc"
    refine mk_tup stt_world S4 (by show 2 ≤ _; decide) fun z G5 e5 S5 hz => ?_
    walk_at "gc"
    refine mk_lst stt_world S5 (by show 1 ≤ _; decide) fun y G6 e6 S6 hy => ?_
    walk_at "gc"
    refine rd_addL (S6.at 0 rfl) (S6.ex _ _ hy) (sz_of (by show us.length + 1 ≤ _; omega)) (mk_mu (o := .lst (us ++ [.ref z])) stt_world S6 fun w S7 => ?_)
    exact q ms w _ G6 _ up hm few (e3.trans (e4.trans (e5.trans e6))) S7.swap.drop (StVs.snoc (v := .ref z) (s := some ((run ms).2, none)) ⟨z, rfl, ex_t e6 (st_of hz)⟩ (hus.ex (e5.trans e6)))
theorem sat_pieces {K : PySem.W.Frag} {vs : List V} {H : Hp} {Q : VK} {E : XK} (h : sp_pieces K vs H Q E) : vs.length = 1 ∧ t_pieces K { nx := fun _ H' => Q .non H', rt := Q } (vs.map some ++ List.replicate (4 - vs.length) none) H := by
  obtain ⟨a, ns, G, L, rfl, S, hs, hn, q⟩ := h
  exact ⟨rfl, read_pieces S hs hn q⟩

/-! The plain law of pieces: each value lies in one of them. -/
theorem up_one : ∀ (xs ys : List Int), xs.Pairwise (· < ·) → ys.Pairwise (· < ·) → (∀ k, k ∈ xs ↔ k ∈ ys) → xs = ys
  | [], [], _, _, _ => rfl
  | [], y :: _, _, _, h => nomatch (h y).mpr (List.mem_cons_self ..)
  | x :: _, [], _, _, h => nomatch (h x).mp (List.mem_cons_self ..)
  | x :: xs, y :: ys, hx, hy, h => by
    have ⟨x1, x2⟩ := List.pairwise_cons.mp hx
    have ⟨y1, y2⟩ := List.pairwise_cons.mp hy
    have e : x = y := by
      rcases in_two ((h x).mp (List.mem_cons_self ..)) with e | m
      · exact e
      · rcases in_two ((h y).mpr (List.mem_cons_self ..)) with e2 | m2
        · exact e2.symm
        · have := y1 x m
          have := x1 y m2
          omega
    subst e
    refine congrArg (x :: ·) (up_one xs ys x2 y2 fun k => ⟨fun hk => ?_, fun hk => ?_⟩)
    · rcases in_two ((h k).mp (List.mem_cons_of_mem _ hk)) with e | m
      · have := x1 k hk
        omega
      · exact m
    · rcases in_two ((h k).mpr (List.mem_cons_of_mem _ hk)) with e | m
      · have := y1 k hk
        omega
      · exact m
def cnt (o : Option Int) (ss : List SD) : Nat := (ss.filter fun s => inS s o).length
theorem cnt_app (o : Option Int) (ss tt : List SD) : cnt o (ss ++ tt) = cnt o ss + cnt o tt := by
  unfold cnt
  rw [List.filter_append, List.length_append]
theorem cnt_one (o : Option Int) (s : SD) : cnt o [s] = if inS s o = true then 1 else 0 := by
  unfold cnt
  rw [List.filter_cons, List.filter_nil]
  split <;> rfl
/-- how many of the pieces so far hold v -/
def due1 : Option Int → Int → Nat
  | none, _ => 0
  | some l, v => if v < l then 1 else 0
theorem cnt_nxt (v n : Int) (st : List SD × Option Int) (h : cnt (some v) st.1 = due1 st.2 v) (hn : ∀ l, st.2 = some l → l ≤ n) : cnt (some v) (nxt st n).1 = due1 (nxt st n).2 v := by
  obtain ⟨acc, lo⟩ := st
  dsimp only at h hn
  unfold nxt
  dsimp only
  rw [cnt_app, cnt_one]
  show _ + (if (decide (n ≤ v) && decide (v ≤ n)) = true then 1 else 0) = if v < n + 1 then 1 else 0
  cases lo with
  | none =>
    rw [if_pos (show below none n = true from rfl), cnt_app, cnt_one, h]
    show 0 + (if (true && decide (v ≤ n - 1)) = true then 1 else 0) + _ = _
    simp only [Bool.true_and, Bool.and_eq_true, decide_eq_true_eq]
    split <;> split <;> split <;> omega
  | some l =>
    have hl := hn l rfl
    unfold below
    dsimp only
    by_cases e : l < n
    · rw [if_pos (decide_eq_true e), cnt_app, cnt_one, h]
      show (if v < l then 1 else 0) + (if (decide (l ≤ v) && decide (v ≤ n - 1)) = true then 1 else 0) + _ = _
      simp only [decide_eq_true_eq, Bool.and_eq_true]
      split <;> split <;> split <;> split <;> omega
    · rw [if_neg (fun z => e (of_decide_eq_true z)), h]
      show (if v < l then 1 else 0) + _ = _
      simp only [decide_eq_true_eq, Bool.and_eq_true]
      split <;> split <;> split <;> omega
theorem cnt_run (v : Int) : ∀ (ms : List Int) (st : List SD × Option Int), ms.Pairwise (· < ·) → cnt (some v) st.1 = due1 st.2 v → (∀ l, st.2 = some l → ∀ n, n ∈ ms → l ≤ n) → cnt (some v) (ms.foldl nxt st).1 = due1 (ms.foldl nxt st).2 v
  | [], st, _, h, _ => h
  | n :: ms, st, hp, h, hl => by
    have ⟨p1, p2⟩ := List.pairwise_cons.mp hp
    rw [List.foldl_cons]
    refine cnt_run v ms (nxt st n) p2 (cnt_nxt v n st h fun l e => hl l e n (List.mem_cons_self ..)) fun l e m hm => ?_
    cases e
    have := p1 m hm
    omega
theorem cnt_none (ms : List Int) : ∀ st : List SD × Option Int, cnt none (ms.foldl nxt st).1 = cnt none st.1 := by
  induction ms with
  | nil => exact fun _ => rfl
  | cons n ms ih =>
    intro st
    rw [List.foldl_cons, ih]
    unfold nxt
    dsimp only
    rw [cnt_app, cnt_one]
    split
    · rw [cnt_app, cnt_one]; rfl
    · rfl
/-- each value lies in one piece -/
theorem pcs_part (ms : List Int) (hp : ms.Pairwise (· < ·)) : ∀ o : Option Int, cnt o (pcs ms) = 1
  | none => by
    unfold pcs run
    rw [cnt_app, cnt_one, cnt_none]
    rfl
  | some v => by
    unfold pcs
    rw [cnt_app, cnt_one]
    have h := cnt_run v ms ([none], none) hp rfl (fun l e => nomatch e)
    unfold run
    rw [h]
    cases (ms.foldl nxt ([none], none)).2 with
    | none => rfl
    | some l =>
      show (if v < l then 1 else 0) + (if (decide (l ≤ v) && true) = true then 1 else 0) = 1
      simp only [Bool.and_true, decide_eq_true_eq]
      split <;> split <;> omega
theorem pcs_few (ms : List Int) (h : ms.length < 64) : (pcs ms).length < 300 := by
  have := run_few (ms := ms) ms.length h
  rw [List.take_length] at this
  unfold pcs
  rw [len_snoc]
  omega
theorem fit_pcs (n : Nat) (ms : List Int) (h : ms.length < 64) : fit (n + 3) (.list ((pcs ms).map sD)) := by
  have hf := pcs_few ms h
  refine ⟨by rw [List.length_map]; omega, fun e he => ?_⟩
  obtain ⟨s, _, rfl⟩ := List.mem_map.mp he
  exact fit_sD n s
theorem Stt.thaw {G G2 H H2 : Hp} {p : Addr} {o : HO} {M : List (Addr × HO)} (S : Stt G H ((p, o) :: M)) (e : Ex (upd G p o) G2) (S2 : Stt G2 H2 M) : Stt G H2 ((p, o) :: M) := by
  refine ⟨S.frzE.trans (e.trans S2.ex), fun q hq => ?_, S.out, S.nd⟩
  rcases in_two hq with rfl | hq
  · exact S2.ex _ _ (e _ _ upd_same)
  · exact S2.has q hq
theorem ints_map : ∀ vs : List V, (∀ v, v ∈ vs → ∃ n : Int, v = .int n) → ∃ ns : List Int, vs = ns.map V.int
  | [], _ => ⟨[], rfl⟩
  | v :: vs, h => by
    obtain ⟨n, rfl⟩ := h v (List.mem_cons_self ..)
    obtain ⟨ns, rfl⟩ := ints_map vs fun u hu => h u (List.mem_cons_of_mem _ hu)
    exact ⟨n :: ns, rfl⟩
theorem fit_ints (n : Nat) (ns : List Int) (h : ns.length < 1000000) : fit (n + 2) (.list (ns.map PyData.int)) := ⟨by rw [List.length_map]; exact h, fun e he => by
  obtain ⟨a, _, rfl⟩ := List.mem_map.mp he
  exact True.intro⟩

/-! The law of pieces. -/


theorem lk_same {K : PySem.W.Frag} {G : Hp} {x : V} {d : PyData} (h : Dp K G x d) : lk d d = true := lk_refl d (Dp.plain _ _ h)
theorem rd_par3 {i j l : Nat} {ta : TA} {D : Ends} {σ : L2.St} {H : Hp} (q : ta σ H fun vs H1 => ∃ u v w, vs = [u, v, w] ∧ D.nx (((σ.set i (some u)).set j (some v)).set l (some w)) H1) : tPar3 i j l ta D σ H := q
theorem rd_three {P : V → V → V → Prop} {a b c : V} (q : P a b c) : ∃ u v w, [a, b, c] = [u, v, w] ∧ P u v w := ⟨a, b, c, rfl, q⟩
theorem rd_revL {K : PySem.W.Frag} {te : TE} {σ : L2.St} {H : Hp} {Q : VK} (q : te σ H fun x H1 => ∃ a xs, x = .ref a ∧ SqL K H1 a xs ∧ ∀ p, H1 p = none → Q (.ref p) (upd H1 p (.lst xs.reverse))) : tRevL K te σ H Q := q
def t_law_1b_3b_2 (K : PySem.W.Frag) : TS :=
  (tAsg (tVar 8) (gName 7))
def t_law_1b_3b_1 (K : PySem.W.Frag) : TS :=
  (tSeq (tDrop (tBM K "list" rAppend (tVar 6) (tCons (tTup (tCons (tVar 8) (tCons (tVar 8) tNil))) tNil)))
  (t_law_1b_3b_2 K))
def t_law_1b_3b (K : PySem.W.Frag) : TS :=
  (tSeq (tIfS (tOr (tTest (tOp rIsN (tVar 7) (tC .non))) (tTest (tOp (gLt K) (tOp (gAdd K) (tVar 7) (tC (.int 1))) (tVar 8)))) (tDrop (tBM K "list" rAppend (tVar 6) (tCons (tTup (tCons (tIf (tTest (tOp rIsN (tVar 7) (tC .non))) (tC .non) (tOp (gAdd K) (tVar 7) (tC (.int 1)))) (tCons (tOp (rI0 fun i j => .int (i - j)) (tVar 8) (tC (.int 1))) tNil))) tNil))) tNext)
  (t_law_1b_3b_1 K))
def t_law_1b_7b (K : PySem.W.Frag) : TS :=
  (tIfS (tTest (tOp (gNe K) (tCB (gLen K) (tCons (tLc (iList K (tVar 9)) (gName 12) (tB (tCall (sp_in_stretch K) [] E0 (tCons (tVar 12) (tCons (tVar 10) tNil)))) (tVar 12) [12]) tNil)) (tC (.int 1)))) (tRet (tC (.bl false))) tNext)
def t_law_1b_9 (K : PySem.W.Frag) : TS :=
  (tIfS (tNot (tB (tCall (sp_like K 9) [] E0 (tCons (tCall (sp_pieces K) [] E0 (tCons (tRevL K (tVar 4)) tNil)) (tCons (tVar 6) tNil))))) (tRet (tC (.bl false))) tNext)
def t_law_1b_8 (K : PySem.W.Frag) : TS :=
  (tSeq (tDrop (tBM K "list" rAppend (tVar 9) (tCons (tC (.str "x")) tNil)))
  (t_law_1b_9 K))
def t_law_1b_7 (K : PySem.W.Frag) : TS :=
  (tSeq (tFor (iList K (tOp (gAdd K) (tLst (tCons (tC .non) tNil)) (tLstRg (tRg2 (tOp (rI0 fun i j => .int (i - j)) (tVar 3) (tC (.int 2))) (tOp (gAdd K) (tVar 3) (tC (.int 11))))))) (gName 10) (t_law_1b_7b K))
  (t_law_1b_8 K))
def t_law_1b_6 (K : PySem.W.Frag) : TS :=
  (tSeq (tIfS (tOr (tNot (tB (tCall (sp_like K 9) [] E0 (tCons (tVar 9) (tCons (tVar 6) tNil))))) (tOr (tNot (tB (tCall (sp_like K 9) [] E0 (tCons (tCallK (sp_pieces K) (gPV 1 [0]) E0 tNil (tCons (tCB (gTuple K) (tCons (tVar 4) tNil)) tNil)) (tCons (tVar 6) tNil))))) (tNot (tB (tCall (sp_like K 9) [] E0 (tCons (tVar 5) (tCons (tVar 4) tNil))))))) (tRet (tC (.bl false))) tNext)
  (t_law_1b_7 K))
def t_law_1b_5 (K : PySem.W.Frag) : TS :=
  (tSeq (tAsg (tCall (sp_pieces K) [] E0 (tCons (tVar 5) tNil)) (gName 9))
  (t_law_1b_6 K))
def t_law_1b_4 (K : PySem.W.Frag) : TS :=
  (tSeq (tDrop (tBM K "list" rAppend (tVar 6) (tCons (tTup (tCons (tIf (tTest (tOp rIsN (tVar 7) (tC .non))) (tC .non) (tOp (gAdd K) (tVar 7) (tC (.int 1)))) (tCons (tC .non) tNil))) tNil)))
  (t_law_1b_5 K))
def t_law_1b_3 (K : PySem.W.Frag) : TS :=
  (tSeq (tFor (iList K (tSrt K (tVar 4))) (gName 8) (t_law_1b_3b K))
  (t_law_1b_4 K))
def t_law_1b_2 (K : PySem.W.Frag) : TS :=
  (tSeq (tPar3 5 6 7 (tCons (tCB (gList K) (tCons (tVar 4) tNil)) (tCons (tLst (tCons (tC .non) tNil)) (tCons (tC .non) tNil))))
  (t_law_1b_3 K))
def t_law_1b_1 (K : PySem.W.Frag) : TS :=
  (tSeq (tAsg (tLc (iRng1 (tCons (tCall (sp_draw K) [] E0 (tCons (tVar 1) (tCons (tC (.int 8)) tNil))) tNil)) (gName 11) tYes (tOp (gAdd K) (tVar 3) (tCall (sp_draw K) [] E0 (tCons (tVar 1) (tCons (tC (.int 9)) tNil)))) [11]) (gName 4))
  (t_law_1b_2 K))
def t_law_1b (K : PySem.W.Frag) : TS :=
  (tSeq (tAsg (tCall (sp_of K) [] E0 (tCons (tVar 1) (tCons (tLst (tCons (tC (.int 0)) (tCons (tUn (rU fun i => .int (-i)) (tC (.int 4))) (tCons (tOp (rI CPow fun i j => .int (i ^ j.toNat)) (tC (.int 10)) (tC (.int 17))) (tCons (tOp (rI0 fun i j => .int (i - j)) (tC (.int 0)) (tOp (rI CPow fun i j => .int (i ^ j.toNat)) (tC (.int 10)) (tC (.int 17)))) tNil))))) tNil))) (gName 3))
  (t_law_1b_1 K))
def t_law_2 (K : PySem.W.Frag) : TS :=
  (tRet (tCall (sp_like K 9) [] E0 (tCons (tLst (tCons (tCall (sp_pieces K) [] E0 (tCons (tLst (tCons (tC (.int 3)) (tCons (tC (.int 5)) tNil))) tNil)) (tCons (tCall (sp_pieces K) [] E0 (tCons (tLst tNil) tNil)) tNil))) (tCons (tLst (tCons (tLst (tCons (tC .non) (tCons (tTup (tCons (tC .non) (tCons (tC (.int 2)) tNil))) (tCons (tTup (tCons (tC (.int 3)) (tCons (tC (.int 3)) tNil))) (tCons (tTup (tCons (tC (.int 4)) (tCons (tC (.int 4)) tNil))) (tCons (tTup (tCons (tC (.int 5)) (tCons (tC (.int 5)) tNil))) (tCons (tTup (tCons (tC (.int 6)) (tCons (tC .non) tNil))) tNil))))))) (tCons (tLst (tCons (tC .non) (tCons (tTup (tCons (tC .non) (tCons (tC .non) tNil))) tNil))) tNil))) tNil))))
def t_law_1 (K : PySem.W.Frag) : TS :=
  (tSeq (tFor (iRng1 (tCons (tC (.int 5)) tNil)) (gName 2) (t_law_1b K))
  (t_law_2 K))
def t_law (K : PySem.W.Frag) : TS :=
  (tSeq (tAsg (tCall (sp_open K) [] E0 (tCons (tVar 0) tNil)) (gName 1))
  (t_law_1 K))
section
variable {K : PySem.W.Frag} {G H : Hp} {M : List (Addr × HO)} {D : Ends} {b : Addr} {a0 a1 a2 a3 a4 a5 a6 a7 a8 a9 a10 a11 a12 : Option V} {nL mL dL tL : Addr} {ns ms : List Int} {us vs : List V} {low : Int}
/-- from the last append on -/
theorem read_8 (S : Stt G H ((tL, .lst us) :: M)) (hl : us.length < 1000) (hn : SqL K G nL (ns.map V.int)) (few : ns.length < 64) (up : ms.Pairwise (· < ·)) (mem : ∀ k, k ∈ ms ↔ k ∈ ns) (fewm : ms.length < 64) (hd : SqL K G dL vs) (hvs : StVs K G vs (pcs ms))
    (q : ∀ G' H', Ex G G' → Stt G' H' M → D.nx [a0, a1, a2, a3, some (.ref nL), a5, some (.ref dL), a7, a8, some (.ref tL), a10, a11, a12] H') :
    t_law_1b_8 K D [a0, a1, a2, a3, some (.ref nL), a5, some (.ref dL), a7, a8, some (.ref tL), a10, a11, a12] H := by
  unfold t_law_1b_8
  walk_at "gc"
  refine ⟨ty_list (sq_of (S.at 0 rfl)), ?_⟩
  walk_at "gc"
  refine rd_app (S.at 0 rfl) (by omega) ?_
  have S2 : Stt G (upd H tL (.lst (us ++ [.str "x"]))) ((tL, .lst (us ++ [.str "x"])) :: M) := S.wr 0 rfl
  have S3 := S2.drop
  generalize upd H tL (.lst (us ++ [.str "x"])) = H3 at *
  unfold t_law_1b_9
  walk_at "gc"
  refine rd_revL ?_
  walk_at "gc"
  refine ⟨nL, _, rfl, ex_l S3.ex hn, ?_⟩
  rw [← List.map_reverse]
  refine mk_im (o := .lst (ns.reverse.map V.int)) stt_world S3 fun r G1 e1 S4 hr => ?_
  walk_at "gc"
  refine ⟨r, ns.reverse, G1, M, rfl, S4, fun H' S' => .inl (ex_l S'.ex (sq_of hr)), by rw [List.length_reverse]; exact few, fun ms2 p us2 G2 H2 up2 mem2 few2 e2 S5 hus2 => ?_⟩
  cases up_one ms2 ms up2 up fun k => ((mem2 k).trans List.mem_reverse).trans (mem k).symm
  have e3 := S5.frzE
  have S6 := S5.frz
  have hp : SqL K (upd G2 p (.lst us2)) p us2 := sq_of upd_same
  generalize upd G2 p (.lst us2) = G3 at *
  walk_at "gc"
  have eG := e1.trans (e2.trans e3)
  have dr : Dp K G3 (.ref dL) (.list ((pcs ms).map sD)) := .lst (ex_l eG hd) (hvs.ex eG).dp
  have dl : Dp K G3 (.ref p) (.list ((pcs ms).map sD)) := .lst hp (hus2.ex e3).dp
  refine ⟨G3, M, .ref p, .ref dL, _, _, rfl, S6, dl, dr, fit_pcs 6 ms fewm, fun H8 S8 => ?_⟩
  rw [lk_same dl]
  walk_at "gc"
  exact q G3 H8 eG S8
/-- the values, one by one -/
theorem read_7 (S : Stt G H ((tL, .lst us) :: M)) (hus : StVs K G us (pcs ms)) (hlow : -1000000000000000000 ≤ low ∧ low ≤ 1000000000000000000) (hn : SqL K G nL (ns.map V.int)) (few : ns.length < 64) (up : ms.Pairwise (· < ·)) (mem : ∀ k, k ∈ ms ↔ k ∈ ns) (fewm : ms.length < 64) (hd : SqL K G dL vs) (hvs : StVs K G vs (pcs ms))
    (q : ∀ x10 x12 G' H', Ex G G' → Stt G' H' M → D.nx [a0, a1, a2, some (.int low), some (.ref nL), a5, some (.ref dL), a7, a8, some (.ref tL), x10, a11, x12] H') :
    t_law_1b_7 K D [a0, a1, a2, some (.int low), some (.ref nL), a5, some (.ref dL), a7, a8, some (.ref tL), a10, a11, a12] H := by
  have hlu := hus.len
  have hfew := pcs_few ms fewm
  have eT := S.frzE
  have ST := S.frz
  have hT : SqL K (upd G tL (.lst us)) tL us := sq_of upd_same
  have husT := hus.ex eT
  have back : ∀ G2 H2, Ex (upd G tL (.lst us)) G2 → Stt G2 H2 M → Stt G H2 ((tL, .lst us) :: M) := fun G2 H2 e S2 => S.thaw e S2
  generalize upd G tL (.lst us) = GT at *
  unfold t_law_1b_7
  refine rd_seq (rd_for (rd_il ?_))
  walk_at "gc"
  refine mk_lst stt_world ST (by show 1 ≤ _; decide) fun z G1 e1 S1 hz => ?_
  refine (fun (h : tRg2 (tOp (rI0 fun i j => .int (i - j)) (tVar 3) (tC (.int 2))) (tOp (gAdd K) (tVar 3) (tC (.int 11))) _ _ _) => h) ?_
  refine (fun (h : (tOp (rI0 fun i j => .int (i - j)) (tVar 3) (tC (.int 2))) _ _ fun x H1 => (tOp (gAdd K) (tVar 3) (tC (.int 11))) _ H1 fun y H2 => ∃ i j, x = .int i ∧ y = .int j ∧ _) => h) ?_
  walk_at "gc"
  refine ⟨low - 2, low + 11, rfl, rfl, ⟨by omega, by omega, by omega, by omega, by omega⟩, ?_⟩
  have hrg : rgV (low - 2) (low + 11) = ((List.range 13).map fun i => some (low - 2 + ((i : Nat) : Int))).map oV := by
    unfold rgV
    rw [show (low + 11 - (low - 2)).toNat = 13 by omega, List.map_map]
    rfl
  rw [hrg]
  generalize hos : ((List.range 13).map fun i => some (low - 2 + ((i : Nat) : Int))) = os at *
  have hosl : os.length = 13 := by rw [← hos, List.length_map, List.length_range]
  refine mk_im (o := .lst (os.map oV)) stt_world S1 fun r G2 e2 S2 hr => ?_
  refine rd_addL (S2.ex _ _ (e2 _ _ hz)) (S2.ex _ _ hr) (by rw [List.length_map, hosl]; show 1 + 13 ≤ sizeLine; decide) ?_
  rw [show [V.non] ++ os.map oV = (none :: os).map oV from rfl]
  refine mk_im (o := .lst ((none :: os).map oV)) stt_world S2 fun vL G3 e3 S3 hv => ?_
  have eG := e1.trans (e2.trans e3)
  have hvl : SqL K G3 vL ((none :: os).map oV) := sq_of hv
  clear hv hr hz
  generalize upd _ vL (.lst ((none :: os).map oV)) = H3 at *
  refine ⟨vL, rfl, ⟨_, ex_l S3.ex hvl⟩, ?_⟩
  refine for_go (walk_list (xs := (none :: os).map oV)) (G := G3)
    (fun i σ1 G4 H4 => ∃ x10 x12, σ1 = [a0, a1, a2, some (.int low), some (.ref nL), a5, some (.ref dL), a7, a8, some (.ref tL), x10, a11, x12] ∧ Ex G3 G4 ∧ Stt G4 H4 M)
    ⟨_, _, rfl, Ex.refl G3, S3⟩ (fun i σ1 G4 H4 _ ⟨_, _, _, e4, S4⟩ => ex_l (e4.trans S4.ex) hvl) ?_ ?_
  · rintro i x σ1 G4 H4 H5 hi ⟨x10, x12, rfl, e4, S4⟩ y N hN
    obtain ⟨rfl, hx⟩ := y
    rw [List.getElem?_map] at hx
    obtain ⟨o, ho, rfl⟩ := Option.map_eq_some_iff.mp hx
    have eT4 := eG.trans e4
    refine rd_name ?_
    unfold t_law_1b_7b
    walk_at "gc"
    refine rd_lc (rd_il ?_)
    walk_at "gc"
    refine ⟨tL, rfl, ⟨_, ex_l (eT4.trans S4.ex) hT⟩, ?_⟩
    refine lc_go stt_world (walk_list (xs := us)) S4 (by omega) (fun i v _ => us[i]? = some v) (fun i acc _ => acc.length = cnt o ((pcs ms).take i))
      (fun H' e' => ex_l (eT4.trans e') hT) (fun i x G1 H1 H2 L1 _ e1 S1 y => item_at S1 y) rfl (fun _ _ _ _ _ h => h) ?_ ?_
    · intro D1 j x acc G5 H5 hj _ e5 S5 I5 it Kp Sk kp sk
      obtain ⟨s, hs, hsv⟩ := husT.get it
      have hstep : cnt o ((pcs ms).take (j + 1)) = cnt o ((pcs ms).take j) + if inS s o = true then 1 else 0 := by
        rw [List.take_add_one, hs, show (some s).toList = [s] from rfl, cnt_app, cnt_one]
      refine rd_name ⟨rfl, ?_⟩
      walk_at "gc"
      refine ⟨x, s, o, rfl, hsv.ex (eT4.trans (e5.trans S5.ex)), ?_⟩
      walk_at "gc"
      cases hin : inS s o with
      | true =>
        rw [hin, if_pos rfl] at hstep
        walk_at "gc"
        exact kp _ G5 _ (Ex.refl _) S5 (by rw [List.length_append, List.length_singleton, I5, hstep])
      | false =>
        rw [hin, if_neg Bool.false_ne_true] at hstep
        walk_at "gc"
        exact sk G5 _ (Ex.refl _) S5 (by rw [I5, hstep]; rfl)
    · intro D1 acc G5 H5 e5 S5 I5 _
      rw [hlu, List.take_length, pcs_part ms up o] at I5
      walk_at "gc"
      refine rd_lenL (sq_of (S5.at 0 rfl)) ?_
      rw [I5]
      walk_at "gc"
      exact hN _ G5 H5 ⟨_, _, rfl, e4.trans e5, S5.drop⟩
  · rintro σ1 G4 H4 ⟨x10, x12, rfl, e4, S4⟩
    exact read_8 (back G4 H4 (eG.trans e4) S4) (by omega) hn few up mem fewm hd hvs fun G' H' e' S' => q _ _ G' H' e' S'
/-- from what pieces tells on -/
theorem read_5 (S : Stt G H M) (hlow : -1000000000000000000 ≤ low ∧ low ≤ 1000000000000000000) (hn : SqL K G nL (ns.map V.int)) (hm : SqL K G mL (ns.map V.int)) (few : ns.length < 64) (up : ms.Pairwise (· < ·)) (mem : ∀ k, k ∈ ms ↔ k ∈ ns) (fewm : ms.length < 64) (hd : SqL K G dL vs) (hvs : StVs K G vs (pcs ms))
    (q : ∀ x9 x10 x12 G' H', Ex G G' → Stt G' H' M → D.nx [a0, a1, a2, some (.int low), some (.ref nL), some (.ref mL), some (.ref dL), a7, a8, x9, x10, a11, x12] H') :
    t_law_1b_5 K D [a0, a1, a2, some (.int low), some (.ref nL), some (.ref mL), some (.ref dL), a7, a8, a9, a10, a11, a12] H := by
  unfold t_law_1b_5
  walk_at "gc"
  refine ⟨mL, ns, G, M, rfl, S, fun H' S' => .inl (ex_l S'.ex hm), few, fun ms2 p us2 G2 H2 up2 mem2 few2 e2 S2 hus2 => ?_⟩
  cases up_one ms2 ms up2 up fun k => (mem2 k).trans (mem k).symm
  walk_at "gc"
  unfold t_law_1b_6
  have eT := S2.frzE
  have ST := S2.frz
  have hT : SqL K (upd G2 p (.lst us2)) p us2 := sq_of upd_same
  have husT := hus2.ex eT
  have back : ∀ G3 H3, Ex (upd G2 p (.lst us2)) G3 → Stt G3 H3 M → Stt G2 H3 ((p, .lst us2) :: M) := fun G3 H3 e S3 => S2.thaw e S3
  generalize upd G2 p (.lst us2) = GT at *
  have e2T := e2.trans eT
  have dr : Dp K GT (.ref dL) (.list ((pcs ms).map sD)) := .lst (ex_l e2T hd) (hvs.ex e2T).dp
  have dl : Dp K GT (.ref p) (.list ((pcs ms).map sD)) := .lst hT husT.dp
  walk_at "gc"
  refine ⟨GT, M, .ref p, .ref dL, _, _, rfl, ST, dl, dr, fit_pcs 6 ms fewm, fun H3 S3 => ?_⟩
  rw [lk_same dl]
  walk_at "gc"
  refine ⟨nL, _, rfl, .inl ⟨ex_l (e2T.trans S3.ex) hn, ?_⟩⟩
  refine mk_im (o := .tup (ns.map V.int)) stt_world S3 fun t G4 e4 S4 ht => ?_
  walk_at "gc"
  refine ⟨t, ns, G4, M, rfl, S4, fun H' S' => .inr (ex_t S'.ex (st_of ht)), few, fun ms3 p3 us3 G5 H5 up3 mem3 few3 e5 S5 hus3 => ?_⟩
  cases up_one ms3 ms up3 up fun k => (mem3 k).trans (mem k).symm
  have e6 := S5.frzE
  have S6 := S5.frz
  have h6 : SqL K (upd G5 p3 (.lst us3)) p3 us3 := sq_of upd_same
  generalize upd G5 p3 (.lst us3) = G6 at *
  have eT6 := e4.trans (e5.trans e6)
  walk_at "gc"
  have dl2 : Dp K G6 (.ref p3) (.list ((pcs ms).map sD)) := .lst h6 (hus3.ex e6).dp
  refine ⟨G6, M, .ref p3, .ref dL, _, _, rfl, S6, dl2, Dp.ex eT6 _ _ dr, fit_pcs 6 ms fewm, fun H7 S7 => ?_⟩
  rw [lk_same dl2]
  walk_at "gc"
  have e26 := e2T.trans eT6
  have dl3 : Dp K G6 (.ref mL) (.list (ns.map PyData.int)) := .lst (ex_l e26 hm) (DpAll.ints ns)
  have dr3 : Dp K G6 (.ref nL) (.list (ns.map PyData.int)) := .lst (ex_l e26 hn) (DpAll.ints ns)
  refine ⟨G6, M, .ref mL, .ref nL, _, _, rfl, S7, dl3, dr3, fit_ints 7 ns (by omega), fun H8 S8 => ?_⟩
  rw [lk_same dl3]
  walk_at "gc"
  exact read_7 (back G6 H8 eT6 S8) hus2 hlow (ex_l e2 hn) few up mem fewm (ex_l e2 hd) (hvs.ex e2) fun x10 x12 G' H' e' S' => q _ _ _ G' H' (e2.trans e') S'
/-- the law's own pieces -/
theorem read_2 (S : Stt G H M) (hlow : -1000000000000000000 ≤ low ∧ low ≤ 1000000000000000000) (hn : SqL K G nL (ns.map V.int)) (few : ns.length < 64)
    (q : ∀ x5 x6 x7 x8 x9 x10 x12 G' H', Ex G G' → Stt G' H' M → D.nx [a0, a1, a2, some (.int low), some (.ref nL), x5, x6, x7, x8, x9, x10, a11, x12] H') :
    t_law_1b_2 K D [a0, a1, a2, some (.int low), some (.ref nL), a5, a6, a7, a8, a9, a10, a11, a12] H := by
  unfold t_law_1b_2
  refine rd_seq (rd_par3 ?_)
  walk_at "gc"
  refine ⟨nL, _, rfl, .inl (ex_l S.ex hn), ?_⟩
  refine mk_im (o := .lst (ns.map V.int)) stt_world S fun mL G1 e1 S1 hm => ?_
  walk_at "gc"
  refine mk_lstM stt_world S1 (by show 1 ≤ _; decide) fun dL S2 => ?_
  walk_at "gc"
  refine rd_three ?_
  unfold t_law_1b_3
  refine rd_seq (rd_for (rd_il (rd_srt ?_)))
  walk_at "gc"
  refine ⟨nL, ns, rfl, .inl (ex_l (e1.trans S2.ex) hn), few, fun ms o p r up mem hlen hp hr => ?_⟩
  have S3 := S2.new (o := o) hp
  have e3 := S2.newE (o := o) hp
  have S4 := S3.new (o := .lst (ms.map V.int)) hr
  have e4 := e1.trans (e3.trans (S3.newE (o := .lst (ms.map V.int)) hr))
  have e34 : Ex G1 (upd (upd G1 p o) r (.lst (ms.map V.int))) := e3.trans (S3.newE (o := .lst (ms.map V.int)) hr)
  have hr3 : SqL K (upd (upd G1 p o) r (.lst (ms.map V.int))) r (ms.map V.int) := sq_of upd_same
  generalize upd (upd G1 p o) r (.lst (ms.map V.int)) = G3 at *
  have fewm : ms.length < 64 := by omega
  refine ⟨r, rfl, ⟨_, ex_l S4.ex hr3⟩, ?_⟩
  refine for_go (walk_list (xs := ms.map V.int)) (G := G3)
    (fun i σ1 G1 H1 => ∃ us lo x8, σ1 = [a0, a1, a2, some (.int low), some (.ref nL), some (.ref mL), some (.ref dL), some (oV lo), x8, a9, a10, a11, a12] ∧ (run (ms.take i)).2 = lo.map (· + 1) ∧ Ex G3 G1 ∧ Stt G1 H1 ((dL, .lst us) :: M) ∧ StVs K G1 us (run (ms.take i)).1)
    ⟨[.non], none, _, rfl, rfl, Ex.refl G3, S4, rfl, True.intro⟩ (fun i σ1 G1 H1 _ ⟨_, _, _, _, _, e4, S4, _⟩ => ex_l (e4.trans S4.ex) hr3) ?_ ?_
  · rintro i x σ1 G5 H5 H6 hi ⟨us, lo, x8, rfl, hlo, e5, S5, hus⟩ y N hN
    obtain ⟨rfl, hx⟩ := y
    rw [List.getElem?_map] at hx
    obtain ⟨n, hn2, rfl⟩ := Option.map_eq_some_iff.mp hx
    have hrun := run_take hn2
    have hfew := run_few (ms := ms) i fewm
    have hlu := hus.len
    have key : ∀ (us2 : List V) (G6 H6 : Hp), Ex G5 G6 → Stt G6 H6 ((dL, .lst us2) :: M) → StVs K G6 us2 (if below (run (ms.take i)).2 n = true then (run (ms.take i)).1 ++ [some ((run (ms.take i)).2, some (n - 1))] else (run (ms.take i)).1) →
        t_law_1b_3b_1 K { D with nx := N, ct := N, bk := t_law_1b_4 K D } [a0, a1, a2, some (.int low), some (.ref nL), some (.ref mL), some (.ref dL), some (oV lo), some (.int n), a9, a10, a11, a12] H6 := by
      intro us2 G6 H6 e6 S6 hus2
      have hl2 := hus2.len
      have hl3 : us2.length < 300 := by
        rw [hl2]
        split
        · rw [len_snoc]; omega
        · omega
      unfold t_law_1b_3b_1
      walk_at "gc"
      refine ⟨ty_list (sq_of (S6.at 0 rfl)), ?_⟩
      walk_at "gc"
      refine mk_tup stt_world S6 (by show 2 ≤ _; decide) fun z G7 e7 S7 hz => ?_
      walk_at "gc"
      refine rd_app (S7.at 0 rfl) (by omega) ?_
      unfold t_law_1b_3b_2
      walk_at "gc"
      refine hN _ G7 _ ⟨us2 ++ [.ref z], some n, some (.int n), rfl, ?_, e5.trans (e6.trans e7), S7.wr 0 rfl, ?_⟩
      · rw [hrun]; rfl
      · rw [hrun]
        exact StVs.snoc (v := .ref z) (s := some (some n, some n)) ⟨z, rfl, st_of hz⟩ (hus2.ex e7)
    refine rd_name ?_
    unfold t_law_1b_3b
    rw [hlo] at key
    cases lo with
    | none =>
      walk_at "gc"
      refine ⟨ty_list (sq_of (S5.at 0 rfl)), ?_⟩
      walk_at "gc"
      refine mk_tup stt_world S5 (by show 2 ≤ _; decide) fun z G6 e6 S6 hz => ?_
      walk_at "gc"
      refine rd_app (S6.at 0 rfl) (by omega) ?_
      refine key _ G6 _ e6 (S6.wr 0 rfl) ?_
      rw [if_pos (show below (Option.map (· + 1) none) n = true from rfl)]
      exact StVs.snoc (v := .ref z) (s := some (none, some (n - 1))) ⟨z, rfl, st_of hz⟩ (hus.ex e6)
    | some l =>
      dsimp only [oV]
      walk_at "gc"
      refine rd_dec (fun e => ?_) (fun e => ?_)
      · walk_at "gc"
        refine ⟨ty_list (sq_of (S5.at 0 rfl)), ?_⟩
        walk_at "gc"
        refine mk_tup stt_world S5 (by show 2 ≤ _; decide) fun z G6 e6 S6 hz => ?_
        walk_at "gc"
        refine rd_app (S6.at 0 rfl) (by omega) ?_
        refine key _ G6 _ e6 (S6.wr 0 rfl) ?_
        rw [if_pos (show below (Option.map (· + 1) (some l)) n = true from decide_eq_true e)]
        exact StVs.snoc (v := .ref z) (s := some (some (l + 1), some (n - 1))) ⟨z, rfl, st_of hz⟩ (hus.ex e6)
      · walk_at "gc"
        refine key us G5 _ (Ex.refl _) S5 ?_
        rw [if_neg (show ¬ below (Option.map (· + 1) (some l)) n = true from fun z => e (of_decide_eq_true z))]
        exact hus
  · rintro σ1 G5 H5 ⟨us, lo, x8, rfl, hlo, e5, S5, hus⟩
    have hfew := run_few (ms := ms) ms.length fewm
    rw [List.length_map, List.take_length] at hus hlo
    rw [List.take_length] at hfew
    have hlu := hus.len
    have key : ∀ (z : Addr) (G6 H6 : Hp), Ex G5 G6 → Stt G6 H6 ((dL, .lst us) :: M) → G6 z = some (.tup [oV (lo.map (· + 1)), .non]) →
        t_law_1b_5 K D [a0, a1, a2, some (.int low), some (.ref nL), some (.ref mL), some (.ref dL), some (oV lo), x8, a9, a10, a11, a12] (upd H6 dL (.lst (us ++ [.ref z]))) := by
      intro z G6 H6 e6 S6 hz
      have S7 : Stt G6 (upd H6 dL (.lst (us ++ [.ref z]))) ((dL, .lst (us ++ [.ref z])) :: M) := S6.wr 0 rfl
      have e8 := S7.frzE
      have S8 := S7.frz
      have hd : SqL K (upd G6 dL (.lst (us ++ [.ref z]))) dL (us ++ [.ref z]) := sq_of upd_same
      have hvs : StVs K (upd G6 dL (.lst (us ++ [.ref z]))) (us ++ [.ref z]) (pcs ms) := by
        unfold pcs
        refine (StVs.snoc (v := .ref z) (s := some ((run ms).2, none)) ⟨z, rfl, ?_⟩ (hus.ex e6)).ex e8
        rw [hlo]
        exact st_of hz
      generalize upd G6 dL (.lst (us ++ [.ref z])) = G8 at *
      have eG := e4.trans (e5.trans (e6.trans e8))
      exact read_5 S8 hlow (ex_l eG hn) (ex_l (e34.trans (e5.trans (e6.trans e8))) (sq_of hm)) few up mem fewm hd hvs fun x9 x10 x12 G' H' e' S' => q _ _ _ _ _ _ _ G' H' (eG.trans e') S'
    unfold t_law_1b_4
    cases lo with
    | none =>
      walk_at "gc"
      refine ⟨ty_list (sq_of (S5.at 0 rfl)), ?_⟩
      walk_at "gc"
      refine mk_tup stt_world S5 (by show 2 ≤ _; decide) fun z G6 e6 S6 hz => ?_
      walk_at "gc"
      refine rd_app (S6.at 0 rfl) (by omega) ?_
      exact key z G6 _ e6 S6 hz
    | some l =>
      dsimp only [oV]
      walk_at "gc"
      refine ⟨ty_list (sq_of (S5.at 0 rfl)), ?_⟩
      walk_at "gc"
      refine mk_tup stt_world S5 (by show 2 ≤ _; decide) fun z G6 e6 S6 hz => ?_
      walk_at "gc"
      refine rd_app (S6.at 0 rfl) (by omega) ?_
      exact key z G6 _ e6 S6 hz
/-- a turn -/
theorem read_turn (B : Bag K G H b []) (q : ∀ x3 x4 x5 x6 x7 x8 x9 x10 x11 x12 G' H', Ex G G' → Bag K G' H' b [] → D.nx [a0, some (.ref b), a2, x3, x4, x5, x6, x7, x8, x9, x10, x11, x12] H') :
    t_law_1b K D [a0, some (.ref b), a2, a3, a4, a5, a6, a7, a8, a9, a10, a11, a12] H := by
  unfold t_law_1b
  walk_at "gc"
  refine rd_I ⟨by decide, by decide, by decide⟩ ?_
  walk_at "gc"
  refine rd_I ⟨by decide, by decide, by decide⟩ ?_
  walk_at "gc"
  refine mk_lst (bag_world K b) B (by show 4 ≤ _; decide) fun z G1 e1 B1 hz => ?_
  walk_at "gc"
  refine ⟨b, z, _, G1, _, rfl, B1, fun H' B' => .inl (ex_l B'.ex (sq_of hz)), by show 0 < 4; decide, by show 4 < _; decide, fun x H2 hx B2 => ?_⟩
  obtain ⟨low, rfl, l1, l2⟩ : ∃ low : Int, x = .int low ∧ -1000000000000000000 ≤ low ∧ low ≤ 1000000000000000000 := by
    rcases in_two hx with rfl | hx
    rotate_left
    rcases in_two hx with rfl | hx
    rotate_left
    rcases in_two hx with rfl | hx
    rotate_left
    cases List.mem_singleton.mp hx
    · exact ⟨_, rfl, by decide, by decide⟩
    · exact ⟨_, rfl, by decide, by decide⟩
    · exact ⟨_, rfl, by decide, by decide⟩
    · exact ⟨_, rfl, by decide, by decide⟩
  walk_at "gc"
  unfold t_law_1b_1
  refine rd_seq (rd_asg (rd_lc (rd_rng1 ?_)))
  walk_at "gc"
  refine ⟨b, 8, G1, _, rfl, by decide, by decide, B2, fun m H3 m0 m1 B3 => ?_⟩
  walk_at "gc"
  refine ⟨m, rfl, by omega, by omega, ?_⟩
  refine lc_draws (bag_world K b) (n := m.toNat) (lo := 0) B3 (by omega) (fun _ => rfl) (fun v => ∃ n : Int, v = .int n) (fun i acc D1 G3 H3 hi e3 B3 Kp kp => ?_) (fun D1 vs G3 H3 e3 B3 hl hvs => ?_)
  · walk_at "gc"
    refine ⟨b, 9, G3, _, rfl, by decide, by decide, B3, fun d H4 d0 d1 B4 => ?_⟩
    walk_at "gc"
    exact kp _ G3 H4 (Ex.refl _) B4 ⟨low + d, rfl⟩
  obtain ⟨ns, rfl⟩ := ints_map vs hvs
  rw [List.length_map] at hl
  obtain ⟨B4, e4⟩ := (bag_world K b).frz B3
  have hn : SqL K (upd G3 D1 (.lst (ns.map V.int))) D1 (ns.map V.int) := sq_of upd_same
  have eG := e1.trans (e3.trans e4)
  generalize upd G3 D1 (.lst (ns.map V.int)) = G4 at *
  walk_at "gc"
  obtain ⟨M, S, hM⟩ := B4.stt
  exact read_2 S ⟨l1, l2⟩ hn (by omega) fun x5 x6 x7 x8 x9 x10 x12 G' H' e' S' => q _ _ _ _ _ _ _ _ _ _ G' H' (eG.trans e') (hM G' H' e' S')
end



section
variable {K : PySem.W.Frag} {G H : Hp} {M : List (Addr × HO)} {D : Ends} {σ : L2.St}
theorem StV.two {p : Addr} {a b : Option Int} (h : G p = some (.tup [oV a, oV b])) {G' : Hp} (e : Ex G G') : StV K G' (.ref p) (some (a, b)) := ⟨p, rfl, ex_t e (st_of h)⟩
theorem pcs_35 : pcs [3, 5] = [none, some (none, some 2), some (some 3, some 3), some (some 4, some 4), some (some 5, some 5), some (some 6, none)] := rfl
theorem pcs_0 : pcs [] = [none, some (none, none)] := rfl
theorem read_last (S : Stt G H M) (q : ∀ H', D.rt (.bl true) H') : t_law_2 K D σ H := by
  unfold t_law_2
  walk_at "gc"
  refine mk_lst stt_world S (by show 2 ≤ _; decide) fun z1 G1 e1 S1 h1 => ?_
  walk_at "gc"
  refine ⟨z1, [3, 5], G1, M, rfl, S1, fun H' S' => .inl (ex_l S'.ex (sq_of h1)), by decide, fun ms p us G2 H2 up mem fewm e2 S2 hus => ?_⟩
  cases up_one ms [3, 5] up (by decide) mem
  have e3 := S2.frzE
  have S3 := S2.frz
  have h3 : SqL K (upd G2 p (.lst us)) p us := sq_of upd_same
  have hus3 := hus.ex e3
  generalize upd G2 p (.lst us) = G3 at *
  walk_at "gc"
  refine mk_lst stt_world S3 (by show 0 ≤ _; decide) fun z4 G4 e4 S4 h4 => ?_
  walk_at "gc"
  refine ⟨z4, [], G4, M, rfl, S4, fun H' S' => .inl (ex_l S'.ex (sq_of h4)), by decide, fun ms p5 us5 G5 H5 up mem fewm e5 S5 hus5 => ?_⟩
  cases up_one ms [] up .nil mem
  have e6 := S5.frzE
  have S6 := S5.frz
  have h6 : SqL K (upd G5 p5 (.lst us5)) p5 us5 := sq_of upd_same
  have hus6 := hus5.ex e6
  generalize upd G5 p5 (.lst us5) = G6 at *
  have e36 := e4.trans (e5.trans e6)
  walk_at "gc"
  refine mk_lst stt_world S6 (by show 2 ≤ _; decide) fun z7 G7 e7 S7 h7 => ?_
  walk_at "gc"
  refine mk_tup stt_world S7 (by show 2 ≤ _; decide) fun t1 G8 e8 S8 k1 => ?_
  walk_at "gc"
  refine mk_tup stt_world S8 (by show 2 ≤ _; decide) fun t2 G9 e9 S9 k2 => ?_
  walk_at "gc"
  refine mk_tup stt_world S9 (by show 2 ≤ _; decide) fun t3 G10 e10 S10 k3 => ?_
  walk_at "gc"
  refine mk_tup stt_world S10 (by show 2 ≤ _; decide) fun t4 G11 e11 S11 k4 => ?_
  walk_at "gc"
  refine mk_tup stt_world S11 (by show 2 ≤ _; decide) fun t5 G12 e12 S12 k5 => ?_
  walk_at "gc"
  refine mk_lst stt_world S12 (by show 6 ≤ _; decide) fun z13 G13 e13 S13 h13 => ?_
  walk_at "gc"
  refine mk_tup stt_world S13 (by show 2 ≤ _; decide) fun t6 G14 e14 S14 k6 => ?_
  walk_at "gc"
  refine mk_lst stt_world S14 (by show 2 ≤ _; decide) fun z15 G15 e15 S15 h15 => ?_
  walk_at "gc"
  refine mk_lst stt_world S15 (by show 2 ≤ _; decide) fun z16 G16 e16 S16 h16 => ?_
  walk_at "gc"
  have f15 := e16
  have f14 := e15.trans f15
  have f13 := e14.trans f14
  have f12 := e13.trans f13
  have f11 := e12.trans f12
  have f10 := e11.trans f11
  have f9 := e10.trans f10
  have f8 := e9.trans f9
  have f7 := e8.trans f8
  have f6 := e7.trans f7
  have w1 : StVs K G16 [.non, .ref t1, .ref t2, .ref t3, .ref t4, .ref t5] (pcs [3, 5]) := by
    rw [pcs_35]
    exact ⟨rfl, StV.two (a := none) (b := some 2) k1 f8, StV.two (a := some 3) (b := some 3) k2 f9, StV.two (a := some 4) (b := some 4) k3 f10, StV.two (a := some 5) (b := some 5) k4 f11, StV.two (a := some 6) (b := none) k5 f12, True.intro⟩
  have w2 : StVs K G16 [.non, .ref t6] (pcs []) := by
    rw [pcs_0]
    exact ⟨rfl, StV.two (a := none) (b := none) k6 f14, True.intro⟩
  have dl : Dp K G16 (.ref z7) (.list [.list ((pcs [3, 5]).map sD), .list ((pcs []).map sD)]) :=
    .lst (ex_l f7 (sq_of h7)) (.cons (.lst (ex_l (e36.trans f6) h3) (hus3.ex (e36.trans f6)).dp) (.cons (.lst (ex_l f6 h6) (hus6.ex f6).dp) .nil))
  have dr : Dp K G16 (.ref z16) (.list [.list ((pcs [3, 5]).map sD), .list ((pcs []).map sD)]) :=
    .lst (sq_of h16) (.cons (.lst (ex_l f13 (sq_of h13)) w1.dp) (.cons (.lst (ex_l f15 (sq_of h15)) w2.dp) .nil))
  refine ⟨G16, M, .ref z7, .ref z16, _, _, rfl, S16, dl, dr, ⟨by show 2 < _; decide, fun e he => ?_⟩, fun H17 S17 => ?_⟩
  · rcases in_two he with rfl | he
    · exact fit_pcs 5 [3, 5] (by decide)
    · rw [List.mem_singleton.mp he]
      exact fit_pcs 5 [] (by decide)
  · rw [lk_same dl]
    exact q H17
end
def sp_law (K : PySem.W.Frag) : Sp := fun vs H Q _ => ∃ (a : Addr) (ns : List Int), vs = [.ref a] ∧ SqL K H a (ns.map V.int) ∧ (∀ H', Q (.bl true) H')
theorem read_law {K : PySem.W.Frag} {a : Addr} {ns : List Int} {H : Hp} {D : Ends} {a1 a2 a3 a4 a5 a6 a7 a8 a9 a10 a11 a12 : Option V} (ha : SqL K H a (ns.map V.int)) (q : ∀ H', D.rt (.bl true) H') :
    t_law K D [some (.ref a), a1, a2, a3, a4, a5, a6, a7, a8, a9, a10, a11, a12] H := by
  unfold t_law
  walk_at "go"
  refine ⟨a, ns, H, [], rfl, Stt.nil H, ha, fun b G1 H1 e1 B1 => ?_⟩
  walk_at "go"
  unfold t_law_1
  refine rd_seq (rd_for (rd_rng1 ?_))
  walk_at "go"
  refine ⟨5, rfl, by decide, by decide, ?_⟩
  refine for_go (walk_range (lo := 0) (n := (5 : Int).toNat)) (G := G1)
    (fun i σ1 G2 H2 => ∃ x2 x3 x4 x5 x6 x7 x8 x9 x10 x11 x12, σ1 = [some (.ref a), some (.ref b), x2, x3, x4, x5, x6, x7, x8, x9, x10, x11, x12] ∧ Bag K G2 H2 b [])
    ⟨_, _, _, _, _, _, _, _, _, _, _, rfl, B1⟩ (fun _ _ _ _ _ _ => True.intro) ?_ ?_
  · rintro i x σ1 G2 H2 H3 hi ⟨x2, x3, x4, x5, x6, x7, x8, x9, x10, x11, x12, rfl, B2⟩ y N hN
    obtain ⟨rfl, rfl⟩ := y
    walk_at "go"
    exact read_turn B2 fun x3 x4 x5 x6 x7 x8 x9 x10 x11 x12 G' H' e' B' => hN _ G' H' ⟨_, _, _, _, _, _, _, _, _, _, _, rfl, B'⟩
  · rintro σ1 G2 H2 ⟨x2, x3, x4, x5, x6, x7, x8, x9, x10, x11, x12, rfl, B2⟩
    obtain ⟨M, S, _⟩ := B2.stt
    exact read_last S q
theorem sat_law {K : PySem.W.Frag} {vs : List V} {H : Hp} {Q : VK} {E : XK} (h : sp_law K vs H Q E) : vs.length = 1 ∧ t_law K { nx := fun _ H' => Q .non H', rt := Q } (vs.map some ++ List.replicate (13 - vs.length) none) H := by
  obtain ⟨a, ns, rfl, ha, q⟩ := h
  exact ⟨rfl, read_law ha q⟩

end EE
namespace K05
open PySem PySem.Spec PyProof.Rows L2 Evl RZ EE
def topS (i : Nat) : Stmt := PySem.Challenge.pw_eachentry_k05_whole_pieces_part_all_valu.main.body.getD i (.Pass ⟨0, 0, 0, 0⟩)
abbrev s_in_stretch : Stmt := topS 1
theorem sc_in_stretch : FnScope ["stretch", "value", "low", "high"] ["stretch", "value"] (defScope s_in_stretch) := ⟨rfl, rfl, rfl, by decide +kernel, rfl, by decide +kernel, by decide +kernel⟩
abbrev s_pieces : Stmt := topS 2
theorem sc_pieces : FnScope ["numbers", "found", "low", "number"] ["numbers"] (defScope s_pieces) := ⟨rfl, rfl, rfl, by decide +kernel, rfl, by decide +kernel, by decide +kernel⟩
abbrev s_open : Stmt := topS 4
theorem sc_open : FnScope ["_law_script"] ["_law_script"] (defScope s_open) := ⟨rfl, rfl, rfl, by decide +kernel, rfl, by decide +kernel, by decide +kernel⟩
abbrev s_draw : Stmt := topS 5
theorem sc_draw : FnScope ["_law_bag", "_law_many", "_law_cell", "_law_digit", "_law_seed"] ["_law_bag", "_law_many"] (defScope s_draw) := ⟨rfl, rfl, rfl, by decide +kernel, rfl, by decide +kernel, by decide +kernel⟩
abbrev s_of : Stmt := topS 6
theorem sc_of : FnScope ["_law_bag", "_law_things"] ["_law_bag", "_law_things"] (defScope s_of) := ⟨rfl, rfl, rfl, by decide +kernel, rfl, by decide +kernel, by decide +kernel⟩
abbrev s_like : Stmt := topS 7
theorem sc_like : FnScope ["_law_found", "_law_due", "_law_one", "_law_other"] ["_law_found", "_law_due"] (defScope s_like) := ⟨rfl, rfl, rfl, by decide +kernel, rfl, by decide +kernel, by decide +kernel⟩
abbrev s_law : Stmt := topS 8
theorem sc_law : FnScope ["_law_script", "_law_bag", "_law_turn", "_law_low", "_law_numbers_z", "_law_mine", "_law_due", "_law_last", "_law_number", "_law_told", "_law_value", "_law_k", "_law_piece"] ["_law_script"] (defScope s_law) := ⟨rfl, rfl, rfl, by decide +kernel, rfl, by decide +kernel, by decide +kernel⟩
section
variable {base : Heap} {P : Program} {w : World} {mg : Str → Option Value} {K : PySem.W.Frag}
theorem cal_in_stretch {f : Addr} {fd : FuncData} (F : Fun K "in_stretch" "in_stretch" s_in_stretch f fd) (g : mg "in_stretch" = some (.ref f)) (m_bool : mg "bool" = none) : C8.Cal P w K mg base 1 "in_stretch" (sp_in_stretch K) [] := by
  have G : FnOk P w K mg base CX0 1 f fd ["stretch", "value"] (sp_in_stretch K) := by
    refine F.ok sc_in_stretch (fun vs H Q E h => (sat_in_stretch h).1) (fun cdv A outer s H vs Q E hr h => ?_)
    have nd := sc_in_stretch.nd
    exact ⟨_, (pss_cons (ps_if (PW.pt (pw_or (pt_cmpR op_isN1 (pv 0) pe_non (nomark _)) (pw_or1 (pt_cmpR op_isN1 (pv 1) pe_non (nomark _))))) (pss_one (ps_ret (pe_and (pe_cmpR op_isN1 (pv 0) pe_non (nomark _)) (pe_one (pe_cmpR op_isN1 (pv 1) pe_non (nomark _)))))) pss_nil)
  (pss_cons (ps_asg (pv 0) (pg_tup rfl (pgs_cons (pg_name (i := 2) nd rfl (.inl rfl)) (pgs_cons (pg_name (i := 3) nd rfl (.inl rfl)) pgs_nil))))
  (pss_one (ps_ret (pe_and (pe_or (pe_cmpR op_isN1 (pv 2) pe_non (nomark _)) (pe_one (pe_callTy cg_bool (by rfl) m_bool (by decide +kernel) (pa_cons (pe_cmpR og_le (pv 2) (pv 1) (nomark _)) pa_nil)))) (pe_one (pe_or (pe_cmpR op_isN1 (pv 3) pe_non (nomark _)) (pe_one (pe_callTy cg_bool (by rfl) m_bool (by decide +kernel) (pa_cons (pe_cmpR og_le (pv 1) (pv 3) (nomark _)) pa_nil)))))))))), (sat_in_stretch h).2⟩
  exact cal_mk F G g fun _ _ _ _ _ _ us hl => match us, hl with | [_, _], _ => rfl
theorem cal_pieces {f : Addr} {fd : FuncData} (F : Fun K "pieces" "pieces" s_pieces f fd) (g : mg "pieces" = some (.ref f)) (m_sorted : mg "sorted" = none) (m_set : mg "set" = none) : C8.Cal P w K mg base 1 "pieces" (sp_pieces K) [] := by
  have G : FnOk P w K mg base CX0 1 f fd ["numbers"] (sp_pieces K) := by
    refine F.ok sc_pieces (fun vs H Q E h => (sat_pieces h).1) (fun cdv A outer s H vs Q E hr h => ?_)
    have nd := sc_pieces.nd
    exact ⟨_, (pss_cons (ps_par (i := 1) (j := 2) (by rfl) nd rfl rfl (by decide) rfl rfl (pa_cons (pe_lst (pa_cons pe_non pa_nil)) (pa_cons pe_non pa_nil)) (by rfl))
  (pss_cons (ps_for PassesOwn.never rfl (pi_list (pe_srt rfl (by rfl) m_sorted (by rfl) m_set (pv 0))) (pg_name (i := 3) nd rfl (.inl rfl)) (pss_cons (ps_if (PW.pt (pw_or (pt_cmpR op_isN1 (pv 2) pe_non (nomark _)) (pw_or1 (pt_cmpR (og_lt hr.units) (pv 2) (pv 3) (nomark _))))) (pss_one (ps_expr (pe_bm PySem.F.plainAttrs_list PySem.F.slot_list_append PySem.F.type_list_append mt_append (pv 1) (pa_cons (pe_tup (pa_cons (pv 2) (pa_cons (pe_op og_sub (pv 3) pe_int) pa_nil))) pa_nil)))) pss_nil)
  (pss_cons (ps_expr (pe_bm PySem.F.plainAttrs_list PySem.F.slot_list_append PySem.F.type_list_append mt_append (pv 1) (pa_cons (pe_tup (pa_cons (pv 3) (pa_cons (pv 3) pa_nil))) pa_nil)))
  (pss_one (ps_set (i := 2) nd rfl (.inl rfl) (pe_op og_add (pv 3) pe_int))))))
  (pss_one (ps_ret (pe_op og_add (pv 1) (pe_lst (pa_cons (pe_tup (pa_cons (pv 2) (pa_cons pe_non pa_nil))) pa_nil))))))), (sat_pieces h).2⟩
  exact cal_mk F G g fun _ _ _ _ _ _ us hl => match us, hl with | [_], _ => rfl
theorem calK_pieces_numbers {f : Addr} {fd : FuncData} (F : Fun K "pieces" "pieces" s_pieces f fd) (g : mg "pieces" = some (.ref f)) (m_sorted : mg "sorted" = none) (m_set : mg "set" = none) : CalK P w K mg base 1 "pieces" (sp_pieces K) ["numbers"] [0] := by
  have G : FnOk P w K mg base CX0 1 f fd ["numbers"] (sp_pieces K) := by
    refine F.ok sc_pieces (fun vs H Q E h => (sat_pieces h).1) (fun cdv A outer s H vs Q E hr h => ?_)
    have nd := sc_pieces.nd
    exact ⟨_, (pss_cons (ps_par (i := 1) (j := 2) (by rfl) nd rfl rfl (by decide) rfl rfl (pa_cons (pe_lst (pa_cons pe_non pa_nil)) (pa_cons pe_non pa_nil)) (by rfl))
  (pss_cons (ps_for PassesOwn.never rfl (pi_list (pe_srt rfl (by rfl) m_sorted (by rfl) m_set (pv 0))) (pg_name (i := 3) nd rfl (.inl rfl)) (pss_cons (ps_if (PW.pt (pw_or (pt_cmpR op_isN1 (pv 2) pe_non (nomark _)) (pw_or1 (pt_cmpR (og_lt hr.units) (pv 2) (pv 3) (nomark _))))) (pss_one (ps_expr (pe_bm PySem.F.plainAttrs_list PySem.F.slot_list_append PySem.F.type_list_append mt_append (pv 1) (pa_cons (pe_tup (pa_cons (pv 2) (pa_cons (pe_op og_sub (pv 3) pe_int) pa_nil))) pa_nil)))) pss_nil)
  (pss_cons (ps_expr (pe_bm PySem.F.plainAttrs_list PySem.F.slot_list_append PySem.F.type_list_append mt_append (pv 1) (pa_cons (pe_tup (pa_cons (pv 3) (pa_cons (pv 3) pa_nil))) pa_nil)))
  (pss_one (ps_set (i := 2) nd rfl (.inl rfl) (pe_op og_add (pv 3) pe_int))))))
  (pss_one (ps_ret (pe_op og_add (pv 1) (pe_lst (pa_cons (pe_tup (pa_cons (pv 2) (pa_cons pe_non pa_nil))) pa_nil))))))), (sat_pieces h).2⟩
  exact calK_mk F G g (by decide) fun _ _ _ _ _ _ ws hl => match ws, hl with | [_], _ => rfl
theorem cal_open {f : Addr} {fd : FuncData} (F : Fun K "_law_open" "_law_open" s_open f fd) (g : mg "_law_open" = some (.ref f)) (m_list : mg "list" = none) : C8.Cal P w K mg base 1 "_law_open" (sp_open K) [] := by
  have G : FnOk P w K mg base CX0 1 f fd ["_law_script"] (sp_open K) := by
    refine F.ok sc_open (fun vs H Q E h => (sat_open h).1) (fun cdv A outer s H vs Q E hr h => ?_)
    have nd := sc_open.nd
    exact ⟨_, (pss_one (ps_ret (pe_lst (pa_cons (pe_callTy cg_list (by rfl) m_list (by decide +kernel) (pa_cons (pe_slice og_sl (pv 0) po_none (po_some pe_int)) pa_nil)) (pa_cons pe_int (pa_cons pe_int (pa_cons pe_int (pa_cons pe_int pa_nil)))))))), (sat_open h).2⟩
  exact cal_mk F G g fun _ _ _ _ _ _ us hl => match us, hl with | [_], _ => rfl
theorem cal_draw {f : Addr} {fd : FuncData} (F : Fun K "_law_draw" "_law_draw" s_draw f fd) (g : mg "_law_draw" = some (.ref f)) (m_len : mg "len" = none) (m_int : mg "int" = none) : C8.Cal P w K mg base 1 "_law_draw" (sp_draw K) [] := by
  have G : FnOk P w K mg base CX0 1 f fd ["_law_bag", "_law_many"] (sp_draw K) := by
    refine F.ok sc_draw (fun vs H Q E h => (sat_draw h).1) (fun cdv A outer s H vs Q E hr h => ?_)
    have nd := sc_draw.nd
    exact ⟨_, (pss_cons (ps_if (PW.pt (pw_and (pt_cmpR (og_eq hr.units) (pe_ix ix_seq (pv 0) pe_int (fun _ _ => rfl)) pe_int (nomark _)) (pw_and1 (pt_cmpR (og_lt hr.units) (pe_ix ix_seq (pv 0) pe_int (fun _ _ => rfl)) (pe_callB cg_len (by rfl) m_len (by decide +kernel) (pa_cons (pe_ix ix_seq (pv 0) pe_int (fun _ _ => rfl)) pa_nil)) (nomark _))))) (pss_cons (ps_set (i := 2) nd rfl (.inl rfl) (pe_ix ix_seq (pe_ix ix_seq (pv 0) pe_int (fun _ _ => rfl)) (pe_ix ix_seq (pv 0) pe_int (fun _ _ => rfl)) (fun _ _ => rfl)))
  (pss_cons (ps_asg (pe_op og_add (pe_ix ix_seq (pv 0) pe_int (fun _ _ => rfl)) pe_int) (pg_sub (pv 0) pe_int set_list))
  (pss_cons (ps_asg (pe_ifExp (pt_cmpR og_ge (pv 2) (pe_op og_pow pe_int pe_int) (nomark _)) (pv 2) pe_int) (pg_sub (pv 0) pe_int set_list))
  (pss_one (ps_asg (pe_op og_mod (pe_callTy cg_int (by rfl) m_int (by decide +kernel) (pa_cons (pe_op og_add (pe_op og_add (pe_op og_mul (pe_ix ix_seq (pv 0) pe_int (fun _ _ => rfl)) pe_int) (pe_op og_mul (pe_op og_mod (pe_callTy cg_int (by rfl) m_int (by decide +kernel) (pa_cons (pv 2) pa_nil)) pe_int) pe_int)) pe_int) pa_nil)) pe_int) (pg_sub (pv 0) pe_int set_list)))))) pss_nil)
  (pss_cons (ps_if (pt_cmpR og_gt (pe_ix ix_seq (pv 0) pe_int (fun _ _ => rfl)) pe_int (nomark _)) (pss_cons (ps_set (i := 3) nd rfl (.inl rfl) (pe_op og_mod (pe_callTy cg_int (by rfl) m_int (by decide +kernel) (pa_cons (pe_ix ix_seq (pv 0) pe_int (fun _ _ => rfl)) pa_nil)) (pv 1)))
  (pss_cons (ps_asg (pe_op og_fdiv (pe_ix ix_seq (pv 0) pe_int (fun _ _ => rfl)) (pv 1)) (pg_sub (pv 0) pe_int set_list))
  (pss_one (ps_ret (pv 3))))) pss_nil)
  (pss_cons (ps_asg (pe_op og_add (pe_ix ix_seq (pv 0) pe_int (fun _ _ => rfl)) pe_int) (pg_sub (pv 0) pe_int set_list))
  (pss_cons (ps_set (i := 4) nd rfl (.inl rfl) (pe_ix ix_seq (pv 0) pe_int (fun _ _ => rfl)))
  (pss_cons (ps_asg (pe_op og_mod (pe_callTy cg_int (by rfl) m_int (by decide +kernel) (pa_cons (pe_op og_add (pe_op og_add (pe_op og_add (pe_op og_mul (pv 4) (pv 4)) (pe_op og_mul pe_int (pv 4))) (pe_op og_mul pe_int (pe_ix ix_seq (pv 0) pe_int (fun _ _ => rfl)))) pe_int) pa_nil)) pe_int) (pg_sub (pv 0) pe_int set_list))
  (pss_one (ps_ret (pe_op og_mod (pe_callTy cg_int (by rfl) m_int (by decide +kernel) (pa_cons (pe_op og_add (pe_op og_add (pe_op og_fdiv (pe_ix ix_seq (pv 0) pe_int (fun _ _ => rfl)) pe_int) (pe_op og_mul (pv 4) pe_int)) (pe_ix ix_seq (pv 0) pe_int (fun _ _ => rfl))) pa_nil)) (pv 1))))))))), (sat_draw h).2⟩
  exact cal_mk F G g fun _ _ _ _ _ _ us hl => match us, hl with | [_, _], _ => rfl
theorem cal_of {f : Addr} {fd : FuncData} (F : Fun K "_law_of" "_law_of" s_of f fd) (g : mg "_law_of" = some (.ref f)) (C__law_draw : C8.Cal P w K mg base 1 "_law_draw" (sp_draw K) []) (m_len : mg "len" = none) : C8.Cal P w K mg base 2 "_law_of" (sp_of K) [] := by
  have G : FnOk P w K mg base CX0 2 f fd ["_law_bag", "_law_things"] (sp_of K) := by
    refine F.ok sc_of (fun vs H Q E h => (sat_of h).1) (fun cdv A outer s H vs Q E hr h => ?_)
    have nd := sc_of.nd
    exact ⟨_, (pss_one (ps_ret (pe_ix ix_seq (pv 1) (C8.pe_c C__law_draw hr (by decide) (by rfl) (pa_cons (pv 0) (pa_cons (pe_callB cg_len (by rfl) m_len (by decide +kernel) (pa_cons (pv 1) pa_nil)) pa_nil))) (fun _ _ => rfl)))), (sat_of h).2⟩
  exact cal_mk F G g fun _ _ _ _ _ _ us hl => match us, hl with | [_, _], _ => rfl
theorem cal_like {f : Addr} {fd : FuncData} (F : Fun K "_law_like" "_law_like" s_like f fd) (g : mg "_law_like" = some (.ref f)) (m_isinstance : mg "isinstance" = none) (m_tuple : mg "tuple" = none) (m_list : mg "list" = none) (m_len : mg "len" = none) (m_all : mg "all" = none) (m_zip : mg "zip" = none) (m_bool : mg "bool" = none) (m_int : mg "int" = none) (m_str : mg "str" = none) : ∀ n, C8.Cal P w K mg base n "_law_like" (sp_like K n) []
  | 0 => ⟨f, fd, ["_law_found", "_law_due"], [], fnOk_never (never_like K), g, F.kp, F.binds fun _ _ _ _ _ _ us hl => match us, hl with | [_, _], _ => rfl, .nil⟩
  | n + 1 => by
    have C__law_like := cal_like F g m_isinstance m_tuple m_list m_len m_all m_zip m_bool m_int m_str n
    have G : FnOk P w K mg base CX0 (n + 1) f fd ["_law_found", "_law_due"] (sp_like K (n + 1)) := by
      refine F.ok sc_like (fun vs H Q E h => (sat_like h).1) (fun cdv A outer s H vs Q E hr h => ?_)
      have nd := sc_like.nd
      exact ⟨_, (pss_cons (ps_if (pt_val (pe_callB cg_isi (by rfl) m_isinstance (by decide +kernel) (pa_cons (pv 1) (pa_cons (pe_tup (pa_cons (pe_bltn (v := .ty "list") (u := .type "list") (by rfl) m_list (by decide +kernel) rfl) (pa_cons (pe_bltn (v := .ty "tuple") (u := .type "tuple") (by rfl) m_tuple (by decide +kernel) rfl) pa_nil))) pa_nil)))) (pss_cons (ps_if (PW.pt (pw_or (pt_cmpR (og_ne hr.units) (pe_callB cg_isi (by rfl) m_isinstance (by decide +kernel) (pa_cons (pv 0) (pa_cons (pe_bltn (v := .ty "list") (u := .type "list") (by rfl) m_list (by decide +kernel) rfl) pa_nil))) (pe_callB cg_isi (by rfl) m_isinstance (by decide +kernel) (pa_cons (pv 1) (pa_cons (pe_bltn (v := .ty "list") (u := .type "list") (by rfl) m_list (by decide +kernel) rfl) pa_nil))) (nomark _)) (pw_or1 (pt_cmpR (og_ne hr.units) (pe_callB cg_isi (by rfl) m_isinstance (by decide +kernel) (pa_cons (pv 0) (pa_cons (pe_bltn (v := .ty "tuple") (u := .type "tuple") (by rfl) m_tuple (by decide +kernel) rfl) pa_nil))) (pe_callB cg_isi (by rfl) m_isinstance (by decide +kernel) (pa_cons (pv 1) (pa_cons (pe_bltn (v := .ty "tuple") (u := .type "tuple") (by rfl) m_tuple (by decide +kernel) rfl) pa_nil))) (nomark _))))) (pss_one (ps_ret pe_bl)) pss_nil)
    (pss_one (ps_ret (pe_and (pe_cmpR (og_eq hr.units) (pe_callB cg_len (by rfl) m_len (by decide +kernel) (pa_cons (pv 0) pa_nil)) (pe_callB cg_len (by rfl) m_len (by decide +kernel) (pa_cons (pv 1) pa_nil)) (nomark _)) (pe_one (pe_callB (cr_all rfl) (by rfl) m_all (by decide +kernel) (pa_cons (pe_lc (own := [("_law_one", 2), ("_law_other", 3)]) (g := (gTup K 2 (gCons (gName 2) (gCons (gName 3) gNil)))) (tt := tYes) rfl nd (pi_zipA (by rfl) m_zip (pa_cons (pv 0) (pa_cons (pv 1) pa_nil))) (blkOk_by (N := ["_law_found", "_law_due", "_law_one", "_law_other"]) (sc := defScope s_like) (by decide +kernel)) (fun _ _ _ _ _ => (pg_tup rfl (pgs_cons (pg_name (i := 2) nd rfl (.inl rfl)) (pgs_cons (pg_name (i := 3) nd rfl (.inl rfl)) pgs_nil)))) (fun _ _ _ _ _ => pts_nil) (fun _ _ _ _ _ => (C8.pe_c C__law_like hr (by first | decide | exact Nat.le_refl _) (by rfl) (pa_cons (pv 2) (pa_cons (pv 3) pa_nil))))) pa_nil))))))) pss_nil)
    (pss_cons (ps_if (PW.pt (pw_or (pt_cmpR op_isN1 (pv 1) pe_non (nomark _)) (pw_or1 (pt_cmpR op_isN1 (pv 0) pe_non (nomark _))))) (pss_one (ps_ret (pe_and (pe_cmpR op_isN1 (pv 1) pe_non (nomark _)) (pe_one (pe_cmpR op_isN1 (pv 0) pe_non (nomark _)))))) pss_nil)
    (pss_cons (ps_if (PW.pt (pw_or (pt_cmpR (og_ne hr.units) (pe_callB cg_isi (by rfl) m_isinstance (by decide +kernel) (pa_cons (pv 0) (pa_cons (pe_bltn (v := .ty "bool") (u := .type "bool") (by rfl) m_bool (by decide +kernel) rfl) pa_nil))) (pe_callB cg_isi (by rfl) m_isinstance (by decide +kernel) (pa_cons (pv 1) (pa_cons (pe_bltn (v := .ty "bool") (u := .type "bool") (by rfl) m_bool (by decide +kernel) rfl) pa_nil))) (nomark _)) (pw_or1 (pt_cmpR (og_ne hr.units) (pe_callB cg_isi (by rfl) m_isinstance (by decide +kernel) (pa_cons (pv 0) (pa_cons (pe_bltn (v := .ty "int") (u := .type "int") (by rfl) m_int (by decide +kernel) rfl) pa_nil))) (pe_callB cg_isi (by rfl) m_isinstance (by decide +kernel) (pa_cons (pv 1) (pa_cons (pe_bltn (v := .ty "int") (u := .type "int") (by rfl) m_int (by decide +kernel) rfl) pa_nil))) (nomark _))))) (pss_one (ps_ret pe_bl)) pss_nil)
    (pss_one (ps_ret (pe_and (pe_cmpR (og_eq hr.units) (pe_callB cg_isi (by rfl) m_isinstance (by decide +kernel) (pa_cons (pv 0) (pa_cons (pe_bltn (v := .ty "str") (u := .type "str") (by rfl) m_str (by decide +kernel) rfl) pa_nil))) (pe_callB cg_isi (by rfl) m_isinstance (by decide +kernel) (pa_cons (pv 1) (pa_cons (pe_bltn (v := .ty "str") (u := .type "str") (by rfl) m_str (by decide +kernel) rfl) pa_nil))) (nomark _)) (pe_one (pe_cmpR (og_eq hr.units) (pv 0) (pv 1) (nomark _))))))))), (sat_like h).2⟩
    exact cal_mk F G g fun _ _ _ _ _ _ us hl => match us, hl with | [_, _], _ => rfl
theorem ok_law {f : Addr} {fd : FuncData} (F : Fun K "law" "law" s_law f fd) (C__law_open : C8.Cal P w K mg base 1 "_law_open" (sp_open K) []) (C__law_of : C8.Cal P w K mg base 2 "_law_of" (sp_of K) []) (C__law_draw : C8.Cal P w K mg base 1 "_law_draw" (sp_draw K) []) (C_pieces : C8.Cal P w K mg base 1 "pieces" (sp_pieces K) []) (C__law_like : C8.Cal P w K mg base 9 "_law_like" (sp_like K 9) []) (C_in_stretch : C8.Cal P w K mg base 1 "in_stretch" (sp_in_stretch K) []) (C_pieces_numbers : CalK P w K mg base 1 "pieces" (sp_pieces K) ["numbers"] [0]) (m_range : mg "range" = none) (m_list : mg "list" = none) (m_sorted : mg "sorted" = none) (m_set : mg "set" = none) (m_tuple : mg "tuple" = none) (m_len : mg "len" = none) : FnOk P w K mg base CX0 10 f fd ["_law_script"] (sp_law K) := by
  have G : FnOk P w K mg base CX0 10 f fd ["_law_script"] (sp_law K) := by
    refine F.ok sc_law (fun vs H Q E h => (sat_law h).1) (fun cdv A outer s H vs Q E hr h => ?_)
    have nd := sc_law.nd
    exact ⟨_, (pss_cons (ps_set (i := 1) nd rfl (.inr rfl) (C8.pe_c C__law_open hr (by decide) (by rfl) (pa_cons (pv 0) pa_nil)))
  (pss_cons (ps_for PassesOwn.never rfl (pi_range1 (by rfl) m_range (pa_cons pe_int pa_nil)) (pg_name (i := 2) nd rfl (.inl rfl)) (pss_cons (ps_set (i := 3) nd rfl (.inr rfl) (C8.pe_c C__law_of hr (by decide) (by rfl) (pa_cons (pv 1) (pa_cons (pe_lst (pa_cons pe_int (pa_cons (pe_un un_neg pe_int) (pa_cons (pe_op og_pow pe_int pe_int) (pa_cons (pe_op og_sub pe_int (pe_op og_pow pe_int pe_int)) pa_nil))))) pa_nil))))
  (pss_cons (ps_setLc (i := 4) (own := [("_law_k", 11)]) (g := (gName 11)) (tt := tYes) rfl nd rfl rfl (sw_true rfl rfl rfl (by decide +kernel)) (pi_range1 (by rfl) m_range (pa_cons (C8.pe_c C__law_draw hr (by decide) (by rfl) (pa_cons (pv 1) (pa_cons pe_int pa_nil))) pa_nil)) (blkOk_by (N := ["_law_script", "_law_bag", "_law_turn", "_law_low", "_law_numbers_z", "_law_mine", "_law_due", "_law_last", "_law_number", "_law_told", "_law_value", "_law_k", "_law_piece"]) (sc := defScope s_law) (by decide +kernel)) (fun _ _ _ _ _ => (pg_name (i := 11) nd rfl (.inl rfl))) (fun _ _ _ _ _ => pts_nil) (fun _ _ _ _ _ => (pe_op og_add (pv 3) (C8.pe_c C__law_draw hr (by decide) (by rfl) (pa_cons (pv 1) (pa_cons pe_int pa_nil))))))
  (pss_cons (ps_par3 (i := 5) (j := 6) (l := 7) rfl nd rfl rfl rfl (by decide) (by decide) (by decide) rfl rfl rfl (pa_cons (pe_callTy cg_list (by rfl) m_list (by decide +kernel) (pa_cons (pv 4) pa_nil)) (pa_cons (pe_lst (pa_cons pe_non pa_nil)) (pa_cons pe_non pa_nil))) (by rfl))
  (pss_cons (ps_for PassesOwn.never rfl (pi_list (pe_srt rfl (by rfl) m_sorted (by rfl) m_set (pv 4))) (pg_name (i := 8) nd rfl (.inl rfl)) (pss_cons (ps_if (PW.pt (pw_or (pt_cmpR op_isN1 (pv 7) pe_non (nomark _)) (pw_or1 (pt_cmpR (og_lt hr.units) (pe_op og_add (pv 7) pe_int) (pv 8) (nomark _))))) (pss_one (ps_expr (pe_bm PySem.F.plainAttrs_list PySem.F.slot_list_append PySem.F.type_list_append mt_append (pv 6) (pa_cons (pe_tup (pa_cons (pe_ifExp (pt_cmpR op_isN1 (pv 7) pe_non (nomark _)) pe_non (pe_op og_add (pv 7) pe_int)) (pa_cons (pe_op og_sub (pv 8) pe_int) pa_nil))) pa_nil)))) pss_nil)
  (pss_cons (ps_expr (pe_bm PySem.F.plainAttrs_list PySem.F.slot_list_append PySem.F.type_list_append mt_append (pv 6) (pa_cons (pe_tup (pa_cons (pv 8) (pa_cons (pv 8) pa_nil))) pa_nil)))
  (pss_one (ps_set (i := 7) nd rfl (.inl rfl) (pv 8))))))
  (pss_cons (ps_expr (pe_bm PySem.F.plainAttrs_list PySem.F.slot_list_append PySem.F.type_list_append mt_append (pv 6) (pa_cons (pe_tup (pa_cons (pe_ifExp (pt_cmpR op_isN1 (pv 7) pe_non (nomark _)) pe_non (pe_op og_add (pv 7) pe_int)) (pa_cons pe_non pa_nil))) pa_nil)))
  (pss_cons (ps_set (i := 9) nd rfl (.inl rfl) (C8.pe_c C_pieces hr (by decide) (by rfl) (pa_cons (pv 5) pa_nil)))
  (pss_cons (ps_if (PW.pt (pw_or (pt_not (pt_val (C8.pe_c C__law_like hr (by decide) (by rfl) (pa_cons (pv 9) (pa_cons (pv 6) pa_nil))))) (pw_or (pt_not (pt_val (C8.pe_c C__law_like hr (by decide) (by rfl) (pa_cons (pe_cK C_pieces_numbers hr (by decide) (by rfl) (pk_cons (pe_callTy cg_tuple (by rfl) m_tuple (by decide +kernel) (pa_cons (pv 4) pa_nil)) pk_nil)) (pa_cons (pv 6) pa_nil))))) (pw_or1 (pt_not (pt_val (C8.pe_c C__law_like hr (by decide) (by rfl) (pa_cons (pv 5) (pa_cons (pv 4) pa_nil))))))))) (pss_one (ps_ret pe_bl)) pss_nil)
  (pss_cons (ps_for PassesOwn.never rfl (pi_list (pe_op og_add (pe_lst (pa_cons pe_non pa_nil)) (pe_listRg rfl (by rfl) m_list (prg_2 (by rfl) m_range (pe_op og_sub (pv 3) pe_int) (pe_op og_add (pv 3) pe_int))))) (pg_name (i := 10) nd rfl (.inr rfl)) (pss_one (ps_if (pt_cmpR (og_ne hr.units) (pe_callB cg_len (by rfl) m_len (by decide +kernel) (pa_cons (pe_lc (own := [("_law_piece", 12)]) (g := (gName 12)) (tt := (tB (tCall (sp_in_stretch K) [] E0 (tCons (tVar 12) (tCons (tVar 10) tNil))))) rfl nd (pi_list (pv 9)) (blkOk_by (N := ["_law_script", "_law_bag", "_law_turn", "_law_low", "_law_numbers_z", "_law_mine", "_law_due", "_law_last", "_law_number", "_law_told", "_law_value", "_law_k", "_law_piece"]) (sc := defScope s_law) (by decide +kernel)) (fun _ _ _ _ _ => (pg_name (i := 12) nd rfl (.inl rfl))) (fun _ _ _ _ _ => (pts_one (pt_val (C8.pe_c C_in_stretch hr (by decide) (by rfl) (pa_cons (pv 12) (pa_cons (pv 10) pa_nil)))))) (fun _ _ _ _ _ => (pv 12))) pa_nil)) pe_int (nomark _)) (pss_one (ps_ret pe_bl)) pss_nil)))
  (pss_cons (ps_expr (pe_bm PySem.F.plainAttrs_list PySem.F.slot_list_append PySem.F.type_list_append mt_append (pv 9) (pa_cons pe_str pa_nil)))
  (pss_one (ps_if (pt_not (pt_val (C8.pe_c C__law_like hr (by decide) (by rfl) (pa_cons (C8.pe_c C_pieces hr (by decide) (by rfl) (pa_cons (pe_revL (pv 4)) pa_nil)) (pa_cons (pv 6) pa_nil))))) (pss_one (ps_ret pe_bl)) pss_nil))))))))))))
  (pss_one (ps_ret (C8.pe_c C__law_like hr (by decide) (by rfl) (pa_cons (pe_lst (pa_cons (C8.pe_c C_pieces hr (by decide) (by rfl) (pa_cons (pe_lst (pa_cons pe_int (pa_cons pe_int pa_nil))) pa_nil)) (pa_cons (C8.pe_c C_pieces hr (by decide) (by rfl) (pa_cons (pe_lst pa_nil) pa_nil)) pa_nil))) (pa_cons (pe_lst (pa_cons (pe_lst (pa_cons pe_non (pa_cons (pe_tup (pa_cons pe_non (pa_cons pe_int pa_nil))) (pa_cons (pe_tup (pa_cons pe_int (pa_cons pe_int pa_nil))) (pa_cons (pe_tup (pa_cons pe_int (pa_cons pe_int pa_nil))) (pa_cons (pe_tup (pa_cons pe_int (pa_cons pe_int pa_nil))) (pa_cons (pe_tup (pa_cons pe_int (pa_cons pe_non pa_nil))) pa_nil))))))) (pa_cons (pe_lst (pa_cons pe_non (pa_cons (pe_tup (pa_cons pe_non (pa_cons pe_non pa_nil))) pa_nil))) pa_nil))) pa_nil))))))), (sat_law h).2⟩
  exact G
end
/-! ### the end -/
theorem all_mk {l : PySem.W.OpenLaw} {w : World} {K : PySem.W.Frag} {h : Heap} {mg : Str → Option Value} {fa : Addr} (X : K.In h) (G : h.Ns mainGlobals mg) (hfa : mg "law" = some (.ref fa))
    {f0 : Addr} {od0 an0 : Option Addr} {sl0 : Array (Option Value)} {oc0 kV0 dc0 pm0 cd0 ct0 : Value}
    {f1 : Addr} {od1 an1 : Option Addr} {sl1 : Array (Option Value)} {oc1 kV1 dc1 pm1 cd1 ct1 : Value}
    {f2 : Addr} {od2 an2 : Option Addr} {sl2 : Array (Option Value)} {oc2 kV2 dc2 pm2 cd2 ct2 : Value}
    {f3 : Addr} {od3 an3 : Option Addr} {sl3 : Array (Option Value)} {oc3 kV3 dc3 pm3 cd3 ct3 : Value}
    {f4 : Addr} {od4 an4 : Option Addr} {sl4 : Array (Option Value)} {oc4 kV4 dc4 pm4 cd4 ct4 : Value}
    {f5 : Addr} {od5 an5 : Option Addr} {sl5 : Array (Option Value)} {oc5 kV5 dc5 pm5 cd5 ct5 : Value}
    {f6 : Addr} {od6 an6 : Option Addr} {sl6 : Array (Option Value)} {oc6 kV6 dc6 pm6 cd6 ct6 : Value}
    (a0 : PySem.W.nsIn K mainGlobals "in_stretch" = some (some (.ref f0))) (l0 : K.lookup f0 = some ⟨oc0, od0, .func (PySem.W.fnOf "in_stretch" "in_stretch" (defArgs s_in_stretch) (defBody s_in_stretch) (defScope s_in_stretch) .none kV0 dc0 pm0 an0 cd0 ct0), sl0⟩) (c0 : PySem.W.codeIn K cd0 "in_stretch" = true) (k0 : PySem.W.keepIn K (.ref f0) = true)
    (a1 : PySem.W.nsIn K mainGlobals "pieces" = some (some (.ref f1))) (l1 : K.lookup f1 = some ⟨oc1, od1, .func (PySem.W.fnOf "pieces" "pieces" (defArgs s_pieces) (defBody s_pieces) (defScope s_pieces) .none kV1 dc1 pm1 an1 cd1 ct1), sl1⟩) (c1 : PySem.W.codeIn K cd1 "pieces" = true) (k1 : PySem.W.keepIn K (.ref f1) = true)
    (a2 : PySem.W.nsIn K mainGlobals "_law_open" = some (some (.ref f2))) (l2 : K.lookup f2 = some ⟨oc2, od2, .func (PySem.W.fnOf "_law_open" "_law_open" (defArgs s_open) (defBody s_open) (defScope s_open) .none kV2 dc2 pm2 an2 cd2 ct2), sl2⟩) (c2 : PySem.W.codeIn K cd2 "_law_open" = true) (k2 : PySem.W.keepIn K (.ref f2) = true)
    (a3 : PySem.W.nsIn K mainGlobals "_law_draw" = some (some (.ref f3))) (l3 : K.lookup f3 = some ⟨oc3, od3, .func (PySem.W.fnOf "_law_draw" "_law_draw" (defArgs s_draw) (defBody s_draw) (defScope s_draw) .none kV3 dc3 pm3 an3 cd3 ct3), sl3⟩) (c3 : PySem.W.codeIn K cd3 "_law_draw" = true) (k3 : PySem.W.keepIn K (.ref f3) = true)
    (a4 : PySem.W.nsIn K mainGlobals "_law_of" = some (some (.ref f4))) (l4 : K.lookup f4 = some ⟨oc4, od4, .func (PySem.W.fnOf "_law_of" "_law_of" (defArgs s_of) (defBody s_of) (defScope s_of) .none kV4 dc4 pm4 an4 cd4 ct4), sl4⟩) (c4 : PySem.W.codeIn K cd4 "_law_of" = true) (k4 : PySem.W.keepIn K (.ref f4) = true)
    (a5 : PySem.W.nsIn K mainGlobals "_law_like" = some (some (.ref f5))) (l5 : K.lookup f5 = some ⟨oc5, od5, .func (PySem.W.fnOf "_law_like" "_law_like" (defArgs s_like) (defBody s_like) (defScope s_like) .none kV5 dc5 pm5 an5 cd5 ct5), sl5⟩) (c5 : PySem.W.codeIn K cd5 "_law_like" = true) (k5 : PySem.W.keepIn K (.ref f5) = true)
    (a6 : PySem.W.nsIn K mainGlobals "law" = some (some (.ref f6))) (l6 : K.lookup f6 = some ⟨oc6, od6, .func (PySem.W.fnOf "law" "law" (defArgs s_law) (defBody s_law) (defScope s_law) .none kV6 dc6 pm6 an6 cd6 ct6), sl6⟩) (c6 : PySem.W.codeIn K cd6 "law" = true) (k6 : PySem.W.keepIn K (.ref f6) = true)
    (z_all : PySem.W.nsIn K mainGlobals "all" = some none)
    (z_bool : PySem.W.nsIn K mainGlobals "bool" = some none)
    (z_int : PySem.W.nsIn K mainGlobals "int" = some none)
    (z_isinstance : PySem.W.nsIn K mainGlobals "isinstance" = some none)
    (z_len : PySem.W.nsIn K mainGlobals "len" = some none)
    (z_list : PySem.W.nsIn K mainGlobals "list" = some none)
    (z_range : PySem.W.nsIn K mainGlobals "range" = some none)
    (z_set : PySem.W.nsIn K mainGlobals "set" = some none)
    (z_sorted : PySem.W.nsIn K mainGlobals "sorted" = some none)
    (z_str : PySem.W.nsIn K mainGlobals "str" = some none)
    (z_tuple : PySem.W.nsIn K mainGlobals "tuple" = some none)
    (z_zip : PySem.W.nsIn K mainGlobals "zip" = some none) :
    ∃ fd : FuncData, (∀ (s : Shared) (v : Value), BindsTo s fd ⟨[v], []⟩ [("_law_script", v)]) ∧ ∀ base : Heap, K.In base → base.Ns mainGlobals mg → FnOk l.prog w K mg base CX0 10 fa fd ["_law_script"] (sp_law K) := by
  have F0 := fun_mk (st := s_in_stretch) l0 c0 k0
  have g0 := PySem.W.mg_of X G a0
  have F1 := fun_mk (st := s_pieces) l1 c1 k1
  have g1 := PySem.W.mg_of X G a1
  have F2 := fun_mk (st := s_open) l2 c2 k2
  have g2 := PySem.W.mg_of X G a2
  have F3 := fun_mk (st := s_draw) l3 c3 k3
  have g3 := PySem.W.mg_of X G a3
  have F4 := fun_mk (st := s_of) l4 c4 k4
  have g4 := PySem.W.mg_of X G a4
  have F5 := fun_mk (st := s_like) l5 c5 k5
  have g5 := PySem.W.mg_of X G a5
  have F6 := fun_mk (st := s_law) l6 c6 k6
  have g6 := PySem.W.mg_of X G a6
  have m_all := PySem.W.mg_none_of X G z_all
  have m_bool := PySem.W.mg_none_of X G z_bool
  have m_int := PySem.W.mg_none_of X G z_int
  have m_isinstance := PySem.W.mg_none_of X G z_isinstance
  have m_len := PySem.W.mg_none_of X G z_len
  have m_list := PySem.W.mg_none_of X G z_list
  have m_range := PySem.W.mg_none_of X G z_range
  have m_set := PySem.W.mg_none_of X G z_set
  have m_sorted := PySem.W.mg_none_of X G z_sorted
  have m_str := PySem.W.mg_none_of X G z_str
  have m_tuple := PySem.W.mg_none_of X G z_tuple
  have m_zip := PySem.W.mg_none_of X G z_zip
  have e := hfa.symm.trans g6
  cases e
  refine ⟨PySem.W.fnOf "law" "law" (defArgs s_law) (defBody s_law) (defScope s_law) .none kV6 dc6 pm6 an6 cd6 ct6, fun s v => .of_eq rfl, fun base _ _ => ?_⟩
  have C_in_stretch := cal_in_stretch (P := l.prog) (w := w) (base := base) F0 g0 m_bool
  have C_pieces := cal_pieces (P := l.prog) (w := w) (base := base) F1 g1 m_sorted m_set
  have C_pieces_numbers := calK_pieces_numbers (P := l.prog) (w := w) (base := base) F1 g1 m_sorted m_set
  have C__law_open := cal_open (P := l.prog) (w := w) (base := base) F2 g2 m_list
  have C__law_draw := cal_draw (P := l.prog) (w := w) (base := base) F3 g3 m_len m_int
  have C__law_of := cal_of (P := l.prog) (w := w) (base := base) F4 g4 C__law_draw m_len
  have C__law_like := cal_like (P := l.prog) (w := w) (base := base) F5 g5 m_isinstance m_tuple m_list m_len m_all m_zip m_bool m_int m_str 9
  exact ok_law F6 C__law_open C__law_of C__law_draw C_pieces C__law_like C_in_stretch C_pieces_numbers m_range m_list m_sorted m_set m_tuple m_len
end K05
open PySem PySem.W PyProof.Rows
set_option maxRecDepth 100000 in
set_option maxHeartbeats 0 in
theorem PySem.Challenge.cw_eachentry_k05_whole_pieces_part_all_valu_holds : PySem.Challenge.rw_eachentry_k05_whole_pieces_part_all_valu.Holds := by
  w_on; o_law; k_head; (case hw => w_witness2)
  k_fill
  refine L2.walk_of (l := PySem.Challenge.rw_eachentry_k05_whole_pieces_part_all_valu) (n := 63) (k := 10) (x := "_law_script") (CX := fun _ => L2.CX0) (sp := fun w => EE.sp_law _) rfl (by decide) rfl ⟨rfl, by decide, by decide⟩ (fun w h Y => PySem.W.kIn_of Y) ?F (fun _ _ a ns hl _ hS => ⟨a, ns, rfl, hS, fun _ => rfl⟩) (fun _ _ _ _ _ h => h)
  case F =>
    intro w mg fa h KX G hmg
    refine' K05.all_mk KX G hmg ?a0 ?l0 ?c0 ?k0 ?a1 ?l1 ?c1 ?k1 ?a2 ?l2 ?c2 ?k2 ?a3 ?l3 ?c3 ?k3 ?a4 ?l4 ?c4 ?k4 ?a5 ?l5 ?c5 ?k5 ?a6 ?l6 ?c6 ?k6 ?z_all ?z_bool ?z_int ?z_isinstance ?z_len ?z_list ?z_range ?z_set ?z_sorted ?z_str ?z_tuple ?z_zip
    (case a0 => k_is); (case l0 => k_is); (case c0 => k_is); (case k0 => k_is); (case a1 => k_is); (case l1 => k_is); (case c1 => k_is); (case k1 => k_is); (case a2 => k_is); (case l2 => k_is); (case c2 => k_is); (case k2 => k_is); (case a3 => k_is); (case l3 => k_is); (case c3 => k_is); (case k3 => k_is); (case a4 => k_is); (case l4 => k_is); (case c4 => k_is); (case k4 => k_is); (case a5 => k_is); (case l5 => k_is); (case c5 => k_is); (case k5 => k_is); (case a6 => k_is); (case l6 => k_is); (case c6 => k_is); (case k6 => k_is); (case z_all => k_is); (case z_bool => k_is); (case z_int => k_is); (case z_isinstance => k_is); (case z_len => k_is); (case z_list => k_is); (case z_range => k_is); (case z_set => k_is); (case z_sorted => k_is); (case z_str => k_is); (case z_tuple => k_is); (case z_zip => k_is)
