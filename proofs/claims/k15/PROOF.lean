import PyProof.Rows.All
import Wide.All
import OpenK.AllK
import Wide.FinOn
import HandS.ForMost
import HandS.Wide
import HandS.IsInst
import HandS.Evl
import HandS.Walk
import HandS.Strs
import HandS.Conv
import HandS.ClsMeth
import HandS.DictComp
import KE.KSuper
import KE.KExcSuper
import KE.KExcIs
import KE.RegKSuper
import KE.RegKIsAll
import KE.RegKTryMore
import HandS.ForExc
import HandS.ExcInit
import HandS.ExcIs
import HandS.ExcField
import HandS.Star
import HandS.Property
import HandS.HotCalls
import HandS.Codes
import HandS.Defaults
import HandS.MakeKw
import HandS.More
import HandS.FStr
import HandS.Finally
import HandS.Style
import PyProof.P3Eq
import HandS.OwnIter
import HandS.IterNext
import HandS.IterVal
import HandS.Iter
import HandS.Star
import HandS.WordsExc
import HandS.SetFor
import HandS.Strs
import KE.KDictList
import PyProof.LongRange
import PySem.Challenge.RW_codestitch_k15_whole_a_program_by_its_ro
set_option Elab.async false
set_option linter.all false
set_option maxRecDepth 100000
set_option maxHeartbeats 4000000
open PySem PySem.Spec PyProof.Rows L2
/-! Vc: edges between abstract heaps, and readings answered step by step (my own layer over HandS). -/
namespace Vc
open PySem PySem.Spec PyProof.Rows L2

/-! ### edges: H' comes from H; at most the objects of S were changed -/
structure Ed (S : List Addr) (H H' : Hp) : Prop where
  keep : ∀ a o, a ∉ S → H a = some o → H' a = some o
  tup : ∀ a xs, H a = some (.tup xs) → H' a = some (.tup xs)
  frz : ∀ a o u, H a = some (.frz o u) → H' a = some (.frz o u)
  dom : ∀ a, H' a = none → H a = none
theorem Ed.refl {S : List Addr} {H : Hp} : Ed S H H := ⟨fun _ _ _ h => h, fun _ _ h => h, fun _ _ _ h => h, fun _ h => h⟩
theorem Ed.new {S : List Addr} {H : Hp} {p : Addr} {o : HO} (h : H p = none) : Ed S H (upd H p o) where
  keep := fun a u _ e => by rw [upd_ne (ne_of_none e h)]; exact e
  tup := fun a u e => by rw [upd_ne (ne_of_none e h)]; exact e
  frz := fun a _ u e => by rw [upd_ne (ne_of_none e h)]; exact e
  dom := fun a e => by
    by_cases q : a = p
    · rw [q]; exact h
    · rw [upd_ne q] at e; exact e
theorem Ed.mut {H : Hp} {p : Addr} {o u : HO} (h : H p = some u) (m : Mut (some u)) : Ed [p] H (upd H p o) where
  keep := fun a v ha e => by
    have : a ≠ p := fun q => ha (by rw [q]; exact List.mem_singleton.mpr rfl)
    rw [upd_ne this]; exact e
  tup := fun a xs e => by
    have : a ≠ p := fun q => by rw [q, h] at e; cases e; exact m
    rw [upd_ne this]; exact e
  frz := fun a _ xs e => by
    have : a ≠ p := fun q => by rw [q, h] at e; cases e; exact m
    rw [upd_ne this]; exact e
  dom := fun a e => by
    by_cases q : a = p
    · subst q; rw [upd_same] at e; cases e
    · rw [upd_ne q] at e; exact e
theorem Ed.trans {S T : List Addr} {H H1 H2 : Hp} (a : Ed S H H1) (b : Ed T H1 H2) (hs : ∀ x ∈ T, x ∈ S ∨ H x = none) : Ed S H H2 where
  keep := fun x o hx e => by
    have e1 := a.keep x o hx e
    refine b.keep x o (fun z => ?_) e1
    rcases hs x z with q | q
    · exact hx q
    · rw [e] at q; cases q
  tup := fun x o e => b.tup x o (a.tup x o e)
  frz := fun x o u e => b.frz x o u (a.frz x o u e)
  dom := fun x e => a.dom x (b.dom x e)
theorem Ed.mono {S T : List Addr} {H H1 : Hp} (a : Ed S H H1) (hs : ∀ x ∈ S, x ∈ T) : Ed T H H1 :=
  ⟨fun x o hx e => a.keep x o (fun z => hx (hs x z)) e, a.tup, a.frz, a.dom⟩
theorem Ed.ex {S : List Addr} {H H1 H2 : Hp} (a : Ed S H H1) (b : Ed [] H1 H2) : Ed S H H2 := a.trans b fun _ z => nomatch z
theorem Ed.one {S : List Addr} {H H1 H2 : Hp} {p : Addr} (a : Ed S H H1) (b : Ed [p] H1 H2) (h : p ∈ S ∨ H p = none) : Ed S H H2 :=
  a.trans b fun x z => by rw [List.mem_singleton.mp z]; exact h
theorem Ed.same {H H' : Hp} (e : Ed [] H H') : Same H H' := fun a o h => e.keep a o (fun z => nomatch z) h
theorem Ed.at0 {H H' : Hp} {a : Addr} {o : HO} (e : Ed [] H H') (h : H a = some o) : H' a = some o := e.keep a o (fun z => nomatch z) h
theorem Ed.at1 {H H' : Hp} {a p : Addr} {o : HO} (e : Ed [p] H H') (n : a ≠ p) (h : H a = some o) : H' a = some o := e.keep a o (fun z => n (List.mem_singleton.mp z)) h
theorem Ed.at2 {H H' : Hp} {a p q : Addr} {o : HO} (e : Ed [p, q] H H') (n : a ≠ p) (m : a ≠ q) (h : H a = some o) : H' a = some o := e.keep a o (fun z => by
  rcases List.mem_cons.mp z with z | z
  · exact n z
  · exact m (List.mem_singleton.mp z)) h
theorem Ed.rdt {S : List Addr} {H H' : Hp} {a : Addr} {xs : List V} (e : Ed S H H') (h : Rd H a (.tup xs)) : Rd H' a (.tup xs) := by
  rcases h with h | ⟨o, h⟩
  · exact .inl (e.tup _ _ h)
  · exact .inr ⟨o, e.frz _ _ _ h⟩
theorem Ed.sqt {K : PySem.W.Frag} {S : List Addr} {H H' : Hp} {a : Addr} {xs : List V} (e : Ed S H H') (h : SqT K H a xs) : SqT K H' a xs := by
  rcases h with h | h
  · exact .inl (e.rdt h)
  · exact .inr h
theorem Ed.sql {K : PySem.W.Frag} {S : List Addr} {H H' : Hp} {a : Addr} {xs : List V} (e : Ed S H H') (n : a ∉ S) (h : SqL K H a xs) : SqL K H' a xs := by
  rcases h with (h | ⟨o, h⟩) | h
  · exact .inl (.inl (e.keep _ _ n h))
  · exact .inl (.inr ⟨o, e.frz _ _ _ h⟩)
  · exact .inr h
theorem Ed.sql0 {K : PySem.W.Frag} {H H' : Hp} {a : Addr} {xs : List V} (e : Ed [] H H') (h : SqL K H a xs) : SqL K H' a xs := e.sql (fun z => nomatch z) h
theorem Ed.sql1 {K : PySem.W.Frag} {H H' : Hp} {a p : Addr} {xs : List V} (e : Ed [p] H H') (n : a ≠ p) (h : SqL K H a xs) : SqL K H' a xs := e.sql (fun z => n (List.mem_singleton.mp z)) h
/-- a list that is read; p holds no list -/
theorem Ed.sqlk {K : PySem.W.Frag} {H H' : Hp} {a p : Addr} {o : HO} {xs : List V} (e : Ed [p] H H') (hp : H p = some o) (n : ∀ ys, o ≠ .lst ys) (h : SqL K H a xs) : SqL K H' a xs := by
  rcases h with (h | ⟨ob, h⟩) | h
  · exact .inl (.inl (e.keep _ _ (fun z => by rw [List.mem_singleton.mp z, hp] at h; cases h; exact n xs rfl) h))
  · exact .inl (.inr ⟨ob, e.frz _ _ _ h⟩)
  · exact .inr h

/-! ### data stay -/
mutual
theorem Dp.ed {K : PySem.W.Frag} {S : List Addr} {H H' : Hp} (e : Ed S H H') (hS : ∀ a ∈ S, ∀ xs, H a ≠ some (.lst xs)) : ∀ (d : PyData) (v : V), Dp K H v d → Dp K H' v d
  | .none, _, h => by cases h; exact .non
  | .bool b, _, h => by cases h; exact .bl b
  | .int i, _, h => by cases h; exact .int i
  | .str x, _, h => by cases h; exact .str x
  | .list ds, _, h => by
    cases h with
    | lst ha hd =>
      refine .lst ?_ (Dp.edAll e hS ds _ hd)
      rcases ha with (ha | ⟨ob, ha⟩) | ha
      · exact .inl (.inl (e.keep _ _ (fun z => hS _ z _ ha) ha))
      · exact .inl (.inr ⟨ob, e.frz _ _ _ ha⟩)
      · exact .inr ha
  | .tuple ds, _, h => by
    cases h with
    | tup ha hd => exact .tup (e.sqt ha) (Dp.edAll e hS ds _ hd)
theorem Dp.edAll {K : PySem.W.Frag} {S : List Addr} {H H' : Hp} (e : Ed S H H') (hS : ∀ a ∈ S, ∀ xs, H a ≠ some (.lst xs)) : ∀ (ds : List PyData) (vs : List V), DpAll K H vs ds → DpAll K H' vs ds
  | [], _, h => by cases h; exact .nil
  | d :: ds, _, h => by
    cases h with
    | cons h1 h2 => exact .cons (Dp.ed e hS d _ h1) (Dp.edAll e hS ds _ h2)
end
theorem Dp.ed0 {K : PySem.W.Frag} {H H' : Hp} {d : PyData} {v : V} (e : Ed [] H H') (h : Dp K H v d) : Dp K H' v d := Dp.ed e (fun _ z => nomatch z) d v h

/-! ### readings, step by step: what is left is stated without its binders -/
section
variable {K : PySem.W.Frag} {σ : L2.St} {H : Hp} {D : Ends} {Q : VK} {QB : Bool → Hp → Prop} {QA : List V → Hp → Prop} {te ta tb : TE} {tt tu : TT} {t u : TS} {g : TG} {v x y : V} {i j : Int}
-- statements
theorem go_seq (h : t { D with nx := u D } σ H) : tSeq t u D σ H := h
theorem go_asg (h : te σ H fun x H1 => g x σ H1 D.nx) : tAsg te g D σ H := h
theorem go_drop (h : te σ H fun _ H1 => D.nx σ H1) : tDrop te D σ H := h
theorem go_ret (h : te σ H D.rt) : tRet te D σ H := h
theorem go_retN (h : D.rt .non H) : tRetN D σ H := h
theorem go_next (h : D.nx σ H) : tNext D σ H := h
theorem go_break (h : D.bk σ H) : tBreak D σ H := h
theorem go_cont (h : D.ct σ H) : tCont D σ H := h
theorem go_ifS (h : tt σ H fun b H1 => if b = true then t D σ H1 else u D σ H1) : tIfS tt t u D σ H := h
theorem go_name {n : Nat} {R : L2.St → Hp → Prop} (h : R (σ.set n (some v)) H) : gName n v σ H R := h
-- tests
theorem go_test (h : te σ H fun x H' => ∃ k, x = .bl k ∧ QB k H') : tTest te σ H QB := h
theorem go_B (h : te σ H fun x H' => ∃ k, x = .bl k ∧ QB k H') : tB te σ H QB := h
theorem go_bl {b : Bool} {R : Bool → Prop} (h : R b) : ∃ k, V.bl b = .bl k ∧ R k := ⟨b, rfl, h⟩
theorem go_notT (h : tt σ H fun c H1 => QB (!c) H1) : tNot tt σ H QB := h
theorem go_andT (h : tt σ H fun c H1 => if c = true then tu σ H1 QB else QB false H1) : tAnd tt tu σ H QB := h
theorem go_orT (h : tt σ H fun c H1 => if c = true then QB true H1 else tu σ H1 QB) : tOr tt tu σ H QB := h
theorem go_yes (h : QB true H) : tYes σ H QB := h
-- values
theorem go_var {n : Nat} (e : σ[n]? = some (some v)) (h : Q v H) : tVar n σ H Q := ⟨v, e, h⟩
theorem go_c (h : Q v H) : tC v σ H Q := h
theorem go_op {r : R2} (h : ta σ H fun x H1 => tb σ H1 fun y H2 => r x y H2 Q) : tOp r ta tb σ H Q := h
theorem go_un {r : V → Hp → VK → Prop} (h : ta σ H fun x H1 => r x H1 Q) : tUn r ta σ H Q := h
theorem go_andV (h : ta σ H fun x H1 => ∃ c, x = .bl c ∧ if c = true then tb σ H1 Q else Q (.bl false) H1) : tAndV ta tb σ H Q := h
theorem go_orV (h : ta σ H fun x H1 => ∃ c, x = .bl c ∧ if c = true then Q (.bl true) H1 else tb σ H1 Q) : tOrV ta tb σ H Q := h
theorem go_notV (h : ta σ H fun x H1 => ∃ c, x = .bl c ∧ Q (.bl (!c)) H1) : tNotV ta σ H Q := h
theorem go_blP {b : Bool} {P : Bool → Prop} (h : P b) : ∃ c, V.bl b = .bl c ∧ P c := ⟨b, rfl, h⟩
theorem go_if (h : tt σ H fun c H1 => if c = true then ta σ H1 Q else tb σ H1 Q) : tIf tt ta tb σ H Q := h
theorem go_I0 {f : Int → Int → V} (h : Q (f i j) H) : rI0 f (.int i) (.int j) H Q := ⟨i, j, rfl, rfl, h⟩
theorem go_I {C : Int → Int → Prop} {f : Int → Int → V} (hc : C i j) (h : Q (f i j) H) : rI C f (.int i) (.int j) H Q := ⟨i, j, rfl, rfl, hc, h⟩
theorem go_U {f : Int → V} (h : Q (f i) H) : rU f (.int i) H Q := ⟨i, rfl, h⟩
theorem go_eqI (h : Q (.bl (decide (i = j))) H) : rEq (.int i) (.int j) H Q := ⟨rfl, by
  have : decide (V.int i = V.int j) = decide (i = j) := by rw [Bool.eq_iff_iff]; simp
  rw [this]; exact h⟩
theorem go_neI (h : Q (.bl (!decide (i = j))) H) : rNe (.int i) (.int j) H Q := ⟨rfl, by
  have : decide (V.int i = V.int j) = decide (i = j) := by rw [Bool.eq_iff_iff]; simp
  rw [this]; exact h⟩
theorem go_eqS {a b : Str} (h : Q (.bl (decide (a = b))) H) : rEq (.str a) (.str b) H Q := ⟨rfl, by
  have : decide (V.str a = V.str b) = decide (a = b) := by rw [Bool.eq_iff_iff]; simp
  rw [this]; exact h⟩
theorem go_neS {a b : Str} (h : Q (.bl (!decide (a = b))) H) : rNe (.str a) (.str b) H Q := ⟨rfl, by
  have : decide (V.str a = V.str b) = decide (a = b) := by rw [Bool.eq_iff_iff]; simp
  rw [this]; exact h⟩
theorem go_eqB {a b : Bool} (h : Q (.bl (decide (a = b))) H) : rEq (.bl a) (.bl b) H Q := ⟨rfl, by
  have : decide (V.bl a = V.bl b) = decide (a = b) := by rw [Bool.eq_iff_iff]; simp
  rw [this]; exact h⟩
theorem go_neB {a b : Bool} (h : Q (.bl (!decide (a = b))) H) : rNe (.bl a) (.bl b) H Q := ⟨rfl, by
  have : decide (V.bl a = V.bl b) = decide (a = b) := by rw [Bool.eq_iff_iff]; simp
  rw [this]; exact h⟩
theorem go_eqg (hs : scal x y = true) (h : Q (.bl (decide (x = y))) H) : rEq x y H Q := ⟨hs, h⟩
theorem go_neg (hs : scal x y = true) (h : Q (.bl (!decide (x = y))) H) : rNe x y H Q := ⟨hs, h⟩
theorem go_cb {r : List V → Hp → VK → Prop} {ts : TA} (h : ts σ H fun vs H1 => r vs H1 Q) : tCB r ts σ H Q := h
theorem go_nil (h : QA [] H) : tNil σ H QA := h
theorem go_cons {tr : TA} (h : ta σ H fun x H1 => tr σ H1 fun xs H2 => QA (x :: xs) H2) : tCons ta tr σ H QA := h
theorem go_call {sp : Sp} {E : XK} {ts : TA} (h : ts σ H fun vs H1 => sp vs H1 Q E) : tCall sp [] E ts σ H Q := by
  unfold tCall
  simpa only [List.append_nil] using h
theorem go_tup {ts : TA} (h : ts σ H fun xs H1 => xs.length ≤ sizeLine ∧ ∀ p, H1 p = none → Q (.ref p) (upd H1 p (.tup xs))) : tTup ts σ H Q := h
theorem go_lst {ts : TA} (h : ts σ H fun xs H1 => xs.length ≤ sizeLine ∧ ∀ p, H1 p = none → Q (.ref p) (upd H1 p (.lst xs))) : tLst ts σ H Q := h
theorem go_len {xs : List V} {P : Prop} (hl : xs.length ≤ 1000) (h : P) : xs.length ≤ sizeLine ∧ P := ⟨Nat.le_of_lt (small1000 hl), h⟩
theorem go_dnew (h : ∀ p, H p = none → Q (.ref p) (upd H p (.dK []))) : tDNewK σ H Q := h
theorem go_dget (h : ta σ H fun x H1 => tb σ H1 fun y H2 => ∃ a v, x = .ref a ∧ DGet H2 a y (some v) ∧ Q v H2) : tDGet ta tb σ H Q := h
theorem go_dgetS {a : Addr} {k : Str} {kvs : List (Key × V)} {v : V} {R : V → Prop} (e : H a = some (.dK kvs)) (ev : valV kvs (.inr k) = some v) (h : R v) : ∃ a' v', V.ref a = .ref a' ∧ DGet H a' (.str k) (some v') ∧ R v' :=
  ⟨a, v, rfl, by rw [← ev]; exact DGet.k (k := .inr k) e, h⟩
theorem go_dgetI {a : Addr} {k : Int} {kvs : List (Key × V)} {v : V} {R : V → Prop} (e : H a = some (.dK kvs)) (ev : valV kvs (.inl k) = some v) (h : R v) : ∃ a' v', V.ref a = .ref a' ∧ DGet H a' (.int k) (some v') ∧ R v' :=
  ⟨a, v, rfl, by rw [← ev]; exact DGet.k (k := .inl k) e, h⟩
theorem go_din (h : ta σ H fun y H1 => tb σ H1 fun x H2 => ∃ a o, x = .ref a ∧ DGet H2 a y o ∧ Q (.bl o.isSome) H2) : tDIn ta tb σ H Q := h
theorem go_dnotin (h : ta σ H fun y H1 => tb σ H1 fun x H2 => ∃ a o, x = .ref a ∧ DGet H2 a y o ∧ Q (.bl (!o.isSome)) H2) : tDNotIn ta tb σ H Q := h
theorem go_dinI {a : Addr} {k : Int} {kvs : List (Key × V)} {P : Option V → Prop} (e : H a = some (.dK kvs)) (h : P (valV kvs (.inl k))) : ∃ a' o, V.ref a = .ref a' ∧ DGet H a' (.int k) o ∧ P o :=
  ⟨a, _, rfl, DGet.k (k := .inl k) e, h⟩
theorem go_dput {tv : TE} (h : tv σ H fun v H1 => ta σ H1 fun x H2 => tb σ H2 fun y H3 => ∃ a H4, x = .ref a ∧ DPut H3 a y v H4 ∧ D.nx σ H4) : sDPut ta tb tv D σ H := h
theorem go_dputS {a : Addr} {k : Str} {kvs : List (Key × V)} {v : V} {P : Hp → Prop} (e : H a = some (.dK kvs)) (hl : kvs.length ≤ 1000) (h : P (upd H a (.dK (putK kvs (.inr k) v)))) : ∃ a' H4, V.ref a = .ref a' ∧ DPut H a' (.str k) v H4 ∧ P H4 :=
  ⟨a, _, rfl, DPut.k (k := .inr k) e (small1000 hl), h⟩
theorem go_dputI {a : Addr} {k : Int} {kvs : List (Key × V)} {v : V} {P : Hp → Prop} (e : H a = some (.dK kvs)) (hl : kvs.length ≤ 1000) (h : P (upd H a (.dK (putK kvs (.inl k) v)))) : ∃ a' H4, V.ref a = .ref a' ∧ DPut H a' (.int k) v H4 ∧ P H4 :=
  ⟨a, _, rfl, DPut.k (k := .inl k) e (small1000 hl), h⟩
theorem go_ixL {p : Addr} {xs : List V} (hs : SqL K H p xs) (ha : atI xs i = some v) (h : Q v H) : rIxL K (.ref p) (.int i) H Q := ⟨p, xs, i, v, rfl, rfl, hs, ha, h⟩
theorem go_ixT {p : Addr} {xs : List V} (hs : SqT K H p xs) (ha : atI xs i = some v) (h : Q v H) : rIxT K (.ref p) (.int i) H Q := ⟨p, xs, i, v, rfl, rfl, hs, ha, h⟩
theorem go_ixS {z : Str} {c : Nat} (hz : z.length ≤ 1000) (ha : atI z.cps.toList i = some c) (h : Q (.str ⟨#[c]⟩) H) : rIxS (.str z) (.int i) H Q := ⟨z, i, c, rfl, rfl, Nat.le_of_lt (small1000 hz), ha, h⟩
theorem go_sl {r : V → Option Int → Option Int → Hp → VK → Prop} {tl th : TO} (h : te σ H fun x H1 => tl σ H1 fun l H2 => th σ H2 fun u H3 => r x l u H3 Q) : tSl r te tl th σ H Q := h
theorem go_nopart {QO : Option Int → Hp → Prop} (h : QO none H) : tNoPart σ H QO := h
theorem go_part {QO : Option Int → Hp → Prop} (h : te σ H fun x H1 => ∃ i, x = .int i ∧ QO (some i) H1) : tPart te σ H QO := h
theorem go_partI {P : Int → Prop} (h : P i) : ∃ j, V.int i = .int j ∧ P j := ⟨i, rfl, h⟩
theorem go_slL {p : Addr} {xs : List V} {lo hi : Option Int} (hs : SqL K H p xs) (h : ∀ q, H q = none → Q (.ref q) (upd H q (.lst (cutV xs lo hi)))) : rSlL K (.ref p) lo hi H Q := ⟨p, xs, rfl, hs, h⟩
theorem go_slS {z : Str} {lo hi : Option Int} (hz : z.length ≤ 1000) (h : Q (.str (cutS z lo hi)) H) : rSlS (.str z) lo hi H Q := ⟨z, rfl, Nat.le_of_lt (small1000 hz), h⟩
theorem go_abs {R : Int → Prop} (h : R i) : ∃ j, [V.int i] = [.int j] ∧ R j := ⟨i, rfl, h⟩
theorem go_int1 {R : Int → Prop} {R' : Bool → Prop} (h : R i) : (∃ j, [V.int i] = [.int j] ∧ R j) ∨ ∃ k, [V.int i] = [.bl k] ∧ R' k := .inl ⟨i, rfl, h⟩
theorem go_int1b {k : Bool} {R : Int → Prop} {R' : Bool → Prop} (h : R' k) : (∃ j, [V.bl k] = [.int j] ∧ R j) ∨ ∃ k', [V.bl k] = [.bl k'] ∧ R' k' := .inr ⟨k, rfl, h⟩
theorem go_bm {T : String} {r : V → List V → Hp → VK → Prop} {to : TE} {ts : TA} (h : to σ H fun x H1 => tyV K T x H1 ∧ ts σ H1 fun xs H2 => r x xs H2 Q) : tBM K T r to ts σ H Q := h
theorem go_bm0 {T : String} {r : V → List V → Hp → VK → Prop} {to : TE} (h : to σ H fun x H1 => tyV K T x H1 ∧ r x [] H1 Q) : tBM0 K T r to σ H Q := h
theorem go_tyL {p : Addr} {xs : List V} {P : Prop} (e : SqL K H p xs) (h : P) : tyV K "list" (.ref p) H ∧ P := ⟨.inl ⟨rfl, xs, e⟩, h⟩
theorem go_append {p : Addr} {xs : List V} (e : H p = some (.lst xs)) (hl : xs.length ≤ 1000) (h : Q .non (upd H p (.lst (xs ++ [v])))) : rAppend (.ref p) [v] H Q := ⟨p, xs, v, rfl, rfl, e, small1000 hl, h⟩
theorem go_lenL {p : Addr} {xs : List V} {R : List V → Prop} (e : SqL K H p xs) (h : R xs) : ∃ q ys, [V.ref p] = [.ref q] ∧ (SqL K H q ys ∨ SqT K H q ys) ∧ R ys := ⟨p, xs, rfl, .inl e, h⟩
theorem go_lenT {p : Addr} {xs : List V} {R : List V → Prop} (e : SqT K H p xs) (h : R xs) : ∃ q ys, [V.ref p] = [.ref q] ∧ (SqL K H q ys ∨ SqT K H q ys) ∧ R ys := ⟨p, xs, rfl, .inr e, h⟩
theorem go_for {wi : TI} (h : wi σ H fun J H1 => ∃ W : Nat → Nat → L2.St → Hp → Prop, (∃ m, W 0 m σ H1) ∧ ∀ i m σ H, W i m σ H →
  (J.stop i H ∧ D.nx σ H) ∨ (J.go i H ∧ ∃ N : L2.St → Hp → Prop, (∀ σ' H', N σ' H' → ∃ m', m' < m ∧ W (i + 1) m' σ' H') ∧ ∀ x H', J.yld i H x H' → g x σ H' fun σ2 H2 => t { D with nx := N, ct := N, bk := D.nx } σ2 H2)) : tFor wi g t D σ H := h
theorem go_iList {tl : TE} {R : It → Hp → Prop} (h : tl σ H fun x H1 => ∃ a, x = .ref a ∧ (∃ xs, SqL K H1 a xs) ∧ R (Itl K a) H1) : iList K tl σ H R := h
theorem go_iTup {tl : TE} {R : It → Hp → Prop} (h : tl σ H fun x H1 => ∃ a, x = .ref a ∧ (∃ xs, SqT K H1 a xs) ∧ R (Itt K a) H1) : iTup K tl σ H R := h
theorem go_iRng1 {ts : TA} {R : It → Hp → Prop} (h : ts σ H fun vs H1 => ∃ j : Int, vs = [.int j] ∧ -(2 ^ 62) ≤ j ∧ j < 2 ^ 62 ∧ R (Itr 0 j.toNat) H1) : iRng1 ts σ H R := h
theorem go_iRng2 {ts : TA} {R : It → Hp → Prop} (h : ts σ H fun vs H1 => ∃ i j : Int, vs = [.int i, .int j] ∧ (-(2 ^ 62) ≤ i ∧ i < 2 ^ 62 ∧ -(2 ^ 62) ≤ j ∧ j < 2 ^ 62) ∧ R (Itr i (j - i).toNat) H1) : iRng2 ts σ H R := h
theorem go_iStr {tl : TE} {R : It → Hp → Prop} (h : tl σ H fun v H1 => ∃ x, v = .str x ∧ R (Its x) H1) : iStr tl σ H R := h
theorem go_lc {wi : TI} {vs : List Nat} (h : wi σ H fun J H1 => ∀ D, H1 D = none → ∃ W : Nat → Nat → Hp → Prop, (∃ m, W 0 m (upd H1 D (.lst []))) ∧ ∀ i m H, W i m H →
  (J.stop i H ∧ Q (.ref D) H) ∨ (J.go i H ∧ ∃ Nx : Hp → Prop, (∀ H', Nx H' → ∃ m', m' < m ∧ W (i + 1) m' H') ∧ ∀ x H', J.yld i H x H' → g x (wipe σ vs) H' fun σ2 H2 => wipe σ2 vs = wipe σ vs ∧ tt σ2 H2 fun b H3 =>
    if b = true then te σ2 H3 fun y H4 => ∃ acc, H4 D = some (.lst acc) ∧ acc.length < sizeLine ∧ Nx (upd H4 D (.lst (acc ++ [y]))) else Nx H3)) : tLc wi g tt te vs σ H Q := h
/-- a comprehension over n turns that give items one by one: the new list's items so far are told by Pv -/
theorem lc_by {J : It} {n : Nat} {G : Hp → Prop} {Y : Nat → Hp → V → Hp → Prop} {vs : List Nat} {R : Addr → Hp → Prop} (w : Walk J n G Y) (Pv : Addr → Nat → Hp → Prop) (h0 : ∀ D H2, H D = none → Ed [] H H2 → H2 D = some (.lst []) → Pv D 0 H2) (hG : ∀ D i H', H D = none → i ≤ n → Pv D i H' → G H')
    (hs : ∀ D i x H1 H', H D = none → i < n → Pv D i H1 → Y i H1 x H' → g x (wipe σ vs) H' fun σ2 H2 => wipe σ2 vs = wipe σ vs ∧ tt σ2 H2 fun b H3 =>
      if b = true then te σ2 H3 fun y H4 => ∃ acc, H4 D = some (.lst acc) ∧ acc.length < sizeLine ∧ Pv D (i + 1) (upd H4 D (.lst (acc ++ [y]))) else Pv D (i + 1) H3) (hd : ∀ D H', H D = none → Pv D n H' → R D H') :
    ∀ D, H D = none → ∃ W : Nat → Nat → Hp → Prop, (∃ m, W 0 m (upd H D (.lst []))) ∧ ∀ i m H, W i m H →
      (J.stop i H ∧ R D H) ∨ (J.go i H ∧ ∃ Nx : Hp → Prop, (∀ H', Nx H' → ∃ m', m' < m ∧ W (i + 1) m' H') ∧ ∀ x H', J.yld i H x H' → g x (wipe σ vs) H' fun σ2 H2 => wipe σ2 vs = wipe σ vs ∧ tt σ2 H2 fun b H3 =>
        if b = true then te σ2 H3 fun y H4 => ∃ acc, H4 D = some (.lst acc) ∧ acc.length < sizeLine ∧ Nx (upd H4 D (.lst (acc ++ [y]))) else Nx H3) := fun D nD =>
  lc_it w (Pv D) (h0 D _ nD (Ed.new nD) upd_same) (fun i H' hi p => hG D i H' nD hi p) (fun i x H1 H' hi p y => hs D i x H1 H' nD hi p y) (fun H' p => hd D H' nD p)
/-- list(xs) -/
theorem go_listL {p : Addr} {xs : List V} {R : List V → Prop} (e : SqL K H p xs) (h : R xs) : ∃ q ys, [V.ref p] = [.ref q] ∧ (SqL K H q ys ∨ SqT K H q ys) ∧ R ys := ⟨p, xs, rfl, .inl e, h⟩
theorem go_disp {trs : List (TE × TE)} (h : ∀ p, H p = none → tPairs trs σ (upd H p (.dK [])) fun ps H2 => H2 p = some (.dK []) ∧ ∃ kvs : List (Key × V), ps = kvs.map (fun kv => (kV kv.1, kv.2)) ∧ kvs.length ≤ 15 ∧ Q (.ref p) (upd H2 p (.dK (mergeK [] kvs)))) : tDisp trs σ H Q := h
theorem go_pairs {tk tv : TE} {trs : List (TE × TE)} {R : List (V × V) → Hp → Prop} (h : tk σ H fun k H1 => tv σ H1 fun v H2 => tPairs trs σ H2 fun ps H3 => R ((k, v) :: ps) H3) : tPairs ((tk, tv) :: trs) σ H R := h
theorem go_pairs0 {R : List (V × V) → Hp → Prop} (h : R [] H) : tPairs [] σ H R := h
/-- a new object, by name -/
theorem alloc {p : Addr} {o : HO} {H2 : Hp} (hu : upd H p o = H2) (h : H p = none) : Ed [] H H2 ∧ H2 p = some o := by subst hu; exact ⟨Ed.new h, upd_same⟩
/-- an object changed, by name -/
theorem chg {p : Addr} {o u : HO} {H2 : Hp} (hu : upd H p o = H2) (h : H p = some u) (m : Mut (some u) := by trivial) : Ed [p] H H2 ∧ H2 p = some o := by subst hu; exact ⟨Ed.mut h m, upd_same⟩
-- ifs
theorem go_ite {c : Prop} [Decidable c] {A B : Prop} (h1 : c → A) (h2 : ¬ c → B) : if decide c = true then A else B := by
  by_cases h : c
  · rw [if_pos (decide_eq_true h)]; exact h1 h
  · rw [if_neg (fun z => h (of_decide_eq_true z))]; exact h2 h
theorem go_iten {c : Prop} [Decidable c] {A B : Prop} (h1 : ¬ c → A) (h2 : c → B) : if (!decide c) = true then A else B := by
  by_cases h : c
  · rw [decide_eq_true h]; exact iteF (h2 h)
  · rw [decide_eq_false h]; exact iteT (h1 h)
theorem go_iteb {b : Bool} {A B : Prop} (h1 : b = true → A) (h2 : b = false → B) : if b = true then A else B := by
  cases b with
  | true => exact iteT (h1 rfl)
  | false => exact iteF (h2 rfl)
theorem go_itebn {b : Bool} {A B : Prop} (h1 : b = false → A) (h2 : b = true → B) : if (!b) = true then A else B := by
  cases b with
  | true => exact iteF (h2 rfl)
  | false => exact iteT (h1 rfl)
end

/-! ### distinct places -/
theorem ne1 {H : Hp} {a b : Addr} {o : HO} (h' : H b = none) (h : H a = some o) : a ≠ b := ne_of_none h h'
theorem ne2 {H : Hp} {a b : Addr} {o : HO} (h' : H a = none) (h : H b = some o) : a ≠ b := (ne_of_none h h').symm
theorem nek {H : Hp} {a b : Addr} {o u : HO} (h : H a = some o) (h' : H b = some u) (d : o ≠ u) : a ≠ b := ne_of h h' d
theorem Ed.ex' {S : List Addr} {H H1 H2 : Hp} (b : Ed [] H1 H2) (a : Ed S H H1) : Ed S H H2 := a.ex b
theorem Ed.one' {S : List Addr} {H H1 H2 : Hp} {p : Addr} (b : Ed [p] H1 H2) (a : Ed S H H1) (h : p ∈ S ∨ H p = none) : Ed S H H2 := a.one b h
theorem Ed.two' {S : List Addr} {H H1 H2 : Hp} {p q : Addr} (b : Ed [p, q] H1 H2) (a : Ed S H H1) (h : p ∈ S ∨ H p = none) (h' : q ∈ S ∨ H q = none) : Ed S H H2 :=
  a.trans b fun x z => by
    rcases List.mem_cons.mp z with z | z
    · rw [z]; exact h
    · rw [List.mem_singleton.mp z]; exact h'
theorem Ed.back {S : List Addr} {H H' : Hp} {a : Addr} (e : Ed S H H') (h : H' a = none) : H a = none := e.dom a h
theorem sqt_of {K : PySem.W.Frag} {H : Hp} {a : Addr} {xs : List V} (h : H a = some (.tup xs)) : SqT K H a xs := .inl (.inl h)
theorem go_neL {α : Type} [DecidableEq α] {a : α} {A B : Prop} (h : B) : if (!decide (a = a)) = true then A else B := by rw [decide_eq_true rfl]; exact iteF h
theorem go_eqL {α : Type} [DecidableEq α] {a : α} {A B : Prop} (h : A) : if decide (a = a) = true then A else B := by rw [decide_eq_true rfl]; exact iteT h
theorem go_nT {A B : Prop} (h : B) : if (!true) = true then A else B := iteF h
theorem go_nF {A B : Prop} (h : A) : if (!false) = true then A else B := iteT h
theorem go_iteT' {c : Prop} [Decidable c] {A B : Prop} (hc : c) (h : A) : if decide c = true then A else B := by rw [decide_eq_true hc]; exact iteT h
theorem go_iteF' {c : Prop} [Decidable c] {A B : Prop} (hc : ¬ c) (h : B) : if decide c = true then A else B := by rw [decide_eq_false hc]; exact iteF h
theorem go_itenT' {c : Prop} [Decidable c] {A B : Prop} (hc : ¬ c) (h : A) : if (!decide c) = true then A else B := by rw [decide_eq_false hc]; exact iteT h
theorem go_itenF' {c : Prop} [Decidable c] {A B : Prop} (hc : c) (h : B) : if (!decide c) = true then A else B := by rw [decide_eq_true hc]; exact iteF h
theorem go_strE {z : Str} {R : Str → Prop} (h : R z) : ∃ x, V.str z = .str x ∧ R x := ⟨z, rfl, h⟩
theorem go_sign {c : Nat} {z : Str} {R : Nat → Str → Prop} (h : R c z) : ∃ c' z', V.str ⟨#[c]⟩ = .str ⟨#[c']⟩ ∧ V.str z = .str z' ∧ R c' z' := ⟨c, z, rfl, rfl, h⟩
theorem go_lenS {z : Str} {R : Str → Prop} (l : z.length ≤ 1000) (h : R z) : ∃ x, [V.str z] = [.str x] ∧ x.length ≤ sizeLine ∧ R x := ⟨z, rfl, Nat.le_of_lt (small1000 l), h⟩
/-! ### is None -/
theorem go_isN {R : Prop} (h : R) : V.non = V.non ∧ R := ⟨rfl, h⟩
theorem go_iteN {x : V} {A B : Prop} (hx : x ≠ .non) (h : B) : if decide (x = V.non) = true then A else B := by rw [decide_eq_false hx]; exact iteF h
theorem go_iteNT {A B : Prop} (h : A) : if decide (V.non = V.non) = true then A else B := iteT h
/-! ### isinstance -/
theorem kit_int_int : kitB "int" "int" = some true := by decide +kernel
theorem kit_int_bool : kitB "int" "bool" = some false := by decide +kernel
theorem kit_int_str : kitB "int" "str" = some false := by decide +kernel
theorem kit_int_tuple : kitB "int" "tuple" = some false := by decide +kernel
theorem kit_int_list : kitB "int" "list" = some false := by decide +kernel
theorem kit_int_dict : kitB "int" "dict" = some false := by decide +kernel
theorem kit_bool_int : kitB "bool" "int" = some true := by decide +kernel
theorem kit_bool_bool : kitB "bool" "bool" = some true := by decide +kernel
theorem kit_bool_str : kitB "bool" "str" = some false := by decide +kernel
theorem kit_bool_tuple : kitB "bool" "tuple" = some false := by decide +kernel
theorem kit_bool_list : kitB "bool" "list" = some false := by decide +kernel
theorem kit_bool_dict : kitB "bool" "dict" = some false := by decide +kernel
theorem kit_str_int : kitB "str" "int" = some false := by decide +kernel
theorem kit_str_bool : kitB "str" "bool" = some false := by decide +kernel
theorem kit_str_str : kitB "str" "str" = some true := by decide +kernel
theorem kit_str_tuple : kitB "str" "tuple" = some false := by decide +kernel
theorem kit_str_list : kitB "str" "list" = some false := by decide +kernel
theorem kit_str_dict : kitB "str" "dict" = some false := by decide +kernel
theorem kit_NoneType_int : kitB "NoneType" "int" = some false := by decide +kernel
theorem kit_NoneType_bool : kitB "NoneType" "bool" = some false := by decide +kernel
theorem kit_NoneType_str : kitB "NoneType" "str" = some false := by decide +kernel
theorem kit_NoneType_tuple : kitB "NoneType" "tuple" = some false := by decide +kernel
theorem kit_NoneType_list : kitB "NoneType" "list" = some false := by decide +kernel
theorem kit_NoneType_dict : kitB "NoneType" "dict" = some false := by decide +kernel
theorem kit_list_int : kitB "list" "int" = some false := by decide +kernel
theorem kit_list_bool : kitB "list" "bool" = some false := by decide +kernel
theorem kit_list_str : kitB "list" "str" = some false := by decide +kernel
theorem kit_list_tuple : kitB "list" "tuple" = some false := by decide +kernel
theorem kit_list_list : kitB "list" "list" = some true := by decide +kernel
theorem kit_list_dict : kitB "list" "dict" = some false := by decide +kernel
theorem kit_tuple_int : kitB "tuple" "int" = some false := by decide +kernel
theorem kit_tuple_bool : kitB "tuple" "bool" = some false := by decide +kernel
theorem kit_tuple_str : kitB "tuple" "str" = some false := by decide +kernel
theorem kit_tuple_tuple : kitB "tuple" "tuple" = some true := by decide +kernel
theorem kit_tuple_list : kitB "tuple" "list" = some false := by decide +kernel
theorem kit_tuple_dict : kitB "tuple" "dict" = some false := by decide +kernel
theorem kit_dict_int : kitB "dict" "int" = some false := by decide +kernel
theorem kit_dict_bool : kitB "dict" "bool" = some false := by decide +kernel
theorem kit_dict_str : kitB "dict" "str" = some false := by decide +kernel
theorem kit_dict_tuple : kitB "dict" "tuple" = some false := by decide +kernel
theorem kit_dict_list : kitB "dict" "list" = some false := by decide +kernel
theorem kit_dict_dict : kitB "dict" "dict" = some true := by decide +kernel
section
variable {K : PySem.W.Frag} {H : Hp} {Q : VK} {x : V}
theorem tyL {a : Addr} {xs : List V} (h : SqL K H a xs) : TyX K H (.ref a) (.type "list") := by
  rcases h with (h | ⟨o, h⟩) | ⟨o, _, _, h, c, _⟩
  · exact .base (.lst h)
  · exact .base (.frz h)
  · exact .kList h c
theorem tyT {a : Addr} {xs : List V} (h : SqT K H a xs) : TyX K H (.ref a) (.type "tuple") := by
  rcases h with (h | ⟨o, h⟩) | ⟨o, _, _, h, c, _⟩
  · exact .base (.tup h)
  · exact .fTuple h
  · exact .kTuple h c
theorem go_isi {n m : String} {b : Bool} (ht : TyX K H x (.type n)) (hk : kitB n m = some b) (h : Q (.bl b) H) : rIsi K [x, .ty m] H Q := ⟨x, .ty m, .type n, .type m, b, rfl, .ty m, ht, kit_ty hk, h⟩
theorem or_t {b : Bool} : (true || b) = true := rfl
theorem or_f {b : Bool} : (false || b) = b := rfl
theorem go_isiT2 {tp : Addr} {n m m' : String} {b b' c : Bool} (ht : TyX K H x (.type n)) (e : H tp = some (.tup [.ty m, .ty m'])) (hk : kitB n m = some b) (hk' : kitB n m' = some b') (hc : (b || b') = c) (h : Q (.bl c) H) : rIsiT K [x, .ref tp] H Q :=
  ⟨x, tp, _, .type n, [.type m, .type m'], b || b', rfl, e, .cons (.ty m) (.cons (.ty m') .nil), ht,
    kitAny_cons (kit_ty hk) (fun z => by subst z; exact kitAny_cons (kit_ty hk') (fun z => by subst z; exact kitAny_nil) fun z => by subst z; rfl) fun z => by subst z; rfl, by rw [hc]; exact h⟩
end
/-! ### slices -/
theorem cut_take (xs : List V) (k : Nat) : cutV xs none (some (k : Int)) = xs.take k := by
  unfold cutV
  rw [HT.sIx_nat, HT.sIx_none, List.drop_zero, Nat.sub_zero]
  rcases Nat.le_total k xs.length with h | h
  · rw [Nat.min_eq_left h]
  · rw [Nat.min_eq_right h, List.take_length, List.take_of_length_le h]
theorem cut_drop (xs : List V) (k : Nat) : cutV xs (some (k : Int)) none = xs.drop k := by
  unfold cutV
  rw [HT.sIx_nat, HT.sIx_none]
  rcases Nat.le_total k xs.length with h | h
  · rw [Nat.min_eq_left h, List.take_of_length_le (by rw [List.length_drop]; omega)]
  · rw [Nat.min_eq_right h, List.drop_of_length_le h, List.drop_length, List.take_nil]
theorem cut_mid (xs : List V) (j k : Nat) : cutV xs (some (j : Int)) (some (k : Int)) = (xs.drop j).take (k - j) := by
  unfold cutV
  rw [HT.sIx_nat, HT.sIx_nat]
  rcases Nat.le_total j xs.length with h | h
  · rw [Nat.min_eq_left h]
    rcases Nat.le_total k xs.length with h' | h'
    · rw [Nat.min_eq_left h']
    · rw [Nat.min_eq_right h', List.take_of_length_le (by rw [List.length_drop]; omega), List.take_of_length_le (by rw [List.length_drop]; omega)]
  · rw [Nat.min_eq_right h, List.drop_of_length_le h, List.drop_length, List.take_nil, List.take_nil]
/-! ### sizes -/
theorem mulw {i j : Int} (hi : i.natAbs < 2 ^ 200) (hj : j.natAbs < 2 ^ 200) : CMulW i j := wide_mul (a := 200) (b := 200) hi hj (by decide) (by decide) (by decide)
theorem divw {i j : Int} (h : 0 < j) (hj : j.natAbs < 2 ^ 200) : CDivW i j := wide_div (b := 200) h hj (by decide) (by decide)
end Vc

/-! Setn: len(set(xs)) of a list of pairwise different texts (my own; the way is HandS.Strs', which has at most one text). -/
namespace Setn
open PySem PySem.Spec PyProof.Rows L2
theorem getD_take {xs : List Str} {i : Nat} (h : i < xs.length) : xs.take (i + 1) = xs.take i ++ [xs.getD i Str.empty] := by
  rw [List.take_add_one, List.getElem?_eq_getElem h, List.getD_eq_getElem?_getD, List.getElem?_eq_getElem h]; rfl
theorem any_beq (l : List Str) (k : Str) : l.any (· == k) = decide (k ∈ l) := by
  rw [Bool.eq_iff_iff, List.any_eq_true, decide_eq_true_eq]
  constructor
  · rintro ⟨x, hx, e⟩
    have := eq_of_beq e
    subst this
    exact hx
  · exact fun h => ⟨k, h, beq_self_eq_true k⟩
/-- how many different texts stand ahead of place i -/
def cn (xs : List Str) : Nat → Nat
  | 0 => 0
  | i + 1 => if (xs.take i).any (· == xs.getD i Str.empty) = true then cn xs i else cn xs i + 1
theorem cn_le (xs : List Str) : ∀ i, cn xs i ≤ i
  | 0 => Nat.le_refl 0
  | i + 1 => by
    have := cn_le xs i
    unfold cn
    split <;> omega
theorem cn_eq {xs : List Str} : ∀ {i : Nat}, i ≤ xs.length → (cn xs i = i ↔ (xs.take i).Nodup)
  | 0, _ => by simp [cn]
  | i + 1, h => by
    have ih := cn_eq (xs := xs) (i := i) (by omega)
    have le := cn_le xs i
    rw [getD_take (by omega)]
    unfold cn
    rw [any_beq, List.nodup_append]
    by_cases hm : xs.getD i Str.empty ∈ xs.take i
    · rw [if_pos (by simpa using hm)]
      constructor
      · intro e; omega
      · rintro ⟨_, _, d⟩
        exact absurd rfl (d _ hm _ (by simp))
    · rw [if_neg (by simpa using hm)]
      constructor
      · intro e
        refine ⟨ih.mp (by omega), by simp, fun a ha b hb e => ?_⟩
        rw [List.mem_singleton] at hb
        rw [e, hb] at ha
        exact hm ha
      · rintro ⟨d, _⟩
        rw [ih.mpr d]
theorem cn_nd {xs : List Str} (h : xs.Nodup) : cn xs xs.length = xs.length := (cn_eq (Nat.le_refl _)).mpr (by rw [List.take_length]; exact h)
theorem cn_lt {xs : List Str} : cn xs xs.length < xs.length ↔ ¬ xs.Nodup := by
  have a := cn_eq (xs := xs) (Nat.le_refl _)
  rw [List.take_length] at a
  have b := cn_le xs xs.length
  constructor
  · intro h d
    have := a.mpr d
    omega
  · intro h
    have : cn xs xs.length ≠ xs.length := fun e => h (a.mp e)
    omega
section
variable {prog : Program} {w : World} {A : Around} {R : Result → Shared → Prop} {I : Addr} {fp wr : List Addr} {G : Array GenState → Array GenState → Prop} {n : Nat} {P : Nat → Value → Prop} {St : Nat → Shared → Prop}
/-- the set's own loop over different texts -/
theorem loopD (W : WalksS prog w A.in1 I fp wr G n P St) (S : Addr) (hSf : S ∉ fp) (xs : List Str) (hsz : xs.length = n) (hn : n + 1 < scanBound)
    (hval : ∀ i v, P i v → ∃ t, v = .str (xs.getD i Str.empty) t) : ∀ (k i : Nat) (s : Shared), n - i = k → i ≤ n → St i s → s.heap.SetOf (PySem.strKind prog w) S (fun k' => (xs.take i).any (· == k')) (cn xs i) →
      (∀ s', Moved (S :: wr) G s s' → s'.heap.SetOf (PySem.strKind prog w) S (fun k' => (xs.take n).any (· == k')) (cn xs n) → R (.ok (.ret .none)) s') → codeAny (model prog w) A (.builtin "set.update.loop" ⟨[.ref S, .ref I], []⟩) R s := by
  have nw : S ∉ wr := fun h => hSf (W.sub _ h)
  have sw : ∀ b ∈ wr, b ∈ S :: wr := fun b hb => List.mem_cons_of_mem _ hb
  intro k
  induction k with
  | zero =>
    intro i s hk hi st hS hR
    obtain rfl : i = n := by omega
    refine codeAny_builtin F.entry_set_update_loop ?_
    rw [Around.under_plainId F.plain_set_update_loop _]; show wpAny _ A.in1 (pyNext (.ref I) >>= _) _ _ s
    refine wpAny_bind (W.done s _ _ st fun s' hm => ?_); show wpAny _ A.in1 (ret Value.none) _ _ s'
    refine wpAny_pure (hR s' (hm.mono sw) ?_)
    obtain ⟨o, es, ep, t, ho, rest⟩ := hS; exact ⟨o, es, ep, t, hm.heap S _ nw ho, rest⟩
  | succ k ih =>
    intro i s hk hi st hS hR
    have lt : i < n := by omega
    refine codeAny_builtin F.entry_set_update_loop ?_
    rw [Around.under_plainId F.plain_set_update_loop _]; show wpAny _ A.in1 (pyNext (.ref I) >>= _) _ _ s
    refine wpAny_bind (W.item i s _ _ lt st fun v s' hP st' hm => ?_); obtain ⟨t, rfl⟩ := hval i v hP
    have hS' : s'.heap.SetOf (PySem.strKind prog w) S (fun k' => (xs.take i).any (· == k')) (cn xs i) := by
      obtain ⟨o, es, ep, tb, ho, rest⟩ := hS; exact ⟨o, es, ep, tb, hm.heap S _ nw ho, rest⟩
    show wpAny _ A.in1 (holding [Value.str (xs.getD i Str.empty) t] (setAdd S (.str (xs.getD i Str.empty) t)) >>= _) _ _ s'
    refine wpAny_bind (wpAny_holding ?_); unfold setAdd; refine wpAny_holding ?_
    refine wpAny_bind ((PySem.strKind prog w).pyHash (k := xs.getD i Str.empty) (strKind_is _ _ _ _) ?_)
    refine wpAny_setAddHashed_of (knd := PySem.strKind prog w) (s := { s' with toks := s'.toks + 1 }) (strKind_is _ _ _ _) rfl hS' (by have := cn_le xs i; omega) fun h' sb hS2 => ?_
    have hS3 : h'.SetOf (PySem.strKind prog w) S (fun k' => (xs.take (i + 1)).any (· == k')) (cn xs (i + 1)) := SetOf_congr hS2 (fun k' => by
      rw [getD_take (by omega), List.any_append]
      congr 1
      rw [any_beq, Bool.eq_iff_iff]; simp) rfl
    refine wpAny_pure ⟨plainId_quiet F.plain_set_update_loop _, ih (i + 1) _ (by omega) lt (W.frame _ s' _ _ st' (Nat.le_succ _) fun b hb o e => ?_) hS3 fun s'' hm'' hS'' => ?_⟩
    · rw [sb.2 b (fun h : b = S => hSf (h ▸ hb))]; exact e
    · refine hR s'' (Moved.trans W.gtrans ((hm.mono sw).then_heap (Nat.le_succ _) fun b o hb e => ?_) hm'') hS''
      rw [sb.2 b (fun h : b = S => hb (h ▸ List.mem_cons_self))]; exact e
end
abbrev setO (led : Bool) : Obj := { cls := .type "set", dict := none, data := .set #[] 0 (.fresh 0 0 led) }
section
variable {prog : Program} {w : World} {A : Around} {E : Value → Shared → Prop} {s : Shared}
theorem call_setD {l : Addr} {items : Array Value} {xs : List Str} {Q : Value → Shared → Prop} (hh : A.handled = none) (hl : s.heap.IsList l items) (hi : StrsAre items.toList xs) (hn1 : xs.length + 1 < scanBound)
    (h : ∀ (h' : Heap) (tk : Nat), h'.SetOf (PySem.strKind prog w) s.heap.objs.size (fun k' => (xs.take items.size).any (· == k')) (cn xs items.size) → (∀ b o, b < s.heap.objs.size → s.heap.get? b = some o → h'.get? b = some o) → Q (.ref s.heap.objs.size) { s with heap := h', toks := tk }) :
    wpAny (model prog w) A (call (.type "set") [.ref l]) Q E s := by
  obtain ⟨c, tl, hmro⟩ := PySem.F.called_set.mro
  have hmade := PySem.F.called_set.made; have hsub := PySem.F.called_set.sub
  refine wpAny_call (codeAny_of_tree ?_); show wpAny _ _ (callAny (.type "set") _) _ _ _
  refine wpAny_pure ⟨Code.quiet_builtin _ (by decide +kernel), codeAny_builtin PySem.F.entry_type_call ?_⟩; rw [Around.under_plain (weight_type_call_type "set" [.ref l] []) rfl]
  have h1 := PySem.F.called_set.notType; have h2 := PySem.F.called_set.canCreate; have hct := PySem.F.typeCall_set_1 (.ref l)
  repeat (any_goals (first | assumption | wp_step))
  refine codeAny_mono (code_set_new_1 (.ref l) (E := E) (Q₁ := fun obj s₁ => ∃ led : Bool, obj = .ref s.heap.objs.size ∧ s₁ = { s with heap := s.heap.push (setO led) }) fun led => ⟨led, rfl, rfl⟩) fun r s₁ hr => ?_
  cases r with
  | error e => exact hr
  | ok fl =>
    cases fl with
    | ret obj =>
      obtain ⟨led, rfl, rfl⟩ := hr
      have hS : (s.heap.push (setO led)).get? s.heap.objs.size = some (setO led) := Heap.get?_push_size _ rfl
      have hT : Shared.TypeIs { s with heap := s.heap.push (setO led) } (.ref s.heap.objs.size) "set" := ⟨_, hS, rfl⟩
      have hli := PySem.F.called_set.init.lookup; have hbi := PySem.F.called_set.init.bind (.ref s.heap.objs.size)
      repeat (any_goals (first | assumption | wp_step))
      refine codeAny_mono (codeAny_call_builtin (R := wants (fun r s₂ => r = .none ∧ ∃ h' tk, s₂ = { s with heap := h', toks := tk } ∧ h'.SetOf (PySem.strKind prog w) s.heap.objs.size (fun k' => (xs.take items.size).any (· == k')) (cn xs items.size) ∧
          (∀ b o, b < s.heap.objs.size → s.heap.get? b = some o → h'.get? b = some o)) E) PySem.F.called_set.init.plain PySem.F.entry_set_init (check_set_init_1 hT ?_)) fun r₂ s₂ hr₂ => ?_
      · obtain ⟨ol, hol, hcl, nl, hdl⟩ := hl
        obtain ⟨ocls, odict, odata, oslots⟩ := ol
        simp only at hcl hdl; subst hcl; subst hdl
        have hol' : (s.heap.push (setO led)).get? l = some { cls := .type "list", dict := odict, data := .seq items nl, slots := oslots } := Heap.get?_push_of_some _ hol
        have hsls := PySem.F.sub_list_set; have hslf := PySem.F.sub_list_frozenset
        have hne : (Value.type "list" == Value.type "dict") = false := by decide
        have hl1 : (s.heap.push (setO led)).IsList l items := ⟨_, hol', rfl, nl, rfl⟩
        unfold Builtin.«set.__init__» noKeywords Builtin.Frozenset.updateFrom
        generalize hPI : pyIter = PI
        wp_walk
        subst hPI
        refine wpAny_pyIter_list hl1 ?_; refine wpAny_bind (wpAny_runValue ?_)
        have ll : l < s.heap.objs.size := Heap.lt_size hol
        have h3 : A.in1.in1.in1.handled = none := by simp [hh]
        have nI : l ≠ (s.heap.push (setO led)).objs.size := by rw [Heap.size_push]; exact Nat.ne_of_lt (Nat.lt_succ_of_lt ll)
        have hSf : s.heap.objs.size ∉ [(s.heap.push (setO led)).objs.size, l] := by
          rw [Heap.size_push]; simp only [List.mem_cons, List.not_mem_nil, or_false, not_or]; exact ⟨Nat.ne_of_lt (Nat.lt_succ_self _), Nat.ne_of_gt ll⟩
        have hsz : xs.length = items.size := by rw [← StrsAre.len_eq hi, Array.length_toList]
        have hval : ∀ (i : Nat) (v : Value), items[i]? = some v → ∃ t, v = .str (xs.getD i Str.empty) t := fun i v hv => SS.strs_at hi i v (by rw [Array.getElem?_toList]; exact hv)
        refine loopD ((Walks.list h3 _ l nI items).toS) s.heap.objs.size hSf xs hsz (by rw [← hsz]; exact hn1) hval (items.size - 0) 0 _ (by omega) (Nat.zero_le _) ⟨⟨_, Heap.get?_push_size _ rfl, rfl, rfl⟩, (hl1.push _)⟩ ?hS0 ?hR
        case hS0 =>
          have hget : ((s.heap.push (setO led)).push { cls := .type "list_iterator", data := .fields #[.ref l, .int 0 0] }).get? s.heap.objs.size = some (setO led) := Heap.get?_push_of_some _ hS
          exact SetOf_congr ((setObjOf_fresh (knd := PySem.strKind prog w) led).setOf hget (by unfold scanBound; omega)) (fun _ => rfl) rfl
        case hR =>
          intro s' hm hS'
          obtain ⟨h', g', d', tk', os'⟩ := s'
          obtain rfl : g' = s.gens := hm.gens
          obtain rfl : d' = s.drawn := hm.drawn
          obtain rfl : os' = s.os := hm.os
          show wpAny _ _ _ _ _ _; refine wpAny_pure ?_; show wpAny _ _ (ret Value.none) _ _ _
          refine wpAny_pure ⟨rfl, h', tk', rfl, hS', fun b o hb e => ?_⟩
          have b1 : b ≠ s.heap.objs.size := Nat.ne_of_lt hb
          have b2 : b ≠ (s.heap.push (setO led)).objs.size := by rw [Heap.size_push]; exact Nat.ne_of_lt (Nat.lt_succ_of_lt hb)
          exact hm.heap b o (by simp only [List.mem_cons, List.not_mem_nil, or_false, not_or]; exact ⟨b1, b2⟩) (Heap.get?_push_of_some _ (Heap.get?_push_of_some _ e))
      · cases r₂ with
        | error e => exact hr₂
        | ok fl₂ =>
          cases fl₂ with
          | ret r =>
            obtain ⟨rfl, h', tk, rfl, hS', hk'⟩ := hr₂
            repeat (any_goals (first | assumption | wp_step))
            exact h _ _ hS' hk'
          | _ => exact hr₂.elim
    | _ => exact hr.elim
end
/-- len(set(xs)) of different texts -/
def tLenSetN (K : PySem.W.Frag) (ta : TE) : TE := fun σ H Q => ta σ H fun x H1 => ∃ l, ∃ xs : List Str, x = .ref l ∧ SqL K H1 l (xs.map V.str) ∧ xs.length ≤ 1000 ∧ Q (.int (cn xs xs.length)) H1
section
variable {X : Cx}
theorem pe_lenSetN {a : Expr} {ta : TE} {p p2 q pos : Pos} (hc : X.calm = true) (hg : Gl X "len") (hm : X.mg "len" = none) (hg2 : Gl X "set") (hm2 : X.mg "set" = none) (ha : PE X a ta) (na : starEach [a] X.env = (false, eval a X.env) :: starEach [] X.env := by rfl) :
    PE X (.Call (.Name "len" p) [.Call (.Name "set" p2) [a] [] q] [] pos) (tLenSetN X.K ta) := by
  refine ⟨fun pins s σ H Q I h => ?_⟩
  refine Call_ (ld_blt I hg hm boot_len ?_); refine PyProof.Rows.callWith_builtin1 (PyProof.Rows.args_cons ?_ rfl) rfl rfl
  refine Call_ (ld_blt I hg2 hm2 boot_set ?_)
  refine PyProof.Rows.callWith_type1 (PyProof.Rows.args_cons (thn (ha.run pins s σ H _ I h) fun v s1 ⟨x, H1, I1, r1, q1⟩ => PyProof.Rows.args_nil ?_) na) na rfl
  obtain ⟨l, xs, rfl, hq, hz, q1⟩ := q1
  cases r1
  obtain ⟨its, r, pl, _⟩ := I1.list hq
  have hl : its.toArray.size = xs.length := by rw [List.size_toArray, ← r.length, List.length_map]
  refine call_setD (I1.ok.hd hc) pl.isList (by simpa using strsAre_of r) (by unfold scanBound; omega) fun h' tk hS hk => ?_
  refine PyProof.Rows.args_nil ?_
  rw [hl] at hS
  obtain ⟨o, es, ep, t, ho, hex, hd, _, _, _, hf, hn⟩ := hS
  have I2 : Inv X pins σ H1 { s1 with heap := h', toks := tk } := I1.kept fun b o e => hk b o (Heap.lt_size e) e
  exact call_len_set ho hex hd hf (by rw [hn]; have := cn_le xs xs.length; omega) ⟨.int (cn xs xs.length), H1, I2.tok _, ⟨_, by rw [hn]⟩, q1⟩
end
end Setn

namespace Vc
open PySem PySem.Spec PyProof.Rows L2
section
variable {K : PySem.W.Frag} {σ : L2.St} {H : Hp} {Q : VK} {ta : TE}
theorem go_lenSet (h : ta σ H fun x H1 => ∃ l, ∃ xs : List Str, x = .ref l ∧ SqL K H1 l (xs.map V.str) ∧ xs.length ≤ 1000 ∧ Q (.int (Setn.cn xs xs.length)) H1) : Setn.tLenSetN K ta σ H Q := h
theorem go_lenSetC {a : Addr} {xs : List Str} {R : List Str → Prop} (e : SqL K H a (xs.map V.str)) (l : xs.length ≤ 1000) (h : R xs) : ∃ l', ∃ ys : List Str, V.ref a = .ref l' ∧ SqL K H l' (ys.map V.str) ∧ ys.length ≤ 1000 ∧ R ys := ⟨a, xs, rfl, e, l, h⟩
end
end Vc

/-! Vk: further readings by name: chains, classes' constants, fields, new instances, locked dicts, sorted. -/
namespace Vc
open PySem PySem.Spec PyProof.Rows L2
/-- a reading within a comprehension, told without the comprehension's own frame -/
theorem blkE {Y : Cx} {e : Expr} {t' t : TE} (h : PE Y e t') (q : t' = t) : PE Y e t := q ▸ h
theorem blkT {Y : Cx} {e : List Expr} {t' t : TT} (h : PTs Y e t') (q : t' = t) : PTs Y e t := q ▸ h
section
variable {K : PySem.W.Frag} {σ : L2.St} {H : Hp} {D : Ends} {Q : VK} {te ta tb tc tv : TE} {f : Str} {v x y : V} {i j : Int} {ts : TA} {g : TG} {t : TS} {tt : TT}
theorem go_chain {r r' : R2} (h : ta σ H fun x H1 => tb σ H1 fun y H2 => r x y H2 fun z H3 => ∃ k, z = .bl k ∧ (if k = true then tc σ H3 fun w' H4 => r' y w' H4 Q else Q (.bl false) H3)) : tChain r r' ta tb tc σ H Q := h
theorem go_cvalR (h : ta σ H fun x H1 => ∃ C mc v u, x = .ref C ∧ ClX.CRead K C mc ∧ ClX.CVal K C mc f v u ∧ Q v H1) : ClX.tCVal K ta f σ H Q := h
theorem go_cval {C : Addr} {mc u : Value} {R : V → Prop} (hr : ClX.CRead K C mc) (hv : ClX.CVal K C mc f v u) (h : R v) : ∃ C' mc' v' u', V.ref C = .ref C' ∧ ClX.CRead K C' mc' ∧ ClX.CVal K C' mc' f v' u' ∧ R v' := ⟨C, mc, v, u, rfl, hr, hv, h⟩
theorem go_fld (h : ta σ H fun x H1 => ∃ a C dx fs v, x = .ref a ∧ H1 a = some (.ins C dx fs) ∧ Cls K C ∧ NoAttr K C f ∧ fs.lookup f = some v ∧ Q v H1) : tFld K ta f σ H Q := h
theorem go_fldV {a C dx : Addr} {fs : List (Str × V)} {R : V → Prop} (e : H a = some (.ins C dx fs)) (hl : fs.lookup f = some v) (c : Cls K C) (n : NoAttr K C f) (h : R v) :
    ∃ a' C' dx' fs' v', V.ref a = .ref a' ∧ H a' = some (.ins C' dx' fs') ∧ Cls K C' ∧ NoAttr K C' f ∧ fs'.lookup f = some v' ∧ R v' := ⟨a, C, dx, fs, v, rfl, e, c, n, hl, h⟩
theorem go_sfld (h : tv σ H fun y H1 => ta σ H1 fun x H2 => ∃ a C dx fs, x = .ref a ∧ H2 a = some (.ins C dx fs) ∧ Cls K C ∧ NoAttr K C f ∧ fs.length < 1000 ∧ D.nx σ (upd H2 a (.ins C dx (putF f y fs)))) : sFld K ta tv f D σ H := h
theorem go_sfldV {a C dx : Addr} {fs : List (Str × V)} {R : Hp → Prop} (e : H a = some (.ins C dx fs)) (l : fs.length < 1000) (c : Cls K C) (n : NoAttr K C f) (h : R (upd H a (.ins C dx (putF f v fs)))) :
    ∃ a' C' dx' fs', V.ref a = .ref a' ∧ H a' = some (.ins C' dx' fs') ∧ Cls K C' ∧ NoAttr K C' f ∧ fs'.length < 1000 ∧ R (upd H a' (.ins C' dx' (putF f v fs'))) := ⟨a, C, dx, fs, rfl, e, c, n, l, h⟩
theorem go_make {C : Addr} {sp : Sp} {E : XK} (h : ts σ H fun vs H1 => ∀ x dx, H1 x = none → H1 dx = none → dx ≠ x → sp (.ref x :: vs) (upd (upd H1 dx (.own x)) x (.ins C dx [])) (fun v H2 => v = .non ∧ Q (.ref x) H2) E) : tMake C sp [] E ts σ H Q := by
  unfold tMake
  simpa only [List.append_nil] using h
theorem go_meth {C : Addr} {m : Str} {sp : Sp} {E : XK} (h : ta σ H fun x H1 => ∃ a dx fs, x = .ref a ∧ H1 a = some (.ins C dx fs) ∧ fs.lookup m = none ∧ ts σ H1 fun vs H2 => sp (x :: vs) H2 Q E) : tMeth C m sp [] E ta ts σ H Q := by
  unfold tMeth
  simpa only [List.append_nil] using h
theorem go_methV {a C dx : Addr} {fs : List (Str × V)} {m : Str} {R : Prop} (e : H a = some (.ins C dx fs)) (l : fs.lookup m = none) (h : R) : ∃ a' dx' fs', V.ref a = .ref a' ∧ H a' = some (.ins C dx' fs') ∧ fs'.lookup m = none ∧ R := ⟨a, dx, fs, rfl, e, l, h⟩
/-- a new instance, by name -/
theorem allocI {C p dx : Addr} {H2 : Hp} (hu : upd (upd H dx (.own p)) p (.ins C dx []) = H2) (np : H p = none) (nd : H dx = none) (ne : dx ≠ p) : Ed [] H H2 ∧ H2 p = some (.ins C dx []) ∧ H2 dx = some (.own p) := by
  subst hu
  have n1 : (upd H dx (.own p)) p = none := by rw [upd_ne ne.symm]; exact np
  exact ⟨(Ed.new nd).ex (Ed.new n1), upd_same, by rw [upd_ne ne]; exact upd_same⟩
theorem go_dgetIF {a : Addr} {k : Int} {o : Obj} {kvs : List (Key × V)} {R : V → Prop} (e : H a = some (.frz o (.dK kvs))) (ev : valV kvs (.inl k) = some v) (h : R v) : ∃ a' v', V.ref a = .ref a' ∧ DGet H a' (.int k) (some v') ∧ R v' :=
  ⟨a, v, rfl, .inl ⟨kvs, .inl k, .inr ⟨o, e⟩, rfl, ev.symm⟩, h⟩
theorem go_sorted {a : Addr} {ns : List Int} (e : SqL K H a (ns.map V.int)) (l : ns.length < 64) (h : ∀ (ns' : List Int) (p : Addr), ns'.Perm ns → ns'.Pairwise (· ≤ ·) → H p = none → Q (.ref p) (upd H p (.lst (ns'.map V.int)))) : rSorted K [.ref a] H Q := ⟨a, ns, rfl, e, l, h⟩
theorem go_listD {a : Addr} {kvs : List (Key × V)} (e : H a = some (.dK kvs)) (h : ∀ q, H q = none → Q (.ref q) (upd H q (.lst (kvs.map fun kv => kV kv.1)))) : rListD [.ref a] H Q := ⟨a, kvs, rfl, e, h⟩
theorem go_lenD {a : Addr} {kvs : List (Key × V)} {R : List (Key × V) → Prop} (e : H a = some (.dK kvs)) (h : R kvs) : ∃ b ls, [V.ref a] = [V.ref b] ∧ H b = some (.dK ls) ∧ R ls := ⟨a, kvs, rfl, e, h⟩
theorem go_in {a : Addr} {neg : Bool} {xs : List V} (e : SqL K H a xs ∨ SqT K H a xs) (hx : flatV x = true) (hf : xs.all flatV = true) (h : Q (.bl (if neg then !inV x xs else inV x xs)) H) : rIn K neg x (.ref a) H Q := ⟨a, xs, rfl, e, hx, hf, h⟩
theorem go_inL {a : Addr} {xs : List V} (e : SqL K H a xs) (hx : flatV x = true) (hf : xs.all flatV = true) (h : Q (.bl (inV x xs)) H) : rIn K false x (.ref a) H Q := go_in (neg := false) (.inl e) hx hf h
theorem go_inT {a : Addr} {xs : List V} (e : SqT K H a xs) (hx : flatV x = true) (hf : xs.all flatV = true) (h : Q (.bl (inV x xs)) H) : rIn K false x (.ref a) H Q := go_in (neg := false) (.inr e) hx hf h
theorem go_niL {a : Addr} {xs : List V} (e : SqL K H a xs) (hx : flatV x = true) (hf : xs.all flatV = true) (h : Q (.bl (!inV x xs)) H) : rIn K true x (.ref a) H Q := go_in (neg := true) (.inl e) hx hf h
theorem go_niT {a : Addr} {xs : List V} (e : SqT K H a xs) (hx : flatV x = true) (hf : xs.all flatV = true) (h : Q (.bl (!inV x xs)) H) : rIn K true x (.ref a) H Q := go_in (neg := true) (.inr e) hx hf h
theorem go_dc {wi : TI} {tk : TE} {vs : List Nat} (h : wi σ H fun J H1 => ∀ D, H1 D = none → ∃ W : Nat → Nat → Hp → Prop, (∃ m, W 0 m (upd H1 D (.dK []))) ∧ ∀ i m H, W i m H →
  (J.stop i H ∧ Q (.ref D) H) ∨ (J.go i H ∧ ∃ Nx : Hp → Prop, (∀ H', Nx H' → ∃ m', m' < m ∧ W (i + 1) m' H') ∧ ∀ x H', J.yld i H x H' → g x (wipe σ vs) H' fun σ2 H2 => wipe σ2 vs = wipe σ vs ∧ tt σ2 H2 fun b H3 =>
    if b = true then tk σ2 H3 fun y H4 => tv σ2 H4 fun z H5 => ∃ kvs k, y = kV k ∧ H5 D = some (.dK kvs) ∧ kvs.length < sizeLine ∧ Nx (upd H5 D (.dK (putK kvs k z))) else Nx H3)) : tDc wi g tt tk tv vs σ H Q := h
theorem go_aug {n : Nat} {ti : TIp} {x : V} (e : σ[n]? = some (some x)) (h : te σ H fun y H1 => ti x y H1 fun z H2 => D.nx (σ.set n (some z)) H2) : tAug n te ti D σ H := ⟨x, e, h⟩
theorem go_ipI {f : Int → Int → Int} (h : Q (.int (f i j)) H) : ipI f (.int i) (.int j) H Q := ⟨i, j, rfl, rfl, h⟩
theorem go_addS {a b : Str} {R : Str → Str → Prop} (l : a.length + b.length ≤ 1000) (h : R a b) : ∃ i j, V.str a = .str i ∧ V.str b = .str j ∧ i.length + j.length ≤ sizeLine ∧ R i j := ⟨a, b, rfl, rfl, Nat.le_of_lt (small1000 l), h⟩
theorem go_M1 {r : V → List V → Hp → VK → Prop} (h : ta σ H fun x H1 => (∃ a, x = .str a) ∧ tb σ H1 fun y H2 => r x [y] H2 Q) : tM1 r ta tb σ H Q := h
theorem go_M0 {r : V → List V → Hp → VK → Prop} (h : ta σ H fun x H1 => (∃ a, x = .str a) ∧ r x [] H1 Q) : tM0 r ta σ H Q := h
theorem go_isS {z : Str} {R : Prop} (h : R) : (∃ a, V.str z = .str a) ∧ R := ⟨⟨z, rfl⟩, h⟩
theorem go_join {a : Str} {p : Addr} {ys : List Str} {R : Str → List Str → Prop} (e : SqL K H p (ys.map V.str)) (l : (ys.map (·.length)).sum + ys.length * a.length ≤ 16777216) (h : R a ys) :
    ∃ a' p', ∃ zs : List Str, V.str a = .str a' ∧ [V.ref p] = [.ref p'] ∧ (SqL K H p' (zs.map V.str) ∨ SqT K H p' (zs.map V.str)) ∧ (zs.map (·.length)).sum + zs.length * a'.length ≤ 16777216 ∧ R a' zs := ⟨a, p, ys, rfl, rfl, .inl e, l, h⟩
theorem go_sub {to ti : TE} {ts : TSet} {R : L2.St → Hp → Prop} (h : to σ H fun o H1 => ti σ H1 fun i H2 => ts o i v H2 fun H3 => R σ H3) : gSub to ti ts v σ H R := h
theorem go_setL {p : Addr} {xs : List V} {k : Int} {j : Nat} {R : Hp → Prop} (e : H p = some (.lst xs)) (hj : ixN xs.length k = some j) (h : R (upd H p (.lst (xs.set j v)))) : rSetL (.ref p) (.int k) v H R := ⟨p, xs, k, j, rfl, rfl, e, hj, h⟩
theorem go_tupL {p : Addr} {xs : List V} {R : Addr → Hp → Prop} (e : SqL K H p xs) (h : ∀ l, H l = none → R l (upd H l (.tup xs))) : ∃ p' ys, [V.ref p] = [.ref p'] ∧ ((SqL K H p' ys ∧ ∀ l, H l = none → R l (upd H l (.tup ys))) ∨ (SqT K H p' ys ∧ R p' H)) := ⟨p, xs, rfl, .inl ⟨e, h⟩⟩
theorem at_m1 {xs : List V} (h : xs[xs.length - 1]? = some v) : atI xs (-1) = some v := by
  have h0 : 0 < xs.length := by
    rcases Nat.eq_zero_or_pos xs.length with e | e
    · rw [List.eq_nil_of_length_eq_zero e] at h; cases h
    · exact e
  unfold atI ixN
  rw [if_neg (by omega), if_pos (by omega)]
  have : (-1 + (xs.length : Int)).toNat = xs.length - 1 := by omega
  show xs[(-1 + (xs.length : Int)).toNat]? = some v
  rw [this]; exact h
/-- a dict comprehension over n turns that give items one by one -/
theorem dc_by {J : It} {n : Nat} {G : Hp → Prop} {Y : Nat → Hp → V → Hp → Prop} {tk : TE} {vs : List Nat} {R : Addr → Hp → Prop} (w : Walk J n G Y) (Pv : Addr → Nat → Hp → Prop) (h0 : ∀ D H2, H D = none → Ed [] H H2 → H2 D = some (.dK []) → Pv D 0 H2) (hG : ∀ D i H', H D = none → i ≤ n → Pv D i H' → G H')
    (hs : ∀ D i x H1 H', H D = none → i < n → Pv D i H1 → Y i H1 x H' → g x (wipe σ vs) H' fun σ2 H2 => wipe σ2 vs = wipe σ vs ∧ tt σ2 H2 fun b H3 =>
      if b = true then tk σ2 H3 fun y H4 => tv σ2 H4 fun z H5 => ∃ kvs k, y = kV k ∧ H5 D = some (.dK kvs) ∧ kvs.length < sizeLine ∧ Pv D (i + 1) (upd H5 D (.dK (putK kvs k z))) else Pv D (i + 1) H3) (hd : ∀ D H', H D = none → Pv D n H' → R D H') :
    ∀ D, H D = none → ∃ W : Nat → Nat → Hp → Prop, (∃ m, W 0 m (upd H D (.dK []))) ∧ ∀ i m H, W i m H →
      (J.stop i H ∧ R D H) ∨ (J.go i H ∧ ∃ Nx : Hp → Prop, (∀ H', Nx H' → ∃ m', m' < m ∧ W (i + 1) m' H') ∧ ∀ x H', J.yld i H x H' → g x (wipe σ vs) H' fun σ2 H2 => wipe σ2 vs = wipe σ vs ∧ tt σ2 H2 fun b H3 =>
        if b = true then tk σ2 H3 fun y H4 => tv σ2 H4 fun z H5 => ∃ kvs k, y = kV k ∧ H5 D = some (.dK kvs) ∧ kvs.length < sizeLine ∧ Nx (upd H5 D (.dK (putK kvs k z))) else Nx H3) := fun D nD => by
  refine ⟨fun i m H' => m = n - i ∧ i ≤ n ∧ Pv D i H', ⟨n, by simp, Nat.zero_le _, h0 D _ nD (Ed.new nD) upd_same⟩, ?_⟩
  rintro i m H1 ⟨rfl, hi, p⟩
  have q := hG D i H1 nD hi p
  by_cases hlt : i < n
  · exact .inr ⟨w.goes i H1 hlt q, Pv D (i + 1), fun H' p' => ⟨n - (i + 1), by omega, rfl, hlt, p'⟩, fun x H' y => hs D i x H1 H' nD hlt p (w.yields i H1 x H' hlt q y)⟩
  · have : i = n := by omega
    subst this
    exact .inl ⟨w.stops H1 q, hd D H1 nD p⟩
theorem putK_le {κ : Type} [DecidableEq κ] (c : List (κ × V)) (k : κ) (x : V) : (putK c k x).length ≤ c.length + 1 := by
  unfold putK
  split
  · rw [List.length_map]; omega
  · rw [List.length_append]; simp
theorem all_sqt {a : Addr} {xs : List V} (h : ∀ H, SqT K H a xs) (H : Hp) : SqT K H a xs := h H
/-! ### a dict that is locked while it is walked -/
theorem frz' {S : List Addr} {H' : Hp} {a : Addr} {o : Obj} {u : HO} (e : Ed S H H') (h : H a = some (.frz o u)) : H' a = some (.frz o u) := e.frz _ _ _ h
/-- unlocked again: d is what it was, all else as it is -/
theorem unlock {S : List Addr} {d : Addr} {u : HO} {od : Obj} {H1 H' H2 : Hp} (h : H d = some u) (m : Mut (some u)) (e1 : upd H d (.frz od u) = H1) (e2 : Ed S H1 H') (e3 : upd H' d u = H2) :
    Ed S H H2 ∧ H2 d = some u ∧ ∀ a o, a ≠ d → H' a = some o → H2 a = some o := by
  subst e1 e3
  have nf : ∀ ob w, u ≠ .frz ob w := fun ob w z => by rw [z] at m; exact m
  have nt : ∀ xs, u ≠ .tup xs := fun xs z => by rw [z] at m; exact m
  refine ⟨⟨fun a o ha e => ?_, fun a xs e => ?_, fun a ob w e => ?_, fun a e => ?_⟩, upd_same, fun a o n e => by rw [upd_ne n]; exact e⟩
  · by_cases q : a = d
    · subst q; rw [h] at e; cases e; exact upd_same
    · rw [upd_ne q]; exact e2.keep a o ha (by rw [upd_ne q]; exact e)
  · by_cases q : a = d
    · subst q; rw [h] at e; cases e; exact (nt _ rfl).elim
    · rw [upd_ne q]; exact e2.tup a xs (by rw [upd_ne q]; exact e)
  · by_cases q : a = d
    · subst q; rw [h] at e; cases e; exact (nf _ _ rfl).elim
    · rw [upd_ne q]; exact e2.frz a ob w (by rw [upd_ne q]; exact e)
  · by_cases q : a = d
    · subst q; rw [upd_same] at e; cases e
    · rw [upd_ne q] at e
      have := e2.dom a e
      rw [upd_ne q] at this; exact this
/-- for k in d -/
theorem lock_keys {n : Nat} {d : Addr} {kvs : List (Key × V)} (hv : σ[n]? = some (some (.ref d))) (hd : H d = some (.dK kvs)) (S : List Addr) (Pv : Hp → Nat → L2.St → Hp → Prop) (hE : ∀ H1 i σ' H', Pv H1 i σ' H' → Ed S H1 H')
    (h0 : ∀ H1 od, Ed [d] H H1 → H1 d = some (.frz od (.dK kvs)) → Pv H1 0 σ H1)
    (turn : ∀ H1 od i k w σ' H', Ed [d] H H1 → H1 d = some (.frz od (.dK kvs)) → H' d = some (.frz od (.dK kvs)) → kvs[i]? = some (k, w) → Pv H1 i σ' H' →
      g (kV k) σ' H' fun σ2 H2 => t { nx := Pv H1 (i + 1), ct := Pv H1 (i + 1), rt := fun v H3 => H3 d = some (.frz od (.dK kvs)) ∧ D.rt v (upd H3 d (.dK kvs)), bk := fun σ3 H3 => H3 d = some (.frz od (.dK kvs)) ∧ D.nx σ3 (upd H3 d (.dK kvs)) } σ2 H2)
    (done : ∀ H1 σ' H' H2, Ed [d] H H1 → Pv H1 kvs.length σ' H' → Ed S H H2 → H2 d = some (.dK kvs) → (∀ a o, a ≠ d → H' a = some o → H2 a = some o) → D.nx σ' H2) : tLock (tFor (iKeys (tVar n)) g t) D σ H := by
  refine ⟨d, .dK kvs, hd, trivial, fun od => ?_⟩
  generalize hu : upd H d (.frz od (.dK kvs)) = H1
  obtain ⟨e1, h1⟩ := chg hu hd
  refine ⟨_, hv, d, od, rfl, .inl ⟨kvs, h1, for_it walk_keys (Pv H1) (h0 H1 od e1 h1) (fun i σ' H' _ p => (hE _ _ _ _ p).frz _ _ _ h1) (fun i x σ' H' H2 hi p y => ?_) fun σ' H' p => ?_⟩⟩
  · obtain ⟨rfl, k, w, hk, rfl⟩ := y
    exact turn H1 od i k w σ' H2 e1 h1 ((hE _ _ _ _ p).frz _ _ _ h1) hk p
  · obtain ⟨e2, h2, k2⟩ := unlock hd trivial hu (hE _ _ _ _ p) rfl
    exact ⟨(hE _ _ _ _ p).frz _ _ _ h1, done H1 σ' H' _ e1 p e2 h2 k2⟩
/-- [e for k in d] -/
theorem lockE_keys {n : Nat} {d : Addr} {kvs : List (Key × V)} {vs : List Nat} (hv : σ[n]? = some (some (.ref d))) (hd : H d = some (.dK kvs)) (S : List Addr) (Pv : Hp → Addr → Nat → Hp → Prop) (hE : ∀ H1 L i H', Pv H1 L i H' → Ed S H1 H')
    (h0 : ∀ H1 od L H2, Ed [d] H H1 → H1 d = some (.frz od (.dK kvs)) → H1 L = none → Ed [] H1 H2 → H2 L = some (.lst []) → Pv H1 L 0 H2)
    (turn : ∀ H1 od L i k w H', Ed [d] H H1 → H1 L = none → H' d = some (.frz od (.dK kvs)) → kvs[i]? = some (k, w) → Pv H1 L i H' →
      g (kV k) (wipe σ vs) H' fun σ2 H2 => wipe σ2 vs = wipe σ vs ∧ tt σ2 H2 fun b H3 => if b = true then te σ2 H3 fun y H4 => ∃ acc, H4 L = some (.lst acc) ∧ acc.length < sizeLine ∧ Pv H1 L (i + 1) (upd H4 L (.lst (acc ++ [y]))) else Pv H1 L (i + 1) H3)
    (done : ∀ H1 L H' H2, H L = none → Pv H1 L kvs.length H' → Ed S H H2 → H2 d = some (.dK kvs) → (∀ a o, a ≠ d → H' a = some o → H2 a = some o) → Q (.ref L) H2) : tLockE (tLc (iKeys (tVar n)) g tt te vs) σ H Q := by
  refine ⟨d, .dK kvs, hd, trivial, fun od => ?_⟩
  generalize hu : upd H d (.frz od (.dK kvs)) = H1
  obtain ⟨e1, h1⟩ := chg hu hd
  refine ⟨_, hv, d, od, rfl, .inl ⟨kvs, h1, fun L nL => lc_it walk_keys (Pv H1 L) (h0 H1 od L _ e1 h1 nL (Ed.new nL) upd_same) (fun i H' _ p => (hE _ _ _ _ p).frz _ _ _ h1) (fun i x H' H2 hi p y => ?_) fun H' p => ?_⟩⟩
  · obtain ⟨rfl, k, w, hk, rfl⟩ := y
    exact turn H1 od L i k w H2 e1 nL ((hE _ _ _ _ p).frz _ _ _ h1) hk p
  · obtain ⟨e2, h2, k2⟩ := unlock hd trivial hu (hE _ _ _ _ p) rfl
    exact ⟨(hE _ _ _ _ p).frz _ _ _ h1, done H1 L H' _ (e1.dom _ nL) p e2 h2 k2⟩
/-- y = [e for k in d] -/
theorem lockA_keys {n m : Nat} {d : Addr} {kvs : List (Key × V)} {vs : List Nat} (hv : σ[n]? = some (some (.ref d))) (hd : H d = some (.dK kvs)) (S : List Addr) (Pv : Hp → Addr → Nat → Hp → Prop) (hE : ∀ H1 L i H', Pv H1 L i H' → Ed S H1 H')
    (h0 : ∀ H1 od L H2, Ed [d] H H1 → H1 d = some (.frz od (.dK kvs)) → H1 L = none → Ed [] H1 H2 → H2 L = some (.lst []) → Pv H1 L 0 H2)
    (turn : ∀ H1 od L i k w H', Ed [d] H H1 → H1 L = none → H' d = some (.frz od (.dK kvs)) → kvs[i]? = some (k, w) → Pv H1 L i H' →
      g (kV k) (wipe σ vs) H' fun σ2 H2 => wipe σ2 vs = wipe σ vs ∧ tt σ2 H2 fun b H3 => if b = true then te σ2 H3 fun y H4 => ∃ acc, H4 L = some (.lst acc) ∧ acc.length < sizeLine ∧ Pv H1 L (i + 1) (upd H4 L (.lst (acc ++ [y]))) else Pv H1 L (i + 1) H3)
    (done : ∀ H1 L H' H2, H L = none → Pv H1 L kvs.length H' → Ed S H H2 → H2 d = some (.dK kvs) → (∀ a o, a ≠ d → H' a = some o → H2 a = some o) → D.nx (σ.set m (some (.ref L))) H2) : tLock (tAsg (tLc (iKeys (tVar n)) g tt te vs) (gName m)) D σ H := by
  refine ⟨d, .dK kvs, hd, trivial, fun od => ?_⟩
  generalize hu : upd H d (.frz od (.dK kvs)) = H1
  obtain ⟨e1, h1⟩ := chg hu hd
  refine ⟨_, hv, d, od, rfl, .inl ⟨kvs, h1, fun L nL => lc_it walk_keys (Pv H1 L) (h0 H1 od L _ e1 h1 nL (Ed.new nL) upd_same) (fun i H' _ p => (hE _ _ _ _ p).frz _ _ _ h1) (fun i x H' H2 hi p y => ?_) fun H' p => ?_⟩⟩
  · obtain ⟨rfl, k, w, hk, rfl⟩ := y
    exact turn H1 od L i k w H2 e1 nL ((hE _ _ _ _ p).frz _ _ _ h1) hk p
  · obtain ⟨e2, h2, k2⟩ := unlock hd trivial hu (hE _ _ _ _ p) rfl
    exact ⟨(hE _ _ _ _ p).frz _ _ _ h1, done H1 L H' _ (e1.dom _ nL) p e2 h2 k2⟩
end
end Vc

/-! Kw: method calls with keywords (my own; the way is pe_meth's and pe_callK's). -/
namespace Vc
open PySem PySem.Spec PyProof.Rows L2
section
variable {X : Cx} {CX : CXT} {k : Nat} {f C : Addr} {fd : FuncData} {ps ks : List Str} {sp : Sp} {E : XK} {x m : Str} {p pos apos : Pos} {e o : Expr} {es : List Expr} {kws : List Keyword} {ta : TE} {t tk : TA} {g : List Value → List Value → List Value} {gV : List V → List V → List V}
theorem kbinds {K : PySem.W.Frag} {x qual : Str} {st : Stmt} (F : Fun K x qual st f fd)
    (h : ∀ (kV doc pm : Value) (an : Option Addr) (cdv ct : Value) (us ws : List Value), (g us ws).length = ps.length → bindArgs (PySem.W.fnOf x qual (defArgs st) (defBody st) (defScope st) .none kV doc pm an cdv ct) ⟨us, ks.zip ws⟩ = pure (ps.zip (g us ws)))
    (rel : ∀ {vs : List V} {us : List Value} {zs : List V} {ws : List Value}, Vals vs us → Vals zs ws → Vals (gV vs zs) (g us ws)) : KBinds K fd ps ks g gV := by
  obtain ⟨oc, od, kV, doc, pm, an, cdv, ct, osl, rfl, lk, hcd⟩ := F.ex
  exact ⟨fun s us ws _ hl => .of_eq (h kV doc pm an cdv ct us ws hl), rel⟩
def tMethK (C : Addr) (m : Str) (sp : Sp) (gV : List V → List V → List V) (E : XK) (ta : TE) (t tk : TA) : TE := fun σ H Q => ta σ H fun x H1 => ∃ a dx fs, x = .ref a ∧ H1 a = some (.ins C dx fs) ∧ fs.lookup m = none ∧ t σ H1 fun vs H2 => tk σ H2 fun zs H3 => sp (gV (x :: vs) zs) H3 Q E
/-- o.m(k = v, ..) -/
theorem pe_methK0 {pl : Sem Bool} (he : PE X o ta) (c : Cls X.K C) (hm : Meth X.K C m f) (F : FnOk X.prog X.w X.K X.mg X.base CX k f fd ps sp) (hr : Room k X.A) (hb : KBinds X.K fd ps ks g gV) (hx : Passes CX X E) (hkw : PK X kws tk)
    (hall : (backToKw pos (keywordEach kws X.env)).all (·.1.isSome) = true := by rfl) (hks : (backToKw pos (keywordEach kws X.env)).filterMap (·.1) = ks := by rfl)
    (hpl : ((backTo pos (starEach [] X.env)).any (·.1) || (backToKw pos (keywordEach kws X.env)).any (·.1.isNone)) = false := by rfl)
    (ht : eval (.Call (.Attribute o m apos) [] kws pos) X.env = (do
      let ov ← eval o X.env
      standAt apos.atName
      let (f, first) ← holding [ov] (getMethod ov m pl)
      callWith pos f first (backTo pos (starEach [] X.env)) (backToKw pos (keywordEach kws X.env))) := by rfl) :
    PE X (.Call (.Attribute o m apos) [] kws pos) (tMethK C m sp gV E ta tNil tk) := by
  refine ⟨fun pins s σ H Q I h => ?_⟩
  refine PySem.W.methodCall_KW (pl := pl) (thn (he.run pins s σ H _ I h) fun u s1 ⟨x, H1, I1, rx, a, dx, fs, ex, ea, l, q⟩ => ?_) ht
  subst ex
  obtain rfl : u = Value.ref a := rx
  refine getmeth_ok I1 ea c hm l ?_
  refine PySem.W.callWith_KW0 (first := [.ref a]) (h₀ := X.base) I.ok.mod.kin hm.kp hall (thn (hkw.run pos pins s1 σ H1 _ I1 q) fun ws s2 ⟨zs, H2, I2, rz, q2⟩ => ⟨I2.kIn, ?_⟩) hpl
  rw [hks]
  exact run_fnk (us := [.ref a]) (vs := [.ref a]) F hr hb hx I2 (.cons rfl .nil) rz q2
/-- o.m(e, .., k = v, ..) -/
theorem pe_methK {pl : Sem Bool} (he : PE X o ta) (c : Cls X.K C) (hm : Meth X.K C m f) (F : FnOk X.prog X.w X.K X.mg X.base CX k f fd ps sp) (hr : Room k X.A) (hb : KBinds X.K fd ps ks g gV) (hx : Passes CX X E) (ha : PA X (e :: es) t) (hkw : PK X kws tk)
    (hall : (backToKw pos (keywordEach kws X.env)).all (·.1.isSome) = true := by rfl) (hks : (backToKw pos (keywordEach kws X.env)).filterMap (·.1) = ks := by rfl)
    (hst : starEach (e :: es) X.env = (false, eval e X.env) :: starEach es X.env := by rfl)
    (hpl : ((backTo pos (starEach (e :: es) X.env)).any (·.1) || (backToKw pos (keywordEach kws X.env)).any (·.1.isNone)) = false := by rfl)
    (ht : eval (.Call (.Attribute o m apos) (e :: es) kws pos) X.env = (do
      let ov ← eval o X.env
      standAt apos.atName
      let (f, first) ← holding [ov] (getMethod ov m pl)
      callWith pos f first (backTo pos (starEach (e :: es) X.env)) (backToKw pos (keywordEach kws X.env))) := by rfl) :
    PE X (.Call (.Attribute o m apos) (e :: es) kws pos) (tMethK C m sp gV E ta t tk) := by
  refine ⟨fun pins s σ H Q I h => ?_⟩
  refine PySem.W.methodCall_KW (pl := pl) (thn (he.run pins s σ H _ I h) fun u s1 ⟨x, H1, I1, rx, a, dx, fs, ex, ea, l, q⟩ => ?_) ht
  subst ex
  obtain rfl : u = Value.ref a := rx
  refine getmeth_ok I1 ea c hm l ?_
  refine PySem.W.callWith_KW (first := [.ref a]) (h₀ := X.base) I.ok.mod.kin hm.kp hall (thn (ha.run pos pins s1 σ H1 _ I1 q) fun us s2 ⟨vs, H2, I2, r, q2⟩ => ?_) hpl hst
  refine thn (hkw.run pos pins s2 σ H2 _ I2 q2) fun ws s3 ⟨zs, H3, I3, rz, q3⟩ => ⟨I3.kIn, ?_⟩
  rw [hks]
  exact run_fnk (us := .ref a :: us) (vs := .ref a :: vs) F hr hb hx I3 (.cons rfl r) rz q3
end
section
variable {σ : L2.St} {H : Hp} {Q : VK} {ta : TE} {ts tk : TA} {C : Addr} {m : Str} {sp : Sp} {E : XK} {gV : List V → List V → List V}
theorem go_methK (h : ta σ H fun x H1 => ∃ a dx fs, x = .ref a ∧ H1 a = some (.ins C dx fs) ∧ fs.lookup m = none ∧ ts σ H1 fun vs H2 => tk σ H2 fun zs H3 => sp (gV (x :: vs) zs) H3 Q E) : tMethK C m sp gV E ta ts tk σ H Q := h
theorem go_callK (h : ts σ H fun vs H1 => tk σ H1 fun zs H2 => sp (gV vs zs) H2 Q E) : tCallK sp gV E ts tk σ H Q := h
end
end Vc

/-! Sup: an own exception over own classes over ValueError, whose __init__ begins super().__init__('text') (my own; ways of HandS.Call's fn_of, HandS.ExcInit and KE.KExcSuper). -/
namespace Vc
open PySem PySem.Spec PyProof.Rows L2 PySem.W
/-- a def with the free cell __class__ -/
structure SupScope (N P : List Str) (sc : Scope) : Prop where
  kind : sc.kind = .function
  co : sc.isCoroutine = false
  gen : sc.isGenerator = false
  nd : N.Nodup
  pre : N.take P.length = P
  par : ∀ x ∈ P, sc.names.lookup x = some .local
  nocell : ∀ y ∈ sc.names, y.2 ≠ .cell
  free1 : ∀ y ∈ sc.names, y.2 = .free → y.1 = "__class__"
  cls : sc.names.lookup ("__class__" : Str) = some .free
  sup : sc.names.lookup ("super" : Str) = some .globalImplicit
/-- the context of such a def's body -/
def cxS (CX : CXT) (P : Program) (w : World) (K : PySem.W.Frag) (mg : Str → Option Value) (base : Heap) (N : List Str) (qual : Str) (scope : Scope) (f : Addr) (cd : Value) (cc : Addr) (A : Around) (outer : List Env) (s : Shared) (H : Hp) (E : XK) : Cx where
  prog := P
  w := w
  K := K
  mg := mg
  base := base
  A := A.deeper (ksEnv qual scope s.heap.objs.size f cd cc)
  N := N
  s_0 := s
  H_0 := H
  env := ksEnv qual scope s.heap.objs.size f cd cc
  outer := outer
  stack := ksEnv qual scope s.heap.objs.size f cd cc :: outer
  ex := []
  calm := true
  fn := fun y => !(y == ("__class__" : Str))
  pn := []
  xe := fun e s' => wpAny (model P w) (A.deeper (ksEnv qual scope s.heap.objs.size f cd cc)) (leaving (ksEnv qual scope s.heap.objs.size f cd cc) e) (fun _ s'' => CX outer H s E e s'') (fun e' s'' => CX outer H s E e' s'') s'
theorem cell1 {x : Str} {c cc : Addr} (h : List.lookup x [(("__class__" : Str), cc)] = some c) : x = "__class__" ∧ c = cc := by
  by_cases e : (x == ("__class__" : Str)) = true
  · rw [List.lookup_cons, e] at h
    exact ⟨eq_of_beq e, (Option.some.inj h).symm⟩
  · rw [List.lookup_cons, Bool.eq_false_iff.mpr e] at h
    cases h
theorem lookup_rev : ∀ {ps : List Str} {us : List Value} {i : Nat} {y : Str} {u : Value}, ps.Nodup → ps[i]? = some y → us[i]? = some u → (ps.zip us).reverse.lookup y = some u := by
  have key : ∀ {l : List (Str × Value)} {y : Str} {u : Value}, (l.map (·.1)).Nodup → (y, u) ∈ l → l.lookup y = some u := by
    intro l
    induction l with
    | nil => intro y u _ h; cases h
    | cons p r ih =>
      intro y u nd h
      rw [List.map_cons, List.nodup_cons] at nd
      rcases List.mem_cons.mp h with e | h
      · subst e; simp [List.lookup]
      · have ne : (y == p.1) = false := by
          rw [beq_eq_false_iff_ne]
          intro e
          exact nd.1 (e ▸ List.mem_map.mpr ⟨(y, u), h, rfl⟩)
        rw [List.lookup_cons, ne]
        exact ih nd.2 h
  intro ps us i y u nd h1 h2
  refine key ?_ ?_
  · rw [List.map_reverse]
    refine List.pairwise_reverse.mpr ?_
    have h3 : ((ps.zip us).map (·.1)).Nodup := nd.sublist (by
      have : (ps.zip us).map (·.1) = ps.take us.length := by
        clear key h1 h2 nd
        induction ps generalizing us with
        | nil => simp
        | cons p r ih =>
          cases us with
          | nil => simp
          | cons u t => simp [ih]
      rw [this]
      exact List.take_sublist _ _)
    exact h3.imp fun h => h.symm
  · rw [List.mem_reverse]
    refine List.mem_iff_getElem?.mpr ⟨i, ?_⟩
    rw [List.getElem?_zip_eq_some]
    exact ⟨h1, h2⟩
theorem inv_sup {CX : CXT} {P : Program} {w : World} {K : PySem.W.Frag} {mg : Str → Option Value} {base : Heap} {N ps : List Str} {qual : Str} {scope : Scope} {f cc : Addr} {cd : Value} {A : Around} {outer : List Env} {s : Shared} {H : Hp} {E : XK} {us : List Value} {vs : List V} {h1 : Heap} {tk : Nat} {oc cv : Value} {od : Option Addr} {sl : Array (Option Value)}
    (S : SupScope N ps scope) (hd : A.handled = none) (e0 : Env0 P w K mg base A outer s H) (hl : vs.length = ps.length) (r : Vals vs us) (hcell : K.lookup cc = some ⟨oc, od, .cell (some cv), sl⟩)
    (ns : h1.Ns s.heap.objs.size (fun x => (ps.zip us).reverse.lookup x)) (hk : ∀ b o, s.heap.get? b = some o → h1.get? b = some o) :
    Inv (cxS CX P w K mg base N qual scope f cd cc A outer s H E) [] (start N vs) H { s with heap := h1, toks := tk } := by
  have hpl : ps.length ≤ N.length := by have := congrArg List.length S.pre; rw [List.length_take] at this; omega
  have hK : base.get? cc = some ⟨oc, od, .cell (some cv), sl⟩ := e0.mod.kin _ _ hcell
  have hs := e0.bs _ _ hK
  refine ⟨⟨e0.mod, S.kind, rfl, rfl, Nat.le_refl _, fun y z c h1 h2 => ?_, fun y hy => ?_, fun y c hf h => ?_, fun _ => hd, Around.frames_deeper e0.frames, .inr ⟨rfl, rfl⟩, fun b z => absurd (show b ∈ ([] : List Addr) from z) (by simp), e0.bs, e0.bsz, fun b _ _ z => absurd (show b ∈ ([] : List Addr) from z) (by simp), fun b z => absurd (show b ∈ ([] : List Addr) from z) (by simp), e0.funs, e0.frf⟩,
    rfl, e0.bare, Un.kept hk, ⟨_, ns, fun i y v h1 h2 h3 => ?_⟩, fun y c h => ?_, e0.hok.fresh (Nat.le_refl _), fun y c h => ?_, fun p hp => absurd (show p ∈ ([] : List (Addr × Obj)) from hp) (by simp), e0.hok.kept hk, ?_⟩
  · exact (cell1 h1).1.trans (cell1 h2).1.symm
  · have hy : scope.names.lookup y = some .cell ∨ scope.names.lookup y = some .free := hy
    rcases hy with hy | hy
    · exact absurd rfl (S.nocell _ (PySem.mem_of_lookup hy))
    · have := S.free1 _ (PySem.mem_of_lookup hy) rfl
      have : y = "__class__" := this
      subst this
      exact ⟨cc, by show List.lookup _ [_] = _; simp [List.lookup]⟩
  · have := (cell1 h).1
    subst this
    cases (show (!((("__class__" : Str)) == ("__class__" : Str))) = true from hf)
  · have hi : i < vs.length := by
      unfold L2.start at h2
      by_cases hi : i < vs.length
      · exact hi
      · rw [List.getElem?_append_right (by simpa using hi)] at h2
        rw [List.getElem?_replicate] at h2
        split at h2 <;> cases h2
    have ha : vs[i]? = some v := by
      unfold L2.start at h2
      rw [List.getElem?_append_left (by simpa using hi), List.getElem?_map] at h2
      cases e : vs[i]? with
      | none => rw [e] at h2; cases h2
      | some a => rw [e] at h2; cases h2; rfl
    obtain ⟨u, hu, rv⟩ := r.get ha
    have hp : ps[i]? = some y := by
      rw [← S.pre, List.getElem?_take_of_lt (by omega)]; exact h1
    have ndP : ps.Nodup := by rw [← S.pre]; exact S.nd.sublist (List.take_sublist _ _)
    exact ⟨u, rv, .inl ⟨S.par y (List.mem_of_getElem? hp), lookup_rev ndP hp hu⟩⟩
  · rw [(cell1 h).2]
    exact ⟨_, _, hk _ _ hs.1, rfl⟩
  · rw [(cell1 h).2]
    exact hs.2
  · unfold L2.start
    show _ = N.length
    rw [List.length_append, List.length_map, List.length_replicate]
    omega
section
variable {prog : Program} {w : World} {A : Around} {E : Value → Shared → Prop} {h : Heap} {g : Array GenState} {d : Drawn} {t : Nat} {os : OsState}
variable {nm q : Str} {C N : Addr} {bs bm : List Value} {hdct : Bool} {sn : List Str} {sub : List Value} {ab : Bool} {col : Option Bool} {dd : Option Addr} {k0 k1 k2 k3 k5 : Option Value}
/-- the bound ValueError.__init__ called -/
theorem call_bv {u e t0 : Addr} {rest : List Value} {Q : Value → Shared → Prop}
    (hC : h.get? C = some (excClassObj nm q C N bs bm hdct sn sub ab col dd k0 k1 k2 k3 k5 "ValueError.__new__")) (he : h.get? e = some (HandSPX.excO C t0)) (hu : h.get? u = some (kxs_mw "ValueError.__init__" e)) (hrest : rest.length ≤ sizeLine)
    (hq : ∀ h' t1, (∀ b o, b ≠ e → h.get? b = some o → h'.get? b = some o) → h'.get? e = some (HandSPX.excO C t1) → Q .none ⟨h', g, d, t, os⟩) :
    wpAny (model prog w) A (call (.ref u) rest) Q E ⟨h, g, d, t, os⟩ := by
  refine wpAny_call (codeAny_of_tree ?_)
  show wpAny _ A.in1 (callAny (.ref u) ⟨rest, []⟩) _ _ _
  simp only [callAny]
  refine wpAny_bind (wpAny_load hu ?_)
  simp only [kxs_mw, show (Value.type "method-wrapper" == Value.type "method" || Value.type "method-wrapper" == Value.type "builtin_function_or_method" || Value.type "method-wrapper" == Value.type "method-wrapper") = true by decide, if_true]
  refine W.KFB.if_so (by decide) ?_
  refine wpAny_bind (check_bound_init F.excBase_ValueError.toExcCallFacts hC he rfl ?_)
  refine wpAny_bind (wpAny_pure (wpAny_pure ?_))
  refine ⟨Code.quiet_builtin _ (by decide +kernel), codeAny_builtin F.excBase_ValueError.initEntry ?_⟩
  rw [Around.under_plainId F.excBase_ValueError.init.plain _]
  wp_walk
  refine hq _ h.objs.size (fun b o hb ho => ?_) ?_
  · rw [Heap.get?_update_other _ _ (Ne.symm hb)]
    exact Heap.get?_push_of_some _ ho
  · rw [Heap.get?_update_self _ (Heap.get?_push_of_some _ he) rfl]
    rfl
end
/-- what super() asks for in the __init__ of the class at C -/
structure SupF (P : Program) (K : PySem.W.Frag) (mg : Str → Option Value) (f cda cc C : Addr) (fd : FuncData) (sv : Str) : Prop where
  lk : ∃ oc od sl, K.lookup f = some ⟨oc, od, .func fd, sl⟩
  par : ∃ ar : Arg, (fd.params.posonlyargs ++ fd.params.args).head? = some ar ∧ ar.arg = sv
  code : ∃ ccl cdd vs ccs file tf, K.lookup cda = some ⟨ccl, cdd, .fields vs, ccs⟩ ∧ vs[2]? = some (.str file tf) ∧ ((P.main.file : Str) == file) = true
  cell : ∃ cl cld csl, K.lookup cc = some ⟨cl, cld, .cell (some (.ref C)), csl⟩
  sub : mroIn K C (.ref C) = some true
  init : ks_superIn K C C "__init__" = some (some (.builtin "ValueError.__init__"))
  subV : subIn K (.ref C) (.type "ValueError") = some true
  nosup : mg "super" = none
  noop : nsIn K cStatics "thirdparty.any" = some none
  top : (P.main.scope.names.lookup ("super" : Str)).isSome = false
section
variable {CX : CXT} {P : Program} {w : World} {K : PySem.W.Frag} {mg : Str → Option Value} {base : Heap} {N ps : List Str} {qual : Str} {scope : Scope} {f cc cda C a : Addr} {A : Around} {outer : List Env} {s0 s : Shared} {H0 H : Hp} {E0' : XK} {pins : List (Addr × Obj)} {σ : L2.St} {fd : FuncData} {sv : Str} {body : List Stmt} {p0 p1 ap cp pos spos : Pos} {x : Str} {nk : Nat} {pl : Sem Bool}
theorem sup_stmt {e : Expr} {Q : Flow → Shared → Prop} (S : SupScope N ps scope) (SF : SupF P K mg f cda cc C fd sv) (T : OexC K C) (I : Inv (cxS CX P w K mg base N qual scope f (.ref cda) cc A outer s0 H0 E0') pins σ H s) (hN : N[0]? = some sv) (hself : scope.names.lookup sv = some .local) (hσ : σ[0]? = some (some (.ref a))) (ea : H a = some (exo a C none))
    (he : PE (cxS CX P w K mg base N qual scope f (.ref cda) cc A outer s0 H0 E0') e (tC (.str x))) (h : ∀ s', Inv (cxS CX P w K mg base N qual scope f (.ref cda) cc A outer s0 H0 E0') pins σ H s' → Q .next s')
    (hi : interactive (ksEnv qual scope s0.heap.objs.size f (.ref cda) cc) = false)
    (hs : swapsWith (.Call (.Attribute (.Call (.Name "super" p0) [] [] p1) "__init__" ap) [e] [] pos) none spos.line (ksEnv qual scope s0.heap.objs.size f (.ref cda) cc) = pure false)
    (hst : starEach [e] (ksEnv qual scope s0.heap.objs.size f (.ref cda) cc) = (false, eval e (ksEnv qual scope s0.heap.objs.size f (.ref cda) cc)) :: starEach [] (ksEnv qual scope s0.heap.objs.size f (.ref cda) cc))
    (ht : eval (.Call (.Attribute (.Call (.Name "super" p0) [] [] p1) "__init__" ap) [e] [] pos) (ksEnv qual scope s0.heap.objs.size f (.ref cda) cc) = (do
      let ov ← attributeBase (.Call (.Name "super" p0) [] [] p1) "__init__" (ksEnv qual scope s0.heap.objs.size f (.ref cda) cc) (eval (.Call (.Name "super" p0) [] [] p1) (ksEnv qual scope s0.heap.objs.size f (.ref cda) cc))
      standAt ap.atName
      let (fm, first) ← holding [ov] (getMethod ov "__init__" pl)
      callWith pos fm first (backTo pos (starEach [e] (ksEnv qual scope s0.heap.objs.size f (.ref cda) cc))) (backToKw pos (keywordEach [] (ksEnv qual scope s0.heap.objs.size f (.ref cda) cc))))) :
    _root_.PySem.wpAt (model P w) (cxS CX P w K mg base N qual scope f (.ref cda) cc A outer s0 H0 E0').A (.func body (ksEnv qual scope s0.heap.objs.size f (.ref cda) cc)) (exec (.Expr (.Call (.Attribute (.Call (.Name "super" p0) [] [] p1) "__init__" ap) [e] [] pos) spos) (ksEnv qual scope s0.heap.objs.size f (.ref cda) cc)) Q (cxS CX P w K mg base N qual scope f (.ref cda) cc A outer s0 H0 E0').xe s := by
  obtain ⟨_, _, _, lkf⟩ := SF.lk
  obtain ⟨ar, hp, rfl⟩ := SF.par
  obtain ⟨_, _, vs, _, file, tf, lkc, hvs, hfile⟩ := SF.code
  obtain ⟨_, _, _, lkl⟩ := SF.cell
  have KX : K.In s.heap := I.kIn
  refine ks_wpAt_Expr_any ?_ hi hs
  refine ks_wpAt_MethodCall (pl := pl) ?_ ht
  refine ks_wpAt_super_base (env := ksEnv qual scope s0.heap.objs.size f (.ref cda) cc) S.sup S.cls (by decide) rfl (KX _ _ lkf) rfl hp rfl (KX _ _ lkc) rfl hvs hfile SF.top ?_
  obtain ⟨mb, hb1, hb2⟩ := I.mod.blt
  have hboot : bootBuiltins "super" = some (.type "super") := by decide +kernel
  refine ks_loadName_global S.kind S.sup (Calls.loadGlobal_builtin (I.mod.glob.keeps I.bk) SF.nosup (hb1.keeps I.bk) ((hb2 "super" (by decide)).trans hboot) ⟨rfl, ?_⟩)
  refine wpAny_loadName_free S.kind S.cls (c := cc) (by simp [List.lookup]) ⟨_, KX _ _ lkl, rfl⟩ ?_
  obtain ⟨m, ns, hm⟩ := id I.loc
  obtain ⟨u, ru, lu⟩ := hm 0 _ _ hN hσ (.inl hself)
  obtain rfl : u = Value.ref a := ru
  have hma : m ar.arg = some (.ref a) := by
    rcases lu with ⟨_, e⟩ | ⟨k | k, _⟩
    · exact e
    · have k : scope.names.lookup ar.arg = some .cell := k
      rw [hself] at k; cases k
    · have k : scope.names.lookup ar.arg = some .free := k
      rw [hself] at k; cases k
  refine wpAny_loadName_local S.kind hself ns hma ?_
  obtain ⟨nm, q, Nn, bs, bm, sn, sub, ab, col, dd, k0, k1, k2, k3, k5, hC, hbm⟩ := T.cls
  obtain ⟨t1, ho⟩ := exo_at I.hok ea
  have hCh := KX _ _ hC
  obtain ⟨hh, g, d, t, os⟩ := s
  refine ks_wpAny_isType_cls hCh rfl ⟨rfl, ?_⟩
  refine ks_wpAny_call_super hCh rfl ho rfl (fun c z => by cases z) (looks_mroIn KX SF.sub) fun h' hso hk => ?_
  have KX' : K.In h' := KX.keeps hk
  have hcl : clsIn K C = some { name := nm, bases := bs, mro := .ref C :: bm, ns := Nn, qualname := q, hasDict := true, slotNames := sn, subclasses := sub, abstract := ab, collection := col, hasDel := false } := by unfold clsIn; rw [hC] <;> rfl
  have IA : InstAt h' a { cls := .ref C, dict := none, data := .fields #[.ref t1, .none, .none, .none, .bool false, .none] } C none := ⟨hk _ _ ho, rfl, rfl, trivial⟩
  have hsi := SF.init
  unfold ks_superIn at hsi
  rw [hcl, Option.bind_some] at hsi
  refine kxs_getMethod kxs_ValueError hso (looks_opaque KX' SF.noop) (l₀ := .ref C :: bm) ?_ rfl KX' hsi (IA.type.andThen (looks_subIn KX' SF.subV)) (ks_ne KX' IA hcl) (by decide) ?_
  · exact fun A Q E s k q => wpAny_bind ((looks_clsIn KX' hcl) A _ E s k (wpAny_pure q))
  have hk2 : ∀ b o, hh.get? b = some o → (h'.push (kxs_mw "ValueError.__init__" a)).get? b = some o := fun b o z => Heap.get?_push_of_some _ (hk b o z)
  have I2 : Inv (cxS CX P w K mg base N qual scope f (.ref cda) cc A outer s0 H0 E0') pins σ H ⟨h'.push (kxs_mw "ValueError.__init__" a), g, d, t + 1, os⟩ := I.kept (t' := t + 1) hk2
  have hu : (h'.push (kxs_mw "ValueError.__init__" a)).get? h'.objs.size = some (kxs_mw "ValueError.__init__" a) := Heap.get?_push_at rfl rfl
  have hsz : hh.objs.size ≤ h'.objs.size := Nat.le_of_lt (Nat.lt_of_le_of_lt (Nat.le_refl _) (Heap.lt_size hso))
  have I3 := I2.pins_of (pins' := (h'.objs.size, kxs_mw "ValueError.__init__" a) :: pins) fun p hp => by
    rcases List.mem_cons.mp hp with e | hp
    · subst e
      exact ⟨hu, I.hok.fresh hsz, fun z => absurd (Nat.lt_of_lt_of_le I.lt hsz) (by have z : h'.objs.size = _ := z; rw [z]; exact Nat.lt_irrefl _), I.nofs hsz, fun v z => by cases z⟩
    · exact I2.pin p (List.mem_append_right _ hp)
  have hev := (pa_cons he pa_nil (hs := hst)).run pos _ _ σ H (fun vs H1 => vs = [.str x] ∧ H1 = H) I3 ⟨rfl, rfl⟩
  have hst2 : starEach [e] (cxS CX P w K mg base N qual scope f (.ref cda) cc A outer s0 H0 E0').env = (false, eval e (cxS CX P w K mg base N qual scope f (.ref cda) cc A outer s0 H0 E0').env) :: starEach [] (cxS CX P w K mg base N qual scope f (.ref cda) cc A outer s0 H0 E0').env := hst
  rw [hst2] at hev
  show wpAny _ _ (callWith pos (.ref h'.objs.size) [] (backTo pos (starEach [e] (ksEnv qual scope s0.heap.objs.size f (.ref cda) cc))) []) _ _ _
  rw [hst]
  refine kxs_callWith (i := "ValueError.__init__") (x := a) (by rfl) ?_
  refine PySem.Calls.evalArgs_plain (thn hev fun us s1 ⟨vs, H1, I4, r1, ev, eH⟩ => ?_)
  subst ev eH
  have hu4 := (I4.pin (h'.objs.size, kxs_mw "ValueError.__init__" a) (List.mem_append_right _ (List.mem_cons_self ..))).1
  refine ⟨hu4, ?_⟩
  have I5 : Inv (cxS CX P w K mg base N qual scope f (.ref cda) cc A outer s0 H0 E0') pins σ H1 s1 := I4.pins_of fun p hp => I4.pin p (List.mem_append_right _ (List.mem_cons_of_mem _ hp))
  have hC5 := I5.kIn _ _ hC
  obtain ⟨t5, ho5⟩ := exo_at I5.hok ea
  obtain ⟨hh5, g5, d5, tk5, os5⟩ := s1
  have hlen : us.length = 1 := by rw [← Paired.length r1]; rfl
  refine call_bv (rest := [] ++ us) hC5 ho5 hu4 (by rw [List.nil_append, hlen, sizeLine_eq]; omega) fun h6 t6 k6 hx6 => ?_
  have J := I5.write (t' := tk5) (x := a) (e := a) (o := exo a C none) (by rw [ea]; exact True.intro) (.inl rfl) k6 ⟨_, hx6⟩ (exo_ok hx6)
  have eu : upd H1 a (exo a C none) = H1 := by
    funext b
    by_cases hb : b = a
    · rw [hb, upd_same, ea]
    · rw [upd_ne hb]
  rw [eu] at J
  exact h _ J
/-- as Fun, for a def with the free cell __class__ at cc -/
structure FunS (P : Program) (K : PySem.W.Frag) (mg : Str → Option Value) (x qual : Str) (st : Stmt) (f : Addr) (fd : FuncData) (C : Addr) (sv : Str) : Prop where
  ex : ∃ (oc : Value) (od : Option Addr) (kV doc pm : Value) (an : Option Addr) (cda cc : Addr) (ct : Value) (osl : Array (Option Value)),
    fd = ksFn x qual (defArgs st) (defBody st) (defScope st) .none kV doc pm an (.ref cda) ct cc ∧ K.lookup f = some ⟨oc, od, .func fd, osl⟩ ∧ PySem.W.codeIn K (.ref cda) qual = true ∧ SupF P K mg f cda cc C fd sv
  kp : PySem.W.keepIn K (.ref f) = true
theorem FunS.ok {P : Program} {w : World} {K : PySem.W.Frag} {mg : Str → Option Value} {base : Heap} {CX : CXT} {x qual : Str} {st : Stmt} {rest : List Stmt} {f C : Addr} {fd : FuncData} {sv : Str} {N ps : List Str} {k : Nat} {sp : Sp} {e : Expr} {z : Str} {p0 p1 ap pos spos : Pos} {pl : Sem Bool}
    (F : FunS P K mg x qual st f fd C sv) (S : SupScope N ps (defScope st)) (T : OexC K C) (hb : defBody st = .Expr (.Call (.Attribute (.Call (.Name "super" p0) [] [] p1) "__init__" ap) [e] [] pos) spos :: rest) (hN : N[0]? = some sv) (hself : (defScope st).names.lookup sv = some .local)
    (len : ∀ vs H Q E, sp vs H Q E → vs.length = ps.length)
    (hE : ∀ (X : Cx), PE X e (tC (.str z)))
    (hi : ∀ L cd cc, interactive (ksEnv qual (defScope st) L f cd cc) = false)
    (hs : ∀ L cd cc, swapsWith (.Call (.Attribute (.Call (.Name "super" p0) [] [] p1) "__init__" ap) [e] [] pos) none spos.line (ksEnv qual (defScope st) L f cd cc) = pure false)
    (hst : ∀ L cd cc, starEach [e] (ksEnv qual (defScope st) L f cd cc) = (false, eval e (ksEnv qual (defScope st) L f cd cc)) :: starEach [] (ksEnv qual (defScope st) L f cd cc))
    (ht : ∀ L cd cc, eval (.Call (.Attribute (.Call (.Name "super" p0) [] [] p1) "__init__" ap) [e] [] pos) (ksEnv qual (defScope st) L f cd cc) = (do
      let ov ← attributeBase (.Call (.Name "super" p0) [] [] p1) "__init__" (ksEnv qual (defScope st) L f cd cc) (eval (.Call (.Name "super" p0) [] [] p1) (ksEnv qual (defScope st) L f cd cc))
      standAt ap.atName
      let (fm, first) ← holding [ov] (getMethod ov "__init__" pl)
      callWith pos fm first (backTo pos (starEach [e] (ksEnv qual (defScope st) L f cd cc))) (backToKw pos (keywordEach [] (ksEnv qual (defScope st) L f cd cc)))))
    (hbody : ∀ (cda cc : Addr) (A : Around) (outer : List Env) (s : Shared) (H : Hp) (vs : List V) (Q : VK) (E : XK), sp vs H Q E →
      ∃ a, vs[0]? = some (.ref a) ∧ H a = some (exo a C none) ∧ ∃ t, PSs (cxS CX P w K mg base N qual (defScope st) f (.ref cda) cc A outer s H E) rest t ∧ t { nx := fun _ H' => Q .non H', rt := Q } (start N vs) H) :
    FnOk P w K mg base CX (k + 1) f fd ps sp := by
  obtain ⟨oc, od, kV, doc, pm, an, cda, cc, ct, osl, rfl, lk, hcd, SF⟩ := F.ex
  refine ⟨len, fun A outer s H args us vs Q E hr e0 hbd r hsp => ?_⟩
  have hl := len _ _ _ _ hsp
  have KX : K.In s.heap := e0.mod.kin.keeps fun b o e => (e0.bs b o e).1
  have lim : s.heap.NoLimit := e0.mod.nolimit.keeps fun b o e => (e0.bs b o e).1
  obtain ⟨_, _, _, lkl⟩ := SF.cell
  obtain ⟨a, ha, ea, t, ht2, hq⟩ := hbody cda cc A outer s H vs Q E hsp
  refine ks_codeAny_call_defAt hr.depth (KX _ _ lk) rfl lim (PySem.W.codeRec_of KX hcd) rfl hbd S.nocell (fun y hy => S.par y.1 (List.of_mem_zip (show (y.1, y.2) ∈ _ from hy)).1) (fun h₀ hns hk => ?_) S.co S.gen S.kind
  have I : Inv (cxS CX P w K mg base N qual (defScope st) f (.ref cda) cc A outer s H E) [] (start N vs) H { s with heap := h₀, toks := s.toks + (ps.zip us).length } := inv_sup S hr.hd e0 hl r lkl hns hk
  have fin : ∀ {σ' : L2.St} {H' : Hp} {v : V} {u : Value} {s' : Shared}, Inv (cxS CX P w K mg base N qual (defScope st) f (.ref cda) cc A outer s H E) [] σ' H' s' → RelV v u → Q v H' → CE outer P w H s Q u s' :=
    fun {σ' H' v u s'} J rv q => ⟨v, H', J.os, J.bare, J.base, J.hok, rv, q⟩
  have hσ : (start N vs)[0]? = some (some (.ref a)) := by
    have h0 : 0 < vs.length := by
      rcases Nat.eq_zero_or_pos vs.length with z | z
      · rw [List.eq_nil_of_length_eq_zero z] at ha; cases ha
      · exact z
    unfold L2.start
    rw [List.getElem?_append_left (by simpa using h0), List.getElem?_map, ha]; rfl
  rw [hb]
  refine ks_wpAt_execs_cons (sup_stmt S SF T I hN hself hσ ea (hE _) (fun s' I' => ?_) (hi _ _ _) (hs _ _ _) (hst _ _ _) (ht _ _ _))
  refine wpAt_of_wpAny (wpAny_mono (ht2.run [] s' (start N vs) H _ I' hq) (fun fl s2 hs2 => ?_) fun e s' hs => hs)
  cases fl with
  | ret u =>
    obtain ⟨v, σ', H', J, rv, q⟩ := hs2
    exact fin J rv q
  | next =>
    obtain ⟨σ', H', J, q⟩ := hs2
    exact fin (v := V.non) (u := Value.none) J rfl q
  | brk =>
    obtain ⟨_, _, _, q⟩ := hs2
    exact False.elim q
  | cont =>
    obtain ⟨_, _, _, q⟩ := hs2
    exact False.elim q
/-- how its arguments bind (no defaults) -/
theorem FunS.binds {P : Program} {K : PySem.W.Frag} {mg : Str → Option Value} {x qual : Str} {st : Stmt} {f C : Addr} {fd : FuncData} {sv : Str} {ps : List Str} (F : FunS P K mg x qual st f fd C sv)
    (h : ∀ (kV doc pm : Value) (an : Option Addr) (cda cc : Addr) (ct : Value) (us : List Value), us.length = ps.length → bindArgs (ksFn x qual (defArgs st) (defBody st) (defScope st) .none kV doc pm an (.ref cda) ct cc) ⟨us, []⟩ = pure (ps.zip us)) : Binds K fd ps [] := by
  obtain ⟨oc, od, kV, doc, pm, an, cda, cc, ct, osl, rfl, lk, hcd, SF⟩ := F.ex
  exact .all (h kV doc pm an cda cc ct)
end
end Vc

/-! Exc: own errors raised with their fields, asked and read in a suite; calls of instances that may raise (my own, over HandS' rules for exceptions). -/
namespace Vc
open PySem PySem.Spec PyProof.Rows L2
/-! ### __init__ of an error with one field, with two -/
def spErr1 (C : Addr) (f : Str) : Sp := fun vs H Q _ => ∃ (a : Addr) (v : V), vs = [.ref a, v] ∧ H a = some (exo a C none) ∧ ∀ d, H d = none → d ≠ a → Q .non (upd (upd H d (exd d [(f, v)])) a (exo a C (some d)))
def spErr2 (C : Addr) (f g : Str) : Sp := fun vs H Q _ => ∃ (a : Addr) (v u : V), vs = [.ref a, v, u] ∧ H a = some (exo a C none) ∧ ∀ d, H d = none → d ≠ a → Q .non (upd (upd (upd H d (exd d [(f, v)])) a (exo a C (some d))) d (exd d [(g, u), (f, v)]))
/-- what X(v) leaves, in one word -/
theorem mk_err {C : Addr} {fs : List (Str × V)} {H1 H2 : Hp} {Q : XK} {a d : Addr} (na : H1 a = none) (nd : H1 d = none) (ne : d ≠ a) (hx : ∀ b, b ≠ a → b ≠ d → H2 b = H1 b)
    (q : ∀ d H', H1 d = none → Ed [] H1 H' → H' d = some (.xd fs) → Q (.ref C) (some d) H') : Q (.ref C) (some d) (upd (del H2 a) d (.xd fs)) := by
  have keep : ∀ b o, H1 b = some o → (upd (del H2 a) d (.xd fs)) b = some o := fun b o e => by
    have ha : b ≠ a := ne_of_none e na
    have hd : b ≠ d := ne_of_none e nd
    rw [upd_ne hd, del_ne ha, hx b ha hd]; exact e
  refine q d _ nd ⟨fun b o _ e => keep b o e, fun b xs e => keep b _ e, fun b o u e => keep b _ e, fun b e => ?_⟩ upd_same
  by_cases hd : b = d
  · rw [hd, upd_same] at e; cases e
  · rw [upd_ne hd] at e
    by_cases ha : b = a
    · rw [ha]; exact na
    · rw [del_ne ha, hx b ha hd] at e; exact e
theorem go_err1 {C : Addr} {f : Str} {v : V} {H1 : Hp} {Q : XK} (q : ∀ d H', H1 d = none → Ed [] H1 H' → H' d = some (.xd [(f, v)]) → Q (.ref C) (some d) H') :
    [v].length ≤ 1000 ∧ ∀ a, H1 a = none → spErr1 C f (.ref a :: ([v] ++ [])) (upd H1 a (exo a C none)) (fun v' H2 => v' = .non ∧ ∃ (d : Addr) (fs : List (Str × V)), H2 a = some (exo a C (some d)) ∧ H2 d = some (exd d fs) ∧ H1 d = none ∧ Q (.ref C) (some d) (upd (del H2 a) d (.xd fs))) (fun _ _ _ => False) := by
  refine ⟨by show 1 ≤ 1000; decide, fun a na => ⟨a, v, rfl, upd_same, fun d nd ne => ⟨rfl, d, [(f, v)], upd_same, ?_, ?_, ?_⟩⟩⟩
  · rw [upd_ne ne]; exact upd_same
  · rw [upd_ne ne] at nd; exact nd
  · refine mk_err na (by rw [upd_ne ne] at nd; exact nd) ne (fun b h1 h2 => ?_) q
    rw [upd_ne h1, upd_ne h2, upd_ne h1]
theorem go_err2 {C : Addr} {f g : Str} {v u : V} {H1 : Hp} {Q : XK} (q : ∀ d H', H1 d = none → Ed [] H1 H' → H' d = some (.xd [(g, u), (f, v)]) → Q (.ref C) (some d) H') :
    [v, u].length ≤ 1000 ∧ ∀ a, H1 a = none → spErr2 C f g (.ref a :: ([v, u] ++ [])) (upd H1 a (exo a C none)) (fun v' H2 => v' = .non ∧ ∃ (d : Addr) (fs : List (Str × V)), H2 a = some (exo a C (some d)) ∧ H2 d = some (exd d fs) ∧ H1 d = none ∧ Q (.ref C) (some d) (upd (del H2 a) d (.xd fs))) (fun _ _ _ => False) := by
  refine ⟨by show 2 ≤ 1000; decide, fun a na => ⟨a, v, u, rfl, upd_same, fun d nd ne => ⟨rfl, d, [(g, u), (f, v)], ?_, upd_same, ?_, ?_⟩⟩⟩
  · rw [upd_ne ne.symm]; exact upd_same
  · rw [upd_ne ne] at nd; exact nd
  · refine mk_err na (by rw [upd_ne ne] at nd; exact nd) ne (fun b h1 h2 => ?_) q
    rw [upd_ne h2, upd_ne h1, upd_ne h2, upd_ne h1]
theorem go_mkO {C : Addr} {sp : Sp} {ta : TA} {σ : L2.St} {H : Hp} {Q : XK} (h : ta σ H fun vs H1 => vs.length ≤ 1000 ∧ ∀ a, H1 a = none → sp (.ref a :: (vs ++ [])) (upd H1 a (exo a C none))
  (fun v H2 => v = .non ∧ ∃ (d : Addr) (fs : List (Str × V)), H2 a = some (exo a C (some d)) ∧ H2 d = some (exd d fs) ∧ H1 d = none ∧ Q (.ref C) (some d) (upd (del H2 a) d (.xd fs))) (fun _ _ _ => False)) : tMkO C sp [] ta σ H Q := h
/-- raise X(..) -/
theorem go_raise {t : L2.St → Hp → XK → Prop} {W : WX} {D : Ends} {σ : L2.St} {H : Hp} (h : t σ H fun cls d H' => W cls d σ H') : (fun (_ : Ends) σ H => t σ H fun cls d H' => W cls d σ H') D σ H := h
/-- self.f = e, the first; a further one -/
theorem go_ost {K : PySem.W.Frag} {f : Str} {to te : TE} {D : Ends} {σ : L2.St} {H : Hp} (h : te σ H fun y H1 => to σ H1 fun x H2 => ∃ a C : Addr, x = .ref a ∧ OexC K C ∧ PySem.W.findIn K (.ref C) f = some none ∧
  ((H2 a = some (exo a C none) ∧ ∀ dx, H2 dx = none → dx ≠ a → D.nx σ (upd (upd H2 dx (exd dx [(f, y)])) a (exo a C (some dx)))) ∨
    ∃ (dx : Addr) (fs : List (Str × V)), H2 a = some (exo a C (some dx)) ∧ H2 dx = some (exd dx fs) ∧ fs.length ≤ 900 ∧ D.nx σ (upd H2 dx (exd dx ((f, y) :: fs))))) : tOst K f to te D σ H := h
theorem err_ends1 {K : PySem.W.Frag} {C : Addr} {f : Str} {vs : List V} {H : Hp} {Q : VK} {E : XK} {N : List Str} (T : OexC K C) (no : PySem.W.findIn K (.ref C) f = some none) (h : spErr1 C f vs H Q E) :
    ∃ a, vs[0]? = some (.ref a) ∧ H a = some (exo a C none) ∧ tOst K f (tVar 0) (tVar 1) { nx := fun _ H' => Q .non H', rt := Q } (start N vs) H := by
  obtain ⟨a, v, rfl, ea, q⟩ := h
  exact ⟨a, rfl, ea, v, rfl, .ref a, rfl, a, C, rfl, T, no, .inl ⟨ea, q⟩⟩
theorem err_ends2 {K : PySem.W.Frag} {C : Addr} {f g : Str} {vs : List V} {H : Hp} {Q : VK} {E : XK} {N : List Str} (T : OexC K C) (no : PySem.W.findIn K (.ref C) f = some none) (no2 : PySem.W.findIn K (.ref C) g = some none) (h : spErr2 C f g vs H Q E) :
    ∃ a, vs[0]? = some (.ref a) ∧ H a = some (exo a C none) ∧ tSeq (tOst K f (tVar 0) (tVar 1)) (tOst K g (tVar 0) (tVar 2)) { nx := fun _ H' => Q .non H', rt := Q } (start N vs) H := by
  obtain ⟨a, v, u, rfl, ea, q⟩ := h
  refine ⟨a, rfl, ea, v, rfl, .ref a, rfl, a, C, rfl, T, no, .inl ⟨ea, fun d nd ne => ?_⟩⟩
  exact ⟨u, rfl, .ref a, rfl, a, C, rfl, T, no2, .inr ⟨d, _, upd_same, by rw [upd_ne ne]; exact upd_same, by show 1 ≤ 900; decide, q d nd ne⟩⟩
/-! ### in a suite: isinstance of the error, its fields -/
/-- at d stands the dict of the error -/
def XdAt (H : Hp) (d : Option Addr) : Prop := d = none ∨ ∃ dd fs, d = some dd ∧ H dd = some (.xd fs)
def rIsX (K : PySem.W.Frag) (a : Addr) (cls : Value) (d : Option Addr) : List V → Hp → VK → Prop := fun xs H Q => ∃ (D : Addr) (c : V) (cv : Value) (b : Bool), cls = .ref D ∧ ExcC K D ∧ XdAt H d ∧ xs = [.ref a, c] ∧ (∀ u, RelV c u → u = cv) ∧ PySem.W.kitOne K (.ref D) cv = some b ∧ Q (.bl b) H
theorem call_isX {X : Cx} {a : Addr} {cls : Value} {d : Option Addr} {oe : Obj} {pn : List (Addr × Obj)} (hz : Zc cls d oe) (hf : ∃ vs, oe.data = .fields vs) : CallR (X.suite a ((a, oe) :: pn)) (.builtin "isinstance") (rIsX X.K a cls d) := by
  intro pins s σ H xs us Q I r h
  obtain ⟨D, c, cv, b, rfl, C, hd, rfl, hcv, e, q⟩ := h
  cases r with
  | cons rx rr =>
    cases rr with
    | cons rt rr =>
      cases rr
      cases rx
      have ec := hcv _ rt
      subst ec
      obtain ⟨hget, _⟩ := I.pin (a, oe) (List.mem_append.mpr (.inl List.mem_cons_self))
      obtain ⟨vs, hv⟩ := hf
      obtain ⟨oc, od, oda, osl⟩ := oe
      obtain ⟨h1, h2⟩ := hz
      dsimp only at h1 h2 hv
      subst h1 h2 hv
      have hsome : (PySem.W.clsIn X.K D).isSome = true := by obtain ⟨cd, hc, _⟩ := PySem.W.any_some C.hd; rw [hc]; rfl
      rcases hd with hd | ⟨dd, fs, hd, hxd⟩
      · subst hd
        have J : PySem.W.InstAt s.heap a { cls := .ref D, dict := none, data := .fields vs, slots := osl } D none := ⟨hget, rfl, rfl, trivial⟩
        exact PySem.W.kia_one (PySem.W.handS_kitx_exc C.hg C.hk C.hs C.hd C.ha C.hn C.ht C.hm) I.kIn J e (fun z => nomatch z) fun tk => ⟨.bl b, H, I.kept (t' := tk) fun _ _ z => z, rfl, q⟩
      · subst hd
        have hx : ObjOk X.prog X.w H s.heap dd (.xd fs) := I.hok dd _ hxd
        obtain ⟨mA, hns, hr⟩ := hx
        obtain ⟨odo, ho, hl⟩ := lookIn_ns hns
        have J : PySem.W.InstAt s.heap a { cls := .ref D, dict := some dd, data := .fields vs, slots := osl } D (some odo) := ⟨hget, rfl, rfl, ho⟩
        exact PySem.W.kia_one (PySem.W.kitx_exc hsome C.hg C.hk C.hs C.ha C.hn C.ht C.hm) I.kIn J e (fun z => nomatch z) fun tk => ⟨.bl b, H, I.kept (t' := tk) fun _ _ z => z, rfl, q⟩
section
variable {K : PySem.W.Frag} {a D : Addr} {d : Option Addr} {H : Hp} {Q : VK} {b : Bool}
theorem go_isXC {c : Addr} (C : ExcC K D) (hd : XdAt H d) (hk : PySem.W.kitOne K (.ref D) (.ref c) = some b) (q : Q (.bl b) H) : rIsX K a (.ref D) d [.ref a, .ref c] H Q :=
  ⟨D, .ref c, .ref c, b, rfl, C, hd, rfl, fun _ r => r, hk, q⟩
theorem go_isXT {t : String} (C : ExcC K D) (hd : XdAt H d) (hk : PySem.W.kitOne K (.ref D) (.type t) = some b) (q : Q (.bl b) H) : rIsX K a (.ref D) d [.ref a, .ty t] H Q :=
  ⟨D, .ty t, .type t, b, rfl, C, hd, rfl, fun _ r => r, hk, q⟩
theorem go_xf {C : Addr} {f : Str} {te : TE} {σ : L2.St} {cls : Value} (h : te σ H fun x H1 => x = .ref a ∧ cls = .ref C ∧ ∃ (dd : Addr) (fs : List (Str × V)) (v : V), d = some dd ∧ H1 dd = some (.xd fs) ∧ fs.lookup f = some v ∧ Q v H1) : tXf a cls d C f te σ H Q := h
theorem go_xfV {f : Str} {dd : Addr} {fs : List (Str × V)} {v : V} {R : V → Prop} (e : H dd = some (.xd fs)) (l : fs.lookup f = some v) (h : R v) :
    V.ref a = .ref a ∧ (Value.ref D) = .ref D ∧ ∃ (d' : Addr) (fs : List (Str × V)) (v : V), some dd = some d' ∧ H d' = some (.xd fs) ∧ fs.lookup f = some v ∧ R v := ⟨rfl, rfl, dd, fs, v, rfl, e, l, h⟩
theorem xdAt {dd : Addr} {fs : List (Str × V)} (e : H dd = some (.xd fs)) : XdAt H (some dd) := .inr ⟨dd, fs, rfl, e⟩
end
/-! ### an instance called; what is raised is wished for at the caller's slots -/
section
variable {X : Cx} {CX : CXT} {k : Nat} {C g : Addr} {fd : FuncData} {ps ks : List Str} {sp : Sp} {E : L2.St → XK} {pos : Pos} {fe e : Expr} {es : List Expr} {tf : TE} {t tk : TA} {kws : List Keyword} {gk : List Value → List Value → List Value} {gV : List V → List V → List V}
def InsD (H : Hp) (a C : Addr) : Prop := ∃ dx fs, H a = some (.ins C dx fs)
theorem insD_at {pins : List (Addr × Obj)} {σ : L2.St} {H : Hp} {s : Shared} {a : Addr} (I : Inv X pins σ H s) (h : InsD H a C) : ∃ ox od, PySem.W.InstAt s.heap a ox C od ∧ ox.data = .plain := by
  obtain ⟨dx, fs, h⟩ := h
  obtain ⟨mA, O, _⟩ := ins_get I.hok h
  obtain ⟨od, J, _⟩ := O.look
  exact ⟨_, _, J, rfl⟩
def tCallI (C : Addr) (sp : Sp) (E : L2.St → XK) (tf : TE) (t : TA) : TE := fun σ H Q => tf σ H fun y H1 => ∃ a, y = V.ref a ∧ t σ H1 fun vs H2 => InsD H2 a C ∧ sp (V.ref a :: vs) H2 Q (E σ)
theorem run_callI {pins : List (Addr × Obj)} {σ : L2.St} {H : Hp} {s : Shared} {Q : VK} {a : Addr} {us : List Value} {vs : List V} (c : StX.CallO X.K C g) (F : FnOk X.prog X.w X.K X.mg X.base CX k g fd ps sp) (hr : Room k X.A) (hb : Binds X.K fd ps []) (hx : ∀ σ, PassesAt CX X σ (E σ)) (I : Inv X pins σ H s) (hi : InsD H a C) (r : Vals vs us)
    (h : sp (V.ref a :: vs) H Q (E σ)) : wpAny (model X.prog X.w) X.A (call (.ref a) us) (EP X pins σ Q) X.xe s := by
  obtain ⟨ox, od, J, hd⟩ := insD_at I hi
  have h2 : sp ((V.ref a :: vs) ++ []) H Q (E σ) := by rw [List.append_nil]; exact h
  have hl : (Value.ref a :: us).length = ps.length := by
    have r2 : Vals (V.ref a :: vs) (Value.ref a :: us) := .cons rfl r
    rw [← r2.length]; exact F.len _ _ _ _ h
  have hb' := hb s (.ref a :: us) I.kIn (by rw [List.append_nil]; exact hl)
  rw [List.append_nil] at hb'
  refine wpAny_call (PySem.W.kco_code I.kIn J hd c.at_ c.fn c.fi (codeAny_mono (F.run X.A X.stack s H ⟨.ref a :: us, []⟩ (.ref a :: us) (.ref a :: vs) Q (E σ) hr I.env0 hb' (.cons rfl r) h) fun r s' hq => ?_))
  cases r with
  | error e => exact hx σ pins H s e s' I hq
  | ok fl =>
    cases fl with
    | ret u => exact I.after hq
    | next => exact False.elim hq
    | brk => exact False.elim hq
    | cont => exact False.elim hq
theorem pe_callI (hf : PE X fe tf) (c : StX.CallO X.K C g) (F : FnOk X.prog X.w X.K X.mg X.base CX k g fd ps sp) (hr : Room k X.A) (hb : Binds X.K fd ps []) (hx : ∀ σ, PassesAt CX X σ (E σ)) (ha : PA X (e :: es) t)
    (ht : eval (.Call fe (e :: es) [] pos) X.env = (do callWith pos (← eval fe X.env) [] (backTo pos (starEach (e :: es) X.env)) (backToKw pos (keywordEach [] X.env))) := by rfl)
    (he : starEach (e :: es) X.env = (false, eval e X.env) :: starEach es X.env := by rfl) (hpl : (backTo pos (starEach es X.env)).any (·.1) = false := by rfl) : PE X (.Call fe (e :: es) [] pos) (tCallI C sp E tf t) := by
  refine ⟨fun pins s σ H Q I h => ?_⟩
  refine Call_ (thn (hf.run pins s σ H _ I h) fun u s1 ⟨y, H1, I1, ry, a, ey, q⟩ => ?_) ht
  subst ey
  obtain rfl : u = Value.ref a := ry
  refine StX.callO_with (thn (ha.run pos pins s1 σ H1 _ I1 q) fun us s2 ⟨vs, H2, I2, r, hi, q2⟩ => ?_) he hpl
  obtain ⟨ox, od, J, hd⟩ := insD_at I2 hi
  exact ⟨⟨C, ox, od, J, hd⟩, run_callI c F hr hb hx I2 hi r q2⟩
end
section
variable {σ : L2.St} {H : Hp} {Q : VK} {tf : TE} {ts : TA} {C : Addr} {sp : Sp} {E : L2.St → XK}
theorem go_callI (h : tf σ H fun y H1 => ∃ a, y = V.ref a ∧ ts σ H1 fun vs H2 => InsD H2 a C ∧ sp (V.ref a :: vs) H2 Q (E σ)) : tCallI C sp E tf ts σ H Q := h
theorem go_insD {a dx : Addr} {fs : List (Str × V)} {P : Prop} (e : H a = some (.ins C dx fs)) (h : P) : InsD H a C ∧ P := ⟨⟨dx, fs, e⟩, h⟩
theorem go_refE {a : Addr} {P : Addr → Prop} (h : P a) : ∃ a', V.ref a = .ref a' ∧ P a' := ⟨a, rfl, h⟩
end
/-! ### what is raised is wished for at the caller's slots: methods, instances made, keywords -/
theorem passS0 {X : Cx} {E : L2.St → XK} : ∀ σ, PassesAt CX0 X σ (E σ) := fun _ _ _ _ _ _ _ h => h.elim
theorem passSL {X : Cx} : ∀ σ, PassesAt (L2.CX X.prog X.w) X σ ((fun (_ : L2.St) => E0) σ) := fun σ pins H s e s' I h => passL pins σ H s e s' I h
section
variable {X : Cx} {CX : CXT} {k : Nat} {C f g : Addr} {fd : FuncData} {ps ks : List Str} {sp : Sp} {E : L2.St → XK} {x m : Str} {p pos apos : Pos} {fe e o : Expr} {es : List Expr} {tf ta : TE} {t tk : TA} {kws : List Keyword} {gk : List Value → List Value → List Value} {gV : List V → List V → List V}
def tMethS (C : Addr) (m : Str) (sp : Sp) (E : L2.St → XK) (ta : TE) (t : TA) : TE := fun σ H Q => ta σ H fun x H1 => ∃ a dx fs, x = .ref a ∧ H1 a = some (.ins C dx fs) ∧ fs.lookup m = none ∧ t σ H1 fun vs H2 => sp (x :: vs) H2 Q (E σ)
theorem pe_methS {pl : Sem Bool} (he : PE X o ta) (c : Cls X.K C) (hm : Meth X.K C m f) (F : FnOk X.prog X.w X.K X.mg X.base CX k f fd ps sp) (hr : Room k X.A) (hb : Binds X.K fd ps []) (hx : ∀ σ, PassesAt CX X σ (E σ)) (ha : PA X (e :: es) t)
    (hst : starEach (e :: es) X.env = (false, eval e X.env) :: starEach es X.env := by rfl) (hpl : (backTo pos (starEach es X.env)).any (·.1) = false := by rfl)
    (ht : eval (.Call (.Attribute o m apos) (e :: es) [] pos) X.env = (do
      let ov ← eval o X.env
      standAt apos.atName
      let (f, first) ← holding [ov] (getMethod ov m pl)
      callWith pos f first (backTo pos (starEach (e :: es) X.env)) (backToKw pos (keywordEach [] X.env))) := by rfl) :
    PE X (.Call (.Attribute o m apos) (e :: es) [] pos) (tMethS C m sp E ta t) := by
  refine ⟨fun pins s σ H Q I h => ?_⟩
  refine PySem.W.methodCall_KW (pl := pl) (thn (he.run pins s σ H _ I h) fun u s1 ⟨x, H1, I1, rx, a, dx, fs, ex, ea, l, q⟩ => ?_) ht
  subst ex
  obtain rfl : u = Value.ref a := rx
  refine getmeth_ok I1 ea c hm l ?_
  refine PySem.W.callWith_K (first := [.ref a]) (h₀ := X.base) I.ok.mod.kin hm.kp (thn (ha.run pos pins s1 σ H1 _ I1 q) fun us s2 ⟨vs, H2, I2, r, q2⟩ => ⟨I2.kIn, ?_⟩) hst hpl
  exact run_fnS (us := .ref a :: us) (vs := .ref a :: vs) F hr hb (hx σ) I2 (.cons rfl r) q2
theorem pe_methS0 {pl : Sem Bool} (he : PE X o ta) (c : Cls X.K C) (hm : Meth X.K C m f) (F : FnOk X.prog X.w X.K X.mg X.base CX k f fd ps sp) (hr : Room k X.A) (hb : Binds X.K fd ps []) (hx : ∀ σ, PassesAt CX X σ (E σ))
    (ht : eval (.Call (.Attribute o m apos) [] [] pos) X.env = (do
      let ov ← eval o X.env
      standAt apos.atName
      let (f, first) ← holding [ov] (getMethod ov m pl)
      callWith pos f first (backTo pos (starEach [] X.env)) (backToKw pos (keywordEach [] X.env))) := by rfl) :
    PE X (.Call (.Attribute o m apos) [] [] pos) (tMethS C m sp E ta tNil) := by
  refine ⟨fun pins s σ H Q I h => ?_⟩
  refine PySem.W.methodCall_KW (pl := pl) (thn (he.run pins s σ H _ I h) fun u s1 ⟨x, H1, I1, rx, a, dx, fs, ex, ea, l, q⟩ => ?_) ht
  subst ex
  obtain rfl : u = Value.ref a := rx
  refine getmeth_ok I1 ea c hm l ?_
  exact PySem.W.callWith_K0 (first := [.ref a]) I1.kIn hm.kp (run_fnS (us := [.ref a]) (vs := [.ref a]) F hr hb (hx σ) I1 (.cons rfl .nil) q)
def tMakeS (C : Addr) (sp : Sp) (E : L2.St → XK) (t : TA) : TE := fun σ H Q => t σ H fun vs H1 => ∀ x dx, H1 x = none → H1 dx = none → dx ≠ x → sp (.ref x :: vs) (upd (upd H1 dx (.own x)) x (.ins C dx [])) (fun v H2 => v = .non ∧ Q (.ref x) H2) (E σ)
theorem run_makeS {pins : List (Addr × Obj)} {σ : L2.St} {H : Hp} {s : Shared} {Q : VK} {us : List Value} {vs : List V} (M : Mk X.K C f) (F : FnOk X.prog X.w X.K X.mg X.base CX k f fd ps sp) (hr : Room (k + 1) X.A) (hb : Binds X.K fd ps [])
    (hx : PassesAt CX X σ (E σ)) (I : Inv X pins σ H s) (r : Vals vs us)
    (h : ∀ x dx, H x = none → H dx = none → dx ≠ x → sp (.ref x :: vs) (upd (upd H dx (.own x)) x (.ins C dx [])) (fun v H2 => v = .non ∧ Q (.ref x) H2) (E σ)) :
    wpAny (model X.prog X.w) X.A (call (.ref C) us) (EP X pins σ Q) X.xe s := by
  have hq := h (s.heap.objs.size + 1) s.heap.objs.size (I.hok.fresh (Nat.le_succ _)) (I.hok.fresh (Nat.le_refl _)) (Nat.ne_of_lt (Nat.lt_succ_self _))
  have I2 := Inv.made (C := C) I
  have r2 : Vals (V.ref (s.heap.objs.size + 1) :: vs) (Value.ref (s.heap.objs.size + 1) :: us) := .cons rfl r
  have hl : (Value.ref (s.heap.objs.size + 1) :: us).length = ps.length := by
    have e := r2.length
    rw [F.len _ _ _ _ hq] at e
    exact e.symm
  have hb' := hb _ (Value.ref (s.heap.objs.size + 1) :: us) I2.kIn (by rw [List.append_nil]; exact hl)
  rw [List.append_nil] at hb'
  refine wpAny_call (make_map (f := f) I.kIn M.makes M.init (beq_iff_eq.mp M.fn) (codeAny_mono (F.run _ X.stack _ _ ⟨Value.ref (s.heap.objs.size + 1) :: us, []⟩ (Value.ref (s.heap.objs.size + 1) :: us) _ _ (E σ) (hr.make C us [])
    (I2.env0.make C us []) hb' r2 hq) fun r s' hq' => ?_))
  cases r with
  | error e => exact hx pins _ _ e s' I2 hq'
  | ok fl =>
    cases fl with
    | ret u =>
      obtain ⟨v, H', I3, rv, ev, q3⟩ := I2.after hq'
      subst ev
      exact ⟨rv, ⟨V.ref (s.heap.objs.size + 1), H', I3, rfl, q3⟩⟩
    | next => exact False.elim hq'
    | brk => exact False.elim hq'
    | cont => exact False.elim hq'
theorem pe_makeS (M : Mk X.K C f) (F : FnOk X.prog X.w X.K X.mg X.base CX k f fd ps sp) (hr : Room (k + 1) X.A) (hg : Gl X x) (hm : X.mg x = some (.ref C)) (hb : Binds X.K fd ps []) (hx : ∀ σ, PassesAt CX X σ (E σ))
    (ha : PA X (e :: es) t) (hdb : (x == ("__debug__" : Str)) = false := by decide) (he : starEach (e :: es) X.env = (false, eval e X.env) :: starEach es X.env := by rfl) (hpl : (backTo pos (starEach es X.env)).any (·.1) = false := by rfl) :
    PE X (.Call (.Name x p) (e :: es) [] pos) (tMakeS C sp E t) := by
  refine ⟨fun pins s σ H Q I h => ?_⟩
  refine wpAny_Call_Name_kw (ld_glob I hg hm ?_ hdb)
  refine PySem.W.callWith_K (h₀ := X.base) I.ok.mod.kin M.kp (thn (ha.run pos pins s σ H _ I h) fun us s1 ⟨vs, H1, I1, r, q⟩ => ⟨I1.kIn, ?_⟩) he hpl
  exact run_makeS M F hr hb (hx σ) I1 r q
/-- f(k = v, ..), f an instance -/
def tCallIK (C : Addr) (sp : Sp) (gV : List V → List V → List V) (E : L2.St → XK) (tf : TE) (tk : TA) : TE := fun σ H Q => tf σ H fun y H1 => ∃ a, y = V.ref a ∧ tk σ H1 fun zs H2 => InsD H2 a C ∧ sp (gV [V.ref a] zs) H2 Q (E σ)
theorem callK_of {M : Model} {A : Around} {E : Value → Shared → Prop} {s : Shared} {a : Addr} {pos : Pos} {Q : Value → Shared → Prop} {args : List (Bool × Sem Value)} {kw : List (Option Str × Sem Value)} (hplain : (args.any (·.1) || kw.any (·.1.isNone)) = false)
    (h : wpAny M A (evalArgs (.ref a) true args kw) (fun z s₁ => (∃ C ox od, PySem.W.InstAt s₁.heap a ox C od ∧ ox.data = .plain) ∧ wpAny M A (call (.ref a) ([] ++ z.pos) z.kw) Q E s₁) E s) : wpAny M A (callWith pos (.ref a) [] args kw) Q E s := by
  unfold callWith
  refine wpAny_bind (wpAny_holding (wpAny_mono h (fun z s₁ h₁ => wpAny_bind (wpAny_standAt ?_)) fun _ _ y => y))
  obtain ⟨⟨C, ox, od, J, hd⟩, h₁⟩ := h₁
  have L := PySem.W.kco_keeper (M := M) J hd
  simp only [hplain]
  refine wpAny_bind (L.here ?_)
  have tail : ∀ {t : Sem Value}, wpAny M A t Q E s₁ → wpAny M A (t >>= fun r => holding [r] point >>= fun _ => pure r) Q E s₁ :=
    fun ht => wpAny_bind (wpAny_mono ht (fun r s₂ hr => wpAny_bind (wpAny_holding (wpAny_point (wpAny_pure hr)))) fun _ _ y => y)
  exact tail (wpAny_operateT h₁)
theorem pe_callIK (hf : PE X fe tf) (c : StX.CallO X.K C g) (F : FnOk X.prog X.w X.K X.mg X.base CX k g fd ps sp) (hr : Room k X.A) (hb : KBinds X.K fd ps ks gk gV) (hx : ∀ σ, PassesAt CX X σ (E σ)) (hkw : PK X kws tk)
    (hall : (backToKw pos (keywordEach kws X.env)).all (·.1.isSome) = true := by rfl) (hks : (backToKw pos (keywordEach kws X.env)).filterMap (·.1) = ks := by rfl)
    (hpl : ((backTo pos (starEach [] X.env)).any (·.1) || (backToKw pos (keywordEach kws X.env)).any (·.1.isNone)) = false := by rfl)
    (ht : eval (.Call fe [] kws pos) X.env = (do callWith pos (← eval fe X.env) [] (backTo pos (starEach [] X.env)) (backToKw pos (keywordEach kws X.env))) := by rfl) : PE X (.Call fe [] kws pos) (tCallIK C sp gV E tf tk) := by
  refine ⟨fun pins s σ H Q I h => ?_⟩
  rw [ht]
  refine wpAny_bind (thn (hf.run pins s σ H _ I h) fun u s1 ⟨y, H1, I1, ry, a, ey, q⟩ => ?_)
  subst ey
  obtain rfl : u = Value.ref a := ry
  refine callK_of hpl (PyProof.Rows.evalArgs_kw2_nil hall (thn (hkw.run pos pins s1 σ H1 _ I1 q) fun ws s2 ⟨zs, H2, I2, r, hi, q2⟩ => ?_))
  rw [hks]
  obtain ⟨ox, od, J, hd⟩ := insD_at I2 hi
  have r2 := hb.rel (us := [Value.ref a]) (vs := [V.ref a]) (.cons rfl .nil) r
  have hl : (gk [Value.ref a] ws).length = ps.length := by rw [← r2.length]; exact F.len _ _ _ _ q2
  refine ⟨⟨C, ox, od, J, hd⟩, wpAny_call (PySem.W.kco_code I2.kIn J hd c.at_ c.fn c.fi (codeAny_mono (F.run X.A X.stack s2 H2 ⟨[.ref a], ks.zip ws⟩ (gk [.ref a] ws) (gV [.ref a] zs) Q (E σ) hr I2.env0 (hb.to s2 [.ref a] ws I2.kIn hl) r2 q2) fun r s' hq => ?_))⟩
  cases r with
  | error e => exact hx σ pins H2 s2 e s' I2 hq
  | ok fl =>
    cases fl with
    | ret u => exact I2.after hq
    | next => exact False.elim hq
    | brk => exact False.elim hq
    | cont => exact False.elim hq
end
section
variable {σ : L2.St} {H : Hp} {Q : VK} {tf ta : TE} {ts tk : TA} {C : Addr} {m : Str} {sp : Sp} {E : L2.St → XK} {gV : List V → List V → List V}
theorem go_methS (h : ta σ H fun x H1 => ∃ a dx fs, x = .ref a ∧ H1 a = some (.ins C dx fs) ∧ fs.lookup m = none ∧ ts σ H1 fun vs H2 => sp (x :: vs) H2 Q (E σ)) : tMethS C m sp E ta ts σ H Q := h
theorem go_makeS (h : ts σ H fun vs H1 => ∀ x dx, H1 x = none → H1 dx = none → dx ≠ x → sp (.ref x :: vs) (upd (upd H1 dx (.own x)) x (.ins C dx [])) (fun v H2 => v = .non ∧ Q (.ref x) H2) (E σ)) : tMakeS C sp E ts σ H Q := h
theorem go_callIK (h : tf σ H fun y H1 => ∃ a, y = V.ref a ∧ tk σ H1 fun zs H2 => InsD H2 a C ∧ sp (gV [V.ref a] zs) H2 Q (E σ)) : tCallIK C sp gV E tf tk σ H Q := h
theorem go_callS (h : ts σ H fun vs H1 => sp vs H1 Q (E σ)) : tCallS sp E ts σ H Q := h
end
/-- the error's field, whatever its class -/
def tXfX (K : PySem.W.Frag) (a : Addr) (cls : Value) (d : Option Addr) (f : Str) (te : TE) : TE := fun σ H Q => te σ H fun x H1 => x = .ref a ∧ ∃ C, cls = .ref C ∧ XfC K C ∧ PySem.W.findIn K (.ref C) f = some none ∧ ∃ (dd : Addr) (fs : List (Str × V)) (v : V), d = some dd ∧ H1 dd = some (.xd fs) ∧ fs.lookup f = some v ∧ Q v H1
theorem pe_xfX {X : Cx} {a : Addr} {oe : Obj} {cls : Value} {d : Option Addr} {pn : List (Addr × Obj)} {e : Expr} {te : TE} {pos : Pos} {n : Str} (hz : Zc cls d oe) (hf : ∃ vs, oe.data = .fields vs) (he : PE (X.suite a ((a, oe) :: pn)) e te) (hb : attributeBase e n X.env (eval e X.env) = eval e X.env := by rfl) :
    PE (X.suite a ((a, oe) :: pn)) (.Attribute e n pos) (tXfX X.K a cls d n te) := by
  refine ⟨fun pins s σ H Q I h => ?_⟩
  refine attr_of hb (thn (he.run pins s σ H _ I h) fun u s1 hh => ?_)
  obtain ⟨x, H1, I1, rx, ex, C, ec, T, hno, dd, fs, v, ed, ea, l, q⟩ := hh
  subst ex
  obtain rfl : u = Value.ref a := rx
  subst ec
  subst ed
  obtain ⟨ha, _⟩ := I1.pin (a, oe) (List.mem_append_left _ List.mem_cons_self)
  obtain ⟨vs, hd⟩ := hf
  have hx : ObjOk X.prog X.w H1 s1.heap dd (.xd fs) := I1.hok dd _ ea
  obtain ⟨mA, hns, hr⟩ := hx
  obtain ⟨od, ho, hl⟩ := lookIn_ns hns
  obtain ⟨u, hu, ru⟩ := RelO.some_of (v := v) (o := mA n) (by rw [← l]; exact hr n)
  have J : PySem.W.InstAt s1.heap a oe C (some od) := ⟨ha, hz.1, by unfold PySem.W.notCls; rw [hd] <;> rfl, by rw [hz.2]; exact ho⟩
  exact HandSPX.exc_get I1.kIn J T.ga T.gg T.exC (PySem.W.findObj_own T.hdC hno rfl (by rw [hl, hu])) (handed_of ru) ⟨v, H1, I1.tok _, ru, q⟩
theorem go_xfX {K : PySem.W.Frag} {a : Addr} {cls : Value} {d : Option Addr} {f : Str} {te : TE} {σ : L2.St} {H : Hp} {Q : VK} (h : te σ H fun x H1 => x = .ref a ∧ ∃ C, cls = .ref C ∧ XfC K C ∧ PySem.W.findIn K (.ref C) f = some none ∧ ∃ (dd : Addr) (fs : List (Str × V)) (v : V), d = some dd ∧ H1 dd = some (.xd fs) ∧ fs.lookup f = some v ∧ Q v H1) : tXfX K a cls d f te σ H Q := h
theorem go_xfXV {K : PySem.W.Frag} {a D dd : Addr} {f : Str} {H : Hp} {fs : List (Str × V)} {v : V} {R : V → Prop} (T : XfC K D) (no : PySem.W.findIn K (.ref D) f = some none) (e : H dd = some (.xd fs)) (l : fs.lookup f = some v) (h : R v) :
    V.ref a = .ref a ∧ ∃ C, (Value.ref D) = .ref C ∧ XfC K C ∧ PySem.W.findIn K (.ref C) f = some none ∧ ∃ (d' : Addr) (fs : List (Str × V)) (v : V), some dd = some d' ∧ H d' = some (.xd fs) ∧ fs.lookup f = some v ∧ R v := ⟨rfl, D, rfl, T, no, dd, fs, v, rfl, e, l, h⟩
/-! ### raise and try, by name -/
def tRaise (W : WX) (t : L2.St → Hp → XK → Prop) : TS := fun _ σ H => t σ H fun cls d H' => W cls d σ H'
theorem ps_raiseT {X : Cx} {W : WX} {e : Expr} {t : L2.St → Hp → XK → Prop} {pos : Pos} (hc : X.calm = true) (tk : Takes X W) (he : PMk X e t) : PS X (.Raise (some e) none pos) (tRaise W t) := ps_raise hc tk he
theorem go_raiseT {t : L2.St → Hp → XK → Prop} {W : WX} {D : Ends} {σ : L2.St} {H : Hp} (h : t σ H fun cls d H' => W cls d σ H') : tRaise W t D σ H := h
def tTryAs (K : PySem.W.Frag) (c : Value) (i : Nat) (ts : Addr → Value → Option Addr → TS) (Wout : WX) (tb : WX → TS) : TS := fun D σ H => tb (wAs K c i ts Wout D) D σ H
def tTryOnly (K : PySem.W.Frag) (c : Value) (ts : Addr → Value → Option Addr → TS) (Wout : WX) (tb : WX → TS) : TS := fun D σ H => tb (wOnly K c ts Wout D) D σ H
section
variable {X : Cx} {x n : Str} {c : Value} {i : Nat} {body suite : List Stmt} {b₀ : Stmt} {np pos pos' : Pos} {tb : WX → TS} {ts : Addr → Value → Option Addr → TS} {Wout : WX}
theorem ps_tryAs (hs : X.stack = X.env :: X.outer) (hf : X.env.frame = some X.env.locals) (hN : X.N.Nodup) (hi : X.N[i]? = some n) (hln : X.env.kindOf n = some .local) (hc : Names X x c) (tk : Takes X Wout)
    (hb : ∀ (W : WX) (pn : List (Addr × Obj)) (xe : Value → Shared → Prop), Takes (X.tr pn xe) W → PassesOwn (model X.prog X.w) X.A X.env xe → PSs (X.tr pn xe) body (tb W))
    (hsu : ∀ (a : Addr) (oe : Obj) (cls : Value) (d : Option Addr) (pn : List (Addr × Obj)), Zc cls d oe → (∃ vs, oe.data = .fields vs) → PSs (X.suite a ((a, oe) :: pn)) (b₀ :: suite) (ts a cls d)) :
    PS X (.Try body [.ExceptHandler (some (.Name x np)) (some n) (b₀ :: suite) pos'] [] [] pos) (tTryAs X.K c i ts Wout tb) := ps_try_as hs hf hN hi hln hc tk hb hsu
theorem ps_tryOnly (hs : X.stack = X.env :: X.outer) (hf : X.env.frame = some X.env.locals) (hc : Names X x c) (tk : Takes X Wout)
    (hb : ∀ (W : WX) (pn : List (Addr × Obj)) (xe : Value → Shared → Prop), Takes (X.tr pn xe) W → PassesOwn (model X.prog X.w) X.A X.env xe → PSs (X.tr pn xe) body (tb W))
    (hsu : ∀ (a : Addr) (oe : Obj) (cls : Value) (d : Option Addr) (pn : List (Addr × Obj)), Zc cls d oe → (∃ vs, oe.data = .fields vs) → PSs (X.suite a ((a, oe) :: pn)) (b₀ :: suite) (ts a cls d)) :
    PS X (.Try body [.ExceptHandler (some (.Name x np)) none (b₀ :: suite) pos'] [] [] pos) (tTryOnly X.K c ts Wout tb) := ps_try_only hs hf hc tk hb hsu
end
section
variable {K : PySem.W.Frag} {c : Value} {i : Nat} {tb : WX → TS} {ts : Addr → Value → Option Addr → TS} {Wout : WX} {D : Ends} {σ : L2.St} {H : Hp} {cls : Value} {d : Option Addr}
theorem go_tryAs (h : tb (wAs K c i ts Wout D) D σ H) : tTryAs K c i ts Wout tb D σ H := h
theorem go_tryOnly (h : tb (wOnly K c ts Wout D) D σ H) : tTryOnly K c ts Wout tb D σ H := h
theorem go_wAs (e : PySem.W.exmOne K cls c = some true) (h : ∀ a, H a = none → ts a cls d { nx := fun σ' H' => D.nx (σ'.set i none) H', rt := D.rt, bk := fun σ' H' => D.bk (σ'.set i none) H', ct := fun σ' H' => D.ct (σ'.set i none) H' } (σ.set i (some (.ref a))) H) : wAs K c i ts Wout D cls d σ H :=
  ⟨true, e, fun _ => h, fun q => nomatch q⟩
theorem go_wOnly (e : PySem.W.exmOne K cls c = some true) (h : ∀ a, H a = none → ts a cls d D σ H) : wOnly K c ts Wout D cls d σ H :=
  ⟨true, e, fun _ => h, fun q => nomatch q⟩
end
theorem go_nNone {A B : Prop} (h : A) : if (!(none : Option V).isSome) = true then A else B := iteT h
theorem go_nSome {v : V} {A B : Prop} (h : B) : if (!(some v).isSome) = true then A else B := iteF h
theorem go_None {A B : Prop} (h : B) : if (none : Option V).isSome = true then A else B := iteF h
theorem go_Some {v : V} {A B : Prop} (h : A) : if (some v).isSome = true then A else B := iteT h
/-! ### tuple(x), list(x): readings with a name -/
def rTupOf (K : PySem.W.Frag) : List V → Hp → VK → Prop := fun vs H Q => ∃ p xs, vs = [.ref p] ∧ ((SqL K H p xs ∧ ∀ l, H l = none → Q (.ref l) (upd H l (.tup xs))) ∨ (SqT K H p xs ∧ Q (.ref p) H))
theorem call_tupD {X : Cx} : CallR X (.type "tuple") (rTupOf X.K) := call_tuple_of
def rLstOf (K : PySem.W.Frag) : List V → Hp → VK → Prop := fun vs H Q => ∃ p xs, vs = [.ref p] ∧ (SqL K H p xs ∨ SqT K H p xs) ∧ ∀ l, H l = none → Q (.ref l) (upd H l (.lst xs))
theorem call_lstD {X : Cx} : CallR X (.type "list") (rLstOf X.K) := call_list_of
section
variable {K : PySem.W.Frag} {H : Hp} {Q : VK} {p : Addr} {xs : List V}
theorem go_tupD (e : SqL K H p xs) (h : ∀ l, H l = none → Q (.ref l) (upd H l (.tup xs))) : rTupOf K [.ref p] H Q := ⟨p, xs, rfl, .inl ⟨e, h⟩⟩
theorem go_tupDT (e : SqT K H p xs) (h : Q (.ref p) H) : rTupOf K [.ref p] H Q := ⟨p, xs, rfl, .inr ⟨e, h⟩⟩
theorem go_lstD (e : SqL K H p xs) (h : ∀ l, H l = none → Q (.ref l) (upd H l (.lst xs))) : rLstOf K [.ref p] H Q := ⟨p, xs, rfl, .inl e, h⟩
theorem go_lstDT (e : SqT K H p xs) (h : ∀ l, H l = none → Q (.ref l) (upd H l (.lst xs))) : rLstOf K [.ref p] H Q := ⟨p, xs, rfl, .inr e, h⟩
theorem go_lstDO (e : SqL K H p xs ∨ SqT K H p xs) (h : ∀ l, H l = none → Q (.ref l) (upd H l (.lst xs))) : rLstOf K [.ref p] H Q := ⟨p, xs, rfl, e, h⟩
end
theorem go_cat {H : Hp} {Q : VK} {p q : Addr} {xs ys : List V} (h1 : H p = some (.lst xs)) (h2 : H q = some (.lst ys)) (l : xs.length + ys.length ≤ 1000) (h : ∀ r, H r = none → Q (.ref r) (upd H r (.lst (xs ++ ys)))) : rCat (.ref p) (.ref q) H Q :=
  ⟨p, q, xs, ys, rfl, rfl, h1, h2, Nat.le_of_lt (small1000 l), h⟩
theorem go_prop {C : Addr} {sp : Sp} {E : XK} {ta : TE} {σ : L2.St} {H : Hp} {Q : VK} {dvs : List V} (h : ta σ H fun x H1 => ∃ a dx fs, x = .ref a ∧ H1 a = some (.ins C dx fs) ∧ sp (.ref a :: dvs) H1 Q E) : tProp C sp dvs E ta σ H Q := h
end Vc

/-! Xt: a caught error as a tracked object: held by a name, handed to defs, also where it is still being handled (my own; the way of HandS.Exc's ps_try_as and HandS.HotCalls). -/
namespace Vc
open PySem PySem.Spec PyProof.Rows L2
/-- a caught error: its class, its dict -/
def xco (a : Addr) (cls : Value) (d : Option Addr) : HO := .ext fun h => ∃ (oe : Obj) (vs : Array Value), h.get? a = some oe ∧ Zc cls d oe ∧ oe.data = .fields vs
theorem xco_own {a x : Addr} {cls : Value} {d : Option Addr} : xco a cls d ≠ .own x := fun z => by
  have z' : HO.ext _ = HO.own x := z
  cases z'
theorem xco_ok {P : Program} {w : World} {H : Hp} {h : Heap} {a : Addr} {cls : Value} {d : Option Addr} {oe : Obj} {vs : Array Value} (he : h.get? a = some oe) (hz : Zc cls d oe) (hd : oe.data = .fields vs) : ObjOk P w H h a (xco a cls d) :=
  ⟨⟨oe, vs, he, hz, hd⟩, ⟨_, he⟩, fun h1 h2 z k => by
    obtain ⟨o, v, q1, q2, q3⟩ := z
    exact ⟨o, v, k _ q1, q2, q3⟩⟩
theorem xco_at {P : Program} {w : World} {H : Hp} {h : Heap} {a : Addr} {cls : Value} {d : Option Addr} (hok : HOk P w H h) (he : H a = some (xco a cls d)) : ∃ (oe : Obj) (vs : Array Value), h.get? a = some oe ∧ Zc cls d oe ∧ oe.data = .fields vs := by
  have x : ObjOk P w H h a (.ext fun h => ∃ (oe : Obj) (vs : Array Value), h.get? a = some oe ∧ Zc cls d oe ∧ oe.data = .fields vs) := hok a _ he
  exact x.1
section
variable {X : Cx} {pins : List (Addr × Obj)} {σ : L2.St} {H : Hp} {s sI : Shared} {a : Addr} {o : HO}
/-- what was not there ahead becomes tracked -/
theorem track (J : Inv X pins σ H sI) (I : Inv X pins σ H s) (n : sI.heap.get? a = none) (na : H a = none) (ob : ObjOk X.prog X.w (upd H a o) s.heap a o) : Inv X pins σ (upd H a o) s := by
  have nb : ∀ {b : Addr} {o' : Obj}, sI.heap.get? b = some o' → b ≠ a := fun {b o'} e z => by rw [z, n] at e; cases e
  have nH : ∀ {b : Addr} {o' : HO}, H b = some o' → b ≠ a := fun {b o'} e z => by rw [z, na] at e; cases e
  refine ⟨I.ok, I.os, I.bare, ⟨I.base.keep, I.base.slot, fun b o' e n' hx => ?_, I.base.there, fun b xs e => ?_, fun b o' u e => ?_, fun b ps e => ?_⟩, I.loc, I.cell, ?_, fun y c e => ?_, fun p hp => ?_, fun b o' e => ?_, I.len⟩
  · obtain ⟨o2, e2⟩ := J.base.there b o' e hx
    rw [upd_ne (nb e2)]
    exact I.base.free b o' e n' hx
  · have q := I.base.tups b xs e
    rw [upd_ne (nH q)]; exact q
  · have q := I.base.frzs b o' u e
    rw [upd_ne (nH q)]; exact q
  · obtain ⟨more, q⟩ := I.base.tbls b ps e
    exact ⟨more, by rw [upd_ne (nH q)]; exact q⟩
  · obtain ⟨m, ⟨oL, _, _, hoL, _⟩, _⟩ := id J.loc
    rw [upd_ne (nb hoL)]; exact I.free
  · obtain ⟨v, hv⟩ := J.cell y c e
    obtain ⟨oc, hoc, _⟩ := hv
    rw [upd_ne (nb hoc)]; exact I.freeC y c e
  · obtain ⟨q1, q2, q3⟩ := I.pin p hp
    obtain ⟨z1, _⟩ := J.pin p hp
    exact ⟨q1, by rw [upd_ne (nb z1)]; exact q2, q3⟩
  · by_cases hb : b = a
    · subst hb
      rw [upd_same] at e
      cases e
      exact ob
    · rw [upd_ne hb] at e
      exact (I.hok b o' e).stay (fun _ _ _ q => q) (fun c hc => by rw [upd_ne (nH hc)]; exact hc) (fun c xs hc => by rw [upd_ne (nH hc)]; exact hc)
theorem suiteT (I : Inv X pins σ H s) (a : Addr) : Inv (X.suite a (X.pn ++ pins)) [] σ H s :=
  ⟨I.ok.suite _ _, I.os, I.bare, I.base, I.loc, I.cell, I.free, I.freeC, fun p hp => I.pin p (by rw [List.append_nil] at hp; exact hp), I.hok, I.len⟩
theorem unsuiteT {pn' : List (Addr × Obj)} (I : Inv (X.suite a (X.pn ++ pins)) pn' σ H s) (ok : X.Ok) : Inv X pins σ H s :=
  ⟨ok, I.os, I.bare, I.base, I.loc, I.cell, I.free, I.freeC, fun p hp => I.pin p (List.mem_append_left _ hp), I.hok, I.len⟩
end
/-- what the clause 'except x as n' wishes of an exception of the body: the error is tracked from there on -/
def wX (K : PySem.W.Frag) (c : Value) (i : Nat) (ts : TS) (Wout : WX) (D : Ends) : WX := fun cls d σ H =>
  ∃ b, PySem.W.exmOne K cls c = some b ∧ (b = true → ∀ a, H a = none → ts { nx := fun σ' H' => D.nx (σ'.set i none) H', rt := D.rt, bk := fun σ' H' => D.bk (σ'.set i none) H', ct := fun σ' H' => D.ct (σ'.set i none) H' } (σ.set i (some (.ref a))) (upd H a (xco a cls d))) ∧
    (b = false → Wout cls d σ H)
def tTryX (K : PySem.W.Frag) (c : Value) (i : Nat) (ts : TS) (Wout : WX) (tb : WX → TS) : TS := fun D σ H => tb (wX K c i ts Wout D) D σ H
section
variable {X : Cx} {x n : Str} {c : Value} {i : Nat} {body suite : List Stmt} {b₀ : Stmt} {np pos pos' : Pos} {tb : WX → TS} {ts : TS} {Wout : WX}
theorem ps_tryX (hs : X.stack = X.env :: X.outer) (hf : X.env.frame = some X.env.locals) (hN : X.N.Nodup) (hi : X.N[i]? = some n) (hln : X.env.kindOf n = some .local) (hc : Names X x c) (tk : Takes X Wout)
    (hb : ∀ (W : WX) (pn : List (Addr × Obj)) (xe : Value → Shared → Prop), Takes (X.tr pn xe) W → PassesOwn (model X.prog X.w) X.A X.env xe → PSs (X.tr pn xe) body (tb W))
    (hsu : ∀ (a : Addr) (pn : List (Addr × Obj)), PSs (X.suite a pn) (b₀ :: suite) ts) :
    PS X (.Try body [.ExceptHandler (some (.Name x np)) (some n) (b₀ :: suite) pos'] [] [] pos) (tTryX X.K c i ts Wout tb) := by
  refine ⟨fun pins s σ H D I h => ?_⟩
  have ok := I.ok
  have hfr : X.A.frames = some (X.env :: X.outer) := by rw [ok.frames, hs]
  have hloc : Loc X.env.scope n := .inl hln
  refine wpAny_Try_except ?_
  refine wpAny_mono ((hb (wX X.K c i ts Wout D) (X.pn ++ pins) (fun e s₁ => wpAny (model X.prog X.w) X.A (noteFrame e X.env) (fun _ s₂ => wpAny (model X.prog X.w) X.A (setFlight e none) (fun _ s₃ =>
    wpAny (model X.prog X.w) X.A (handleBy e X.env [.ExceptHandler (some (.Name x np)) (some n) (b₀ :: suite) pos']) (SP X pins D) X.xe s₃) X.xe s₂) X.xe s₁) (fun u s' xx => ?_) PassesOwn.looking).run [] s σ H D (I.toTry _) h) (fun f s1 hsp => ?_) (fun e s1 he => he)
  · -- the catch
    obtain ⟨a, B, sI, pins', σ', H', cls, d, rfl, J', nb, up, sky, na, os, ag, b, hb1, hyes, hno⟩ := xx
    have J : Inv X pins σ' H' sI := J'.ofTry ok
    have sky' : Sky B (X.env :: X.outer) a (Zc cls d) X.env.locals s'.heap := by rw [← hs]; exact sky
    show wpAny (model X.prog X.w) X.A (noteFrame (.ref a) X.env) _ _ _
    refine Sky.land Zc.steady hfr hf sky' fun h3 fl3 up3 => ?_
    have J3 : Inv X pins σ' H' { s' with heap := h3 } := J.landed nb fl3.1 (up.trans up3) os ag
    obtain ⟨oe3, vs3, he3, hz3, hd3⟩ := fl3.there
    have notFr : ∀ {h : Heap} {o : Obj} {vs : Array Value}, h.FunFrames B (X.env :: X.outer) → h.get? a = some o → o.data = .fields vs → a ∉ frs (X.env :: X.outer) := fun {h o vs} ff e dd hm => by
      obtain ⟨_, o', e', hnf⟩ := ff.mem hm
      rw [e] at e'; cases e'
      exact hnf _ dd
    have nfr := notFr fl3.2.2.1 he3 hd3
    have nL : a ≠ X.env.locals := fun z => nfr (List.mem_filterMap.mpr ⟨X.env, List.mem_cons_self, by rw [hf, z]⟩)
    have nF : a ∉ X.fs := fun hm => by
      obtain ⟨e, he, q⟩ := List.mem_filterMap.mp hm
      exact nfr (List.mem_filterMap.mpr ⟨e, List.mem_cons_of_mem _ he, q⟩)
    have nI : sI.heap.get? a = none := by
      cases e : sI.heap.get? a with
      | none => rfl
      | some o =>
        have q := nb a o e (by rw [hs]; exact nfr)
        rw [fl3.2.1] at q; cases q
    have S3 := J3.suite he3 hd3 na nL nF
    refine wpAny_handleBy_cons (codeAny_handlers_test ?_) (by intro q; cases q)
    have LT : PySem.W.Looks (model X.prog X.w) h3 (typeOf (.ref a)) cls := fun A Q E s k q => wpAny_typeOf_ref (k _ _ he3) (by rw [hz3.1]; exact q)
    have LM := PySem.W.exm_one (M := model X.prog X.w) (J3.kIn) LT hb1
    have test : ∀ {Q : Value → Shared → Prop} {E : Value → Shared → Prop}, Q c { s' with heap := h3 } → wpAny (model X.prog X.w) (X.A.mark (some (.ref a))) (eval (.Name x np) X.env) Q E { s' with heap := h3 } := fun {Q E} q => by
      obtain ⟨hg, hdbg, hm | ⟨hm, hv, hnn⟩⟩ := hc
      · exact ld_glob (X := X.suite a ((a, oe3) :: (X.pn ++ pins))) S3 hg hm q hdbg
      · exact ld_blt (X := X.suite a ((a, oe3) :: (X.pn ++ pins))) S3 hg hm hv q hnn hdbg
    refine test (LM.here ?_)
    cases b with
    | true =>
      refine codeAny_handlers_suite_as ?_
      refine HandSPX.lands_againZ fl3 fun h4 fl4 up4 => ?_
      have J4 : Inv X pins σ' H' { s' with heap := h4 } := J.landed nb fl4.1 ((up.trans up3).trans up4) os ag
      obtain ⟨oe4, vs4, he4, hz4, hd4⟩ := fl4.there
      have S4 : Inv (X.suite a (X.pn ++ pins)) [] σ' (upd H' a (xco a cls d)) { s' with heap := h4 } := suiteT (track J J4 nI na (xco_ok he4 hz4 hd4)) a
      refine store_ok (X := X.suite a (X.pn ++ pins)) (v := .ref a) S4 hN hi hloc rfl (fun s5 S5 => ?_) (.inr hln)
      refine wpAny_mono ((hsu a (X.pn ++ pins)).run [] s5 _ _ _ S5 (hyes rfl a na)) (fun f s6 hsp => ?_) (fun _ _ z => False.elim z)
      have end_ : ∀ {σ6 : L2.St} {H6 : Hp} {Q : Shared → Prop}, Inv (X.suite a (X.pn ++ pins)) [] σ6 H6 s6 → (∀ s7, Inv X pins (σ6.set i none) H6 s7 → Q s7) →
          wpAny (model X.prog X.w) X.A (do bindName X.env n .none; unbindBehindTheSuite X.env n pos') (fun _ s7 => Q s7) X.xe s6 := fun {σ6 H6 Q} S6 hq => gone_ok (unsuiteT S6 ok) hN hi hln hq
      cases f with
      | next =>
        obtain ⟨σ6, H6, S6, q6⟩ := hsp
        exact end_ S6 fun s7 J7 => ⟨_, _, J7, q6⟩
      | brk =>
        obtain ⟨σ6, H6, S6, q6⟩ := hsp
        exact end_ S6 fun s7 J7 => ⟨_, _, J7, q6⟩
      | cont =>
        obtain ⟨σ6, H6, S6, q6⟩ := hsp
        exact end_ S6 fun s7 J7 => ⟨_, _, J7, q6⟩
      | ret u =>
        obtain ⟨v6, σ6, H6, S6, r6, q6⟩ := hsp
        exact end_ S6 fun s7 J7 => ⟨_, _, _, J7, r6, q6⟩
    | false =>
      show wpAny _ X.A (handleBy (.ref a) X.env []) _ _ _
      refine wpAny_handleBy_nil ?_
      obtain ⟨k1, k2, k3, oe, vs, T, oT, ts', he, hz, hd, h1, hr⟩ := id fl3
      unfold PySem.passOn
      refine wpAny_bind (wpAny_field he hd h1 ?_)
      rw [if_neg (show ¬ ((Value.ref T == Value.none) = true) from by simp)]
      have fin : wpAny (model X.prog X.w) X.A (setFlight (.ref a) X.env.frame) (fun _ s4 => wpAny (model X.prog X.w) X.A (throw (.ref a) : Sem Flow) (SP X pins D) X.xe s4) X.xe { s' with heap := h3 } := by
        rw [hf]
        refine HandSPX.setFlight_upZ fl3 fun h4 hh4 up4 => wpAny_throw (tk _ _ ?_)
        exact ⟨a, B, sI, pins, σ', H', cls, d, rfl, J, nb, (up.trans up3).trans up4, .inr (.inr (by rw [hs]; exact hh4)), na, os, ag, hno rfl⟩
      first
        | exact wpAny_bind (wpAny_pure (wpAny_bind fin))
        | exact wpAny_bind fin
  · cases f with
    | next =>
      obtain ⟨σ', H', J', q⟩ := hsp
      exact wpAny_execs_nil ⟨σ', H', J'.ofTry ok, q⟩
    | brk =>
      obtain ⟨σ', H', J', q⟩ := hsp
      exact ⟨σ', H', J'.ofTry ok, q⟩
    | cont =>
      obtain ⟨σ', H', J', q⟩ := hsp
      exact ⟨σ', H', J'.ofTry ok, q⟩
    | ret u =>
      obtain ⟨v, σ', H', J', r, q⟩ := hsp
      exact ⟨v, σ', H', J'.ofTry ok, r, q⟩
end
section
variable {K : PySem.W.Frag} {c : Value} {i : Nat} {tb : WX → TS} {ts : TS} {Wout : WX} {D : Ends} {σ : L2.St} {H : Hp} {cls : Value} {d : Option Addr}
theorem go_tryX (h : tb (wX K c i ts Wout D) D σ H) : tTryX K c i ts Wout tb D σ H := h
/-- it is caught -/
theorem go_wX (e : PySem.W.exmOne K cls c = some true) (h : ∀ a H2, H a = none → Ed [] H H2 → H2 a = some (xco a cls d) → ts { nx := fun σ' H' => D.nx (σ'.set i none) H', rt := D.rt, bk := fun σ' H' => D.bk (σ'.set i none) H', ct := fun σ' H' => D.ct (σ'.set i none) H' } (σ.set i (some (.ref a))) H2) : wX K c i ts Wout D cls d σ H :=
  ⟨true, e, fun _ a na => h a _ na (Ed.new na) upd_same, fun q => nomatch q⟩
end
/-! ### isinstance of a tracked error, its fields -/
/-- what the heap tells of the error at a: its class at C, its dict with the fields fs -/
structure ErrAt (H : Hp) (a C : Addr) (fs : List (Str × V)) : Prop where
  ex : ∃ dd, H a = some (xco a (.ref C) (some dd)) ∧ H dd = some (.xd fs)
theorem ErrAt.ed {H H' : Hp} {a C : Addr} {fs : List (Str × V)} {S : List Addr} (e : Ed S H H') (hS : ∀ b ∈ S, ∃ o, H b = some o ∧ (∀ cls d, o ≠ xco a cls d) ∧ ∀ fs, o ≠ .xd fs) (h : ErrAt H a C fs) : ErrAt H' a C fs := by
  obtain ⟨dd, h1, h2⟩ := h
  refine ⟨dd, e.keep _ _ (fun z => ?_) h1, e.keep _ _ (fun z => ?_) h2⟩
  · obtain ⟨o, q, n, _⟩ := hS _ z
    rw [h1] at q; cases q; exact n _ _ rfl
  · obtain ⟨o, q, _, n⟩ := hS _ z
    rw [h2] at q; cases q; exact n _ rfl
theorem ErrAt.ed0 {H H' : Hp} {a C : Addr} {fs : List (Str × V)} (e : Ed [] H H') (h : ErrAt H a C fs) : ErrAt H' a C fs := h.ed e fun _ z => nomatch z
theorem ErrAt.of {H0 H : Hp} {a C dd : Addr} {fs : List (Str × V)} (h1 : H a = some (xco a (.ref C) (some dd))) (e : Ed [] H0 H) (h2 : H0 dd = some (.xd fs)) : ErrAt H a C fs := ⟨dd, h1, e.at0 h2⟩
theorem err_inst {X : Cx} {pins : List (Addr × Obj)} {σ : L2.St} {H : Hp} {s : Shared} {a C : Addr} {fs : List (Str × V)} (I : Inv X pins σ H s) (h : ErrAt H a C fs) : ∃ ox od, PySem.W.InstAt s.heap a ox C (some od) ∧ ∀ f, ∃ mf, PySem.W.lookIn f od = some mf ∧ RelO (fs.lookup f) mf := by
  obtain ⟨dd, h1, h2⟩ := h
  obtain ⟨oe, vs, ho, hz, hd⟩ := xco_at I.hok h1
  have hx : ObjOk X.prog X.w H s.heap dd (.xd fs) := I.hok dd _ h2
  obtain ⟨mA, hns, hr⟩ := hx
  obtain ⟨od, hod, hl⟩ := lookIn_ns hns
  exact ⟨oe, od, ⟨ho, hz.1, by unfold PySem.W.notCls; rw [hd] <;> rfl, by rw [hz.2]; exact hod⟩, fun f => ⟨mA f, hl f, hr f⟩⟩
/-- isinstance(e, C), e a tracked error -/
def rIsT (K : PySem.W.Frag) : List V → Hp → VK → Prop := fun xs H Q => ∃ (a D : Addr) (fs : List (Str × V)) (c : V) (cv : Value) (b : Bool), ErrAt H a D fs ∧ ExcC K D ∧ xs = [.ref a, c] ∧ (∀ u, RelV c u → u = cv) ∧ PySem.W.kitOne K (.ref D) cv = some b ∧ Q (.bl b) H
theorem err_clsIn {K : PySem.W.Frag} {D : Addr} (C : ExcC K D) : (PySem.W.clsIn K D).isSome = true := by obtain ⟨cd, hc, _⟩ := PySem.W.any_some C.hd; rw [hc]; rfl
theorem call_isT {X : Cx} : CallR X (.builtin "isinstance") (rIsT X.K) := by
  intro pins s σ H xs us Q I r h
  obtain ⟨a, D, fs, c, cv, b, hE, C, rfl, hcv, e, q⟩ := h
  cases r with
  | cons rx rr =>
    cases rr with
    | cons rt rr =>
      cases rr
      cases rx
      have ec := hcv _ rt
      subst ec
      obtain ⟨ox, od, J, _⟩ := err_inst I hE
      exact PySem.W.kia_one (PySem.W.kitx_exc (err_clsIn C) C.hg C.hk C.hs C.ha C.hn C.ht C.hm) I.kIn J e (fun z => nomatch z) fun tk => ⟨.bl b, H, I.tok tk, rfl, q⟩
/-- isinstance(e, (C1, C2, ..)) -/
def rIsTT (K : PySem.W.Frag) : List V → Hp → VK → Prop := fun xs H Q => ∃ (a D tp : Addr) (fs : List (Str × V)) (cs : List V) (ws : List Value) (b : Bool), ErrAt H a D fs ∧ ExcC K D ∧ xs = [.ref a, .ref tp] ∧ H tp = some (.tup cs) ∧ (∀ us, Vals cs us → us = ws) ∧ PySem.W.kitAny K (.ref D) ws = some b ∧ Q (.bl b) H
theorem call_isTT {X : Cx} : CallR X (.builtin "isinstance") (rIsTT X.K) := by
  intro pins s σ H xs us Q I r h
  obtain ⟨a, D, tp, fs, cs, ws, b, hE, C, rfl, hT, hcv, e, q⟩ := h
  cases r with
  | cons rx rr =>
    cases rr with
    | cons rt rr =>
      cases rr
      cases rx
      cases rt
      obtain ⟨ox, od, J, _⟩ := err_inst I hE
      obtain ⟨_, its, rv, o, h1, h2, n, h3⟩ := (show ObjOk X.prog X.w H s.heap tp (.tup cs) from I.hok tp _ hT)
      have e3 := hcv _ rv
      subst e3
      obtain ⟨oc, od', dt, sl⟩ := o
      simp only at h2 h3
      subst h2 h3
      exact PySem.W.kia_tup (PySem.W.kitx_exc (err_clsIn C) C.hg C.hk C.hs C.ha C.hn C.ht C.hm) I.kIn J h1 e (fun z => nomatch z) fun tk => ⟨.bl b, H, I.tok tk, rfl, q⟩
/-- e.f -/
def tXfT (K : PySem.W.Frag) (f : Str) (te : TE) : TE := fun σ H Q => te σ H fun x H1 => ∃ (a C : Addr) (fs : List (Str × V)) (v : V), x = .ref a ∧ ErrAt H1 a C fs ∧ XfC K C ∧ PySem.W.findIn K (.ref C) f = some none ∧ fs.lookup f = some v ∧ Q v H1
theorem pe_xfT {X : Cx} {e : Expr} {te : TE} {pos : Pos} {n : Str} (he : PE X e te) (hb : attributeBase e n X.env (eval e X.env) = eval e X.env := by rfl) : PE X (.Attribute e n pos) (tXfT X.K n te) := by
  refine ⟨fun pins s σ H Q I h => ?_⟩
  refine attr_of hb (thn (he.run pins s σ H _ I h) fun u s1 hh => ?_)
  obtain ⟨x, H1, I1, rx, a, C, fs, v, ex, hE, T, hno, l, q⟩ := hh
  subst ex
  obtain rfl : u = Value.ref a := rx
  obtain ⟨ox, od, J, hl⟩ := err_inst I1 hE
  obtain ⟨mf, hm, hr⟩ := hl n
  obtain ⟨u, hu, ru⟩ := RelO.some_of (v := v) (o := mf) (by rw [← l]; exact hr)
  exact HandSPX.exc_get I1.kIn J T.ga T.gg T.exC (PySem.W.findObj_own T.hdC hno rfl (by rw [hm, hu])) (handed_of ru) ⟨v, H1, I1.tok _, ru, q⟩
section
variable {K : PySem.W.Frag} {a D : Addr} {fs : List (Str × V)} {H : Hp} {Q : VK} {b : Bool}
theorem go_isTC {c : Addr} (hE : ErrAt H a D fs) (C : ExcC K D) (hk : PySem.W.kitOne K (.ref D) (.ref c) = some b) (q : Q (.bl b) H) : rIsT K [.ref a, .ref c] H Q :=
  ⟨a, D, fs, .ref c, .ref c, b, hE, C, rfl, fun _ r => r, hk, q⟩
theorem go_isTT {t : String} (hE : ErrAt H a D fs) (C : ExcC K D) (hk : PySem.W.kitOne K (.ref D) (.type t) = some b) (q : Q (.bl b) H) : rIsT K [.ref a, .ty t] H Q :=
  ⟨a, D, fs, .ty t, .type t, b, hE, C, rfl, fun _ r => r, hk, q⟩
theorem go_xfT {f : Str} {te : TE} {σ : L2.St} (h : te σ H fun x H1 => ∃ (a C : Addr) (fs : List (Str × V)) (v : V), x = .ref a ∧ ErrAt H1 a C fs ∧ XfC K C ∧ PySem.W.findIn K (.ref C) f = some none ∧ fs.lookup f = some v ∧ Q v H1) : tXfT K f te σ H Q := h
theorem go_xfTV {f : Str} {v : V} {R : V → Prop} (hE : ErrAt H a D fs) (T : XfC K D) (no : PySem.W.findIn K (.ref D) f = some none) (l : fs.lookup f = some v) (h : R v) :
    ∃ (a' C : Addr) (fs : List (Str × V)) (v : V), V.ref a = .ref a' ∧ ErrAt H a' C fs ∧ XfC K C ∧ PySem.W.findIn K (.ref C) f = some none ∧ fs.lookup f = some v ∧ R v := ⟨a, D, fs, v, rfl, hE, T, no, l, h⟩
end
/-! ### defs that are also called while an error is being handled (they raise nothing) -/
structure FnHt (P : Program) (w : World) (K : PySem.W.Frag) (mg : Str → Option Value) (base : Heap) (k : Nat) (f : Addr) (fd : FuncData) (ps : List Str) (sp : Sp) : Prop where
  len : ∀ vs H Q E, sp vs H Q E → vs.length = ps.length
  run : ∀ (A : Around) (outer : List Env) (s : Shared) (H : Hp) (args : Args) (us : List Value) (vs : List V) (Q : VK) (E : XK), L2H.RoomH k A → Env0 P w K mg base A outer s H → BindsTo s fd args (ps.zip us) → Vals vs us → sp vs H Q E →
    codeAny (model P w) A (.call (.ref f) args) (CR CX0 outer P w H s Q E) s
theorem FnHt.ok {P : Program} {w : World} {K : PySem.W.Frag} {mg : Str → Option Value} {base : Heap} {k : Nat} {f : Addr} {fd : FuncData} {ps : List Str} {sp : Sp} (F : FnHt P w K mg base k f fd ps sp) : FnOk P w K mg base CX0 k f fd ps sp :=
  ⟨F.len, fun A outer s H args us vs Q E hr => F.run A outer s H args us vs Q E (L2H.roomH_of hr)⟩
/-- the context of such a def's body -/
def cxT (P : Program) (w : World) (K : PySem.W.Frag) (mg : Str → Option Value) (base : Heap) (N : List Str) (qual : Str) (scope : Scope) (f : Addr) (cd : Value) (A : Around) (outer : List Env) (s : Shared) (H : Hp) (E : XK) : Cx :=
  { cxOf CX0 P w K mg base N qual scope f cd A outer s H E with calm := false }
theorem inv_startT {P : Program} {w : World} {K : PySem.W.Frag} {mg : Str → Option Value} {base : Heap} {N ps : List Str} {qual : Str} {scope : Scope} {f : Addr} {cd : Value} {A : Around} {outer : List Env} {s s1 : Shared} {H : Hp} {E : XK} {us : List Value} {vs : List V}
    (S : FnScope N ps scope) (e0 : Env0 P w K mg base A outer s H) (hl : vs.length = ps.length) (r : Vals vs us)
    (x : InCallC s s.heap.objs.size (bindL (envOfC qual scope s.heap.objs.size f cd).kindOf (ps.zip us) fun _ => none) (cellsFrom (s.heap.objs.size + 1) scope.names []) (bindC (envOfC qual scope s.heap.objs.size f cd).kindOf (ps.zip us) fun _ => none) s1) :
    Inv (cxT P w K mg base N qual scope f cd A outer s H E) [] (L2.start N vs) H s1 := by
  have hpl : ps.length ≤ N.length := by have := congrArg List.length S.pre; rw [List.length_take] at this; omega
  obtain ⟨h1, tk, rfl, hk⟩ := x.done
  have noA : ∀ b : Addr, b ∉ (cxT P w K mg base N qual scope f cd A outer s H E).ex := fun b z => absurd (show b ∈ ([] : List Addr) from z) (by simp)
  refine ⟨⟨e0.mod, S.kind, rfl, rfl, Nat.le_refl _, fun y z c h1 h2 => ?_, fun y hy => ?_, fun y c _ h => ?_, (fun z => Bool.noConfusion (show false = true from z)), Around.frames_deeper e0.frames, .inr ⟨rfl, rfl⟩, fun b z => absurd z (noA b), e0.bs, e0.bsz, fun b _ _ => noA b, fun b z => absurd z (noA b), e0.funs, e0.frf⟩,
    rfl, e0.bare, Un.kept hk, ⟨_, x.toInCall.ns, fun i y v h1 h2 h3 => ?_⟩, fun y c h => ⟨_, x.cell y c h⟩, e0.hok.fresh (Nat.le_refl _), fun y c h => ?_, fun q hq => ?_, e0.hok.kept hk, ?_⟩
  · exact name_of_addr x.apart (PySem.mem_of_lookup h1) (PySem.mem_of_lookup h2)
  · have hy : scope.names.lookup y = some .cell ∨ scope.names.lookup y = some .free := hy
    rcases hy with hy | hy
    · exact cell_has hy
    · exact absurd rfl (S.nofree _ (PySem.mem_of_lookup hy))
  · exact Nat.le_of_lt (x.above y c (PySem.mem_of_lookup h))
  · have hi : i < vs.length := by
      unfold L2.start at h2
      by_cases hi : i < vs.length
      · exact hi
      · rw [List.getElem?_append_right (by simpa using hi)] at h2
        rw [List.getElem?_replicate] at h2
        split at h2 <;> cases h2
    have ha : vs[i]? = some v := by
      unfold L2.start at h2
      rw [List.getElem?_append_left (by simpa using hi), List.getElem?_map] at h2
      cases e : vs[i]? with
      | none => rw [e] at h2; cases h2
      | some a => rw [e] at h2; cases h2; rfl
    obtain ⟨u, hu, rv⟩ := r.get ha
    have hp : ps[i]? = some y := by
      rw [← S.pre, List.getElem?_take_of_lt (by omega)]; exact h1
    have ndP : ps.Nodup := by rw [← S.pre]; exact S.nd.sublist (List.take_sublist _ _)
    refine ⟨u, rv, ?_⟩
    rcases S.par y (List.mem_of_getElem? hp) with k | k
    · exact .inl ⟨k, bindL_get ndP hp hu k⟩
    · obtain ⟨c, e⟩ := cell_has (n := s.heap.objs.size + 1) k
      refine .inr ⟨.inl k, c, e, ?_⟩
      have q := x.cell y c e
      rw [bindC_get ndP hp hu (by show scope.names.lookup y ≠ _; rw [k]; decide)] at q
      exact q
  · exact e0.hok.fresh (Nat.le_of_lt (x.above y c (PySem.mem_of_lookup h)))
  · exact absurd (show q ∈ ([] : List (Addr × Obj)) from hq) (by simp)
  · unfold L2.start
    show _ = N.length
    rw [List.length_append, List.length_map, List.length_replicate]
    omega
theorem Fun.okH {P : Program} {w : World} {K : PySem.W.Frag} {mg : Str → Option Value} {base : Heap} {x qual : Str} {st : Stmt} {f : Addr} {fd : FuncData} {N ps : List Str} {k : Nat} {sp : Sp} (F : Fun K x qual st f fd) (S : FnScope N ps (defScope st)) (len : ∀ vs H Q E, sp vs H Q E → vs.length = ps.length)
    (hbody : ∀ (cdv : Value) (A : Around) (outer : List Env) (s : Shared) (H : Hp) (vs : List V) (Q : VK) (E : XK), L2H.RoomH k (A.deeper (envOfC qual (defScope st) s.heap.objs.size f cdv)) → sp vs H Q E →
      ∃ t, PSs (cxT P w K mg base N qual (defScope st) f cdv A outer s H E).nox (defBody st) t ∧ t { nx := fun _ H' => Q .non H', rt := Q } (L2.start N vs) H) : FnHt P w K mg base (k + 1) f fd ps sp := by
  obtain ⟨oc, od, kV, doc, pm, an, cdv, ct, osl, rfl, lk, hcd⟩ := F.ex
  refine ⟨len, fun A outer s H args us vs Q E hr e0 hb r hsp => ?_⟩
  have hl := len _ _ _ _ hsp
  have KX : K.In s.heap := e0.mod.kin.keeps fun b o e => (e0.bs b o e).1
  have lim : s.heap.NoLimit := e0.mod.nolimit.keeps fun b o e => (e0.bs b o e).1
  have hkind : ∀ y ∈ ps.zip us, (defScope st).names.lookup y.1 = some .local ∨ ((defScope st).names.lookup y.1 = some .cell ∧ ((cellsFrom (s.heap.objs.size + 1) (defScope st).names []).lookup y.1).isSome = true) := fun ⟨n, v⟩ hy => by
    rcases S.par n (List.of_mem_zip hy).1 with q | q
    · exact .inl q
    · exact .inr ⟨q, PySem.W.cellsFrom_some _ _ _ (.inl q)⟩
  refine codeAny_call_function hr.depth (KX _ _ lk) rfl S.co S.gen rfl (PySem.W.codeRec_of KX hcd) (hb _ _ _ _ ?_)
  refine wpAny_newFunctionEnv_cells S.kind hkind fun env he s1 x => ?_
  subst he
  refine ⟨lim.keeps x.toInCall.keep, codeAny_func ?_⟩
  obtain ⟨t, ht0, hq⟩ := hbody cdv A outer s H vs Q E (hr.deeper _) hsp
  have ht := ht0.nox
  have I : Inv (cxT P w K mg base N qual (defScope st) f cdv A outer s H E) [] (L2.start N vs) H s1 := inv_startT S e0 hl r x
  refine wpAny_mono (ht.run [] s1 (L2.start N vs) H _ I hq) (fun fl s' hs => ?_) fun e s' hs => hs
  have fin : ∀ {σ' : L2.St} {H' : Hp} {v : V} {u : Value}, Inv (cxT P w K mg base N qual (defScope st) f cdv A outer s H E) [] σ' H' s' → RelV v u → Q v H' → CE outer P w H s Q u s' :=
    fun {σ' H' v u} J rv q => ⟨v, H', J.os, J.bare, J.base, J.hok, rv, q⟩
  cases fl with
  | ret u =>
    obtain ⟨v, σ', H', J, rv, q⟩ := hs
    exact fin J rv q
  | next =>
    obtain ⟨σ', H', J, q⟩ := hs
    exact fin (v := V.non) (u := Value.none) J rfl q
  | brk =>
    obtain ⟨_, _, _, q⟩ := hs
    exact False.elim q
  | cont =>
    obtain ⟨_, _, _, q⟩ := hs
    exact False.elim q
section
variable {X : Cx} {k : Nat} {f : Addr} {fd : FuncData} {ps : List Str} {sp : Sp} {x : Str} {q pos : Pos} {e : Expr} {es : List Expr} {t : TA}
/-- f(e, ..), also while an error is being handled -/
theorem pe_callT (F : FnHt X.prog X.w X.K X.mg X.base k f fd ps sp) (hr : L2H.RoomH k X.A) (hg : Gl X x) (hm : X.mg x = some (.ref f)) (hk : PySem.W.keepIn X.K (.ref f) = true) (hb : Binds X.K fd ps [])
    (ha : PA X (e :: es) t) (hdb : (x == ("__debug__" : Str)) = false := by decide) (he : starEach (e :: es) X.env = (false, eval e X.env) :: starEach es X.env := by rfl) (hpl : (backTo pos (starEach es X.env)).any (·.1) = false := by rfl) :
    PE X (.Call (.Name x q) (e :: es) [] pos) (tCall sp [] E0 t) := by
  refine ⟨fun pins s σ H Q I h => ?_⟩
  refine wpAny_Call_Name_kw (ld_glob I hg hm ?_ hdb)
  refine PySem.W.callWith_K (h₀ := X.base) I.ok.mod.kin hk (thn (ha.run pos pins s σ H _ I h) fun us s1 ⟨vs, H1, I1, r, q⟩ => ⟨I1.kIn, ?_⟩) he hpl
  have q : sp (vs ++ []) H1 Q E0 := q
  rw [List.append_nil] at q
  have hl : us.length = ps.length := by rw [← r.length]; exact F.len _ _ _ _ q
  have b := hb s1 us I1.kIn (by rw [List.append_nil]; exact hl)
  rw [List.append_nil] at b
  refine wpAny_call (codeAny_mono (F.run X.A X.stack s1 H1 ⟨us, []⟩ us vs Q E0 hr I1.env0 b r q) fun r s' hq => ?_)
  cases r with
  | error e => exact hq.elim
  | ok fl =>
    cases fl with
    | ret u => exact I1.after hq
    | next => exact False.elim hq
    | brk => exact False.elim hq
    | cont => exact False.elim hq
end
theorem roomH_mark {k : Nat} {A : Around} {v : Option Value} (r : L2H.RoomH k A) : L2H.RoomH k (A.mark v) := ⟨r.dp, r.un⟩
/-- the same, the written part named (in an except suite the reading may not name the suite's own place) -/
theorem call_isTK {X : Cx} {K : PySem.W.Frag} (h : X.K = K) : CallR X (.builtin "isinstance") (rIsT K) := h ▸ call_isT
theorem pe_xfTK {X : Cx} {K : PySem.W.Frag} {e : Expr} {te : TE} {pos : Pos} {n : Str} (h : X.K = K) (he : PE X e te) (hb : attributeBase e n X.env (eval e X.env) = eval e X.env := by rfl) : PE X (.Attribute e n pos) (tXfT K n te) := h ▸ pe_xfT he hb
end Vc

/-! Xo: operators of own classes: ==, a property stored (my own; ways of HandS.OwnEq and HandS.Property). -/
namespace Vc
open PySem PySem.Spec PyProof.Rows L2
/-! ### a == b by a's own __eq__ -/
structure EqM (K : PySem.W.Frag) (C g : Addr) : Prop where
  at_ : PySem.W.findIn K (.ref C) "__eq__" = some (some (.ref g))
  fn : PySem.W.isFn K (.ref g) = true
def rEqO (K : PySem.W.Frag) (C : Addr) (sp : Sp) : R2 := fun x y H Q => ∃ (a dx : Addr) (fs : List (Str × V)) (t : Value), x = .ref a ∧ H a = some (.ins C dx fs) ∧ TyX K H y t ∧ PySem.W.notFirst K C t = true ∧ sp [x, y] H (fun v H' => ∃ b, v = .bl b ∧ Q (.bl b) H') E0
theorem op_eqO {X : Cx} {C g : Addr} {fd : FuncData} {ps : List Str} {sp : Sp} {n : Nat} (F : FnOk X.prog X.w X.K X.mg X.base CX0 n g fd ps sp) (hr : Room n X.A) (m : EqM X.K C g) (hb : Binds X.K fd ps []) : OpR X (compareOp .Eq) (rEqO X.K C sp) := by
  intro pins s σ H x y v u Q I rx ry hq
  obtain ⟨a, dx, fs, t, rfl, ha, ty, nf, q⟩ := hq
  cases rx
  show wpAny (model X.prog X.w) X.A (richCompare .Eq (.ref a) u) (EP X pins σ Q) X.xe s
  obtain ⟨mA, J, _⟩ := ins_get I.hok ha
  obtain ⟨od, J, _⟩ := J.look
  obtain ⟨_, Z, p, _⟩ := kit_of I ry ty
  obtain ⟨mm, hF⟩ := I.fr
  refine PySem.W.cmp_K (op := .Eq) (tb := t) hr.units0 hF I.ok.mod.kin J (Z.ty _ _ I.kIn p) nf m.at_ m.fn ?_
  have hl := F.len _ _ _ _ q
  have r2 : Vals [V.ref a, y] [Value.ref a, u] := .cons rfl (.cons ry .nil)
  have hb' := hb s [.ref a, u] I.kIn (by simpa using hl)
  rw [List.append_nil] at hb'
  refine wpAny_call (codeAny_mono (F.run X.A X.stack s H ⟨[.ref a, u], []⟩ [.ref a, u] [.ref a, y] _ E0 hr I.env0 hb' r2 q) fun r s' hq => ?_)
  cases r with
  | error e => exact hq.elim
  | ok fl =>
    cases fl with
    | ret w =>
      obtain ⟨z, H', I', rz, b, ez, qz⟩ := I.after hq
      subst ez
      cases rz
      exact ⟨.bl b, H', I', rfl, qz⟩
    | next => exact False.elim hq
    | brk => exact False.elim hq
    | cont => exact False.elim hq
/-! ### o.f = e, f a property with a setter -/
structure PropSet (K : PySem.W.Frag) (C : Addr) (f : Str) (p g : Addr) : Prop where
  tk : PySem.W.takerIn K C f = some (some (.ref p))
  ty : PySem.W.typeIn K (.ref p) = some (.type "property")
  rec_ : ∃ a rest, PySem.W.recIn K p "property" = some (a :: .ref g :: rest)
def tSetP (C : Addr) (sp : Sp) (E : L2.St → XK) (to te : TE) : TS := fun D σ H => te σ H fun y H1 => to σ H1 fun x H2 => ∃ (a dx : Addr) (fs : List (Str × V)), x = .ref a ∧ H2 a = some (.ins C dx fs) ∧ sp [.ref a, y] H2 (fun _ H3 => D.nx σ H3) (E σ)
theorem ps_fldP {X : Cx} {CX : CXT} {C p g : Addr} {f : Str} {fd : FuncData} {ps : List Str} {sp : Sp} {n : Nat} {E : L2.St → XK} {o e : Expr} {to te : TE} {p' pos : Pos} (c : Cls X.K C) (m : PropSet X.K C f p g) (F : FnOk X.prog X.w X.K X.mg X.base CX n g fd ps sp) (hr : Room (n + 2) X.A) (hb : Binds X.K fd ps []) (hx : ∀ σ, PassesAt CX X σ (E σ))
    (ho : PE X o to) (he : PE X e te) (hs : swapsWith e (some (.Attribute o f p')) pos.line X.env = pure false := by rfl) : PS X (.Assign [.Attribute o f p'] e pos) (tSetP C sp E to te) := by
  refine ⟨fun pins s σ H D I h => ?_⟩
  refine plainObj_wpAny_Assign_Attribute (thn (he.run pins s σ H _ I h) fun v s1 ⟨y, H1, I1, r1, q1⟩ => thn (ho.run pins s1 σ H1 _ I1 q1) fun u s2 ⟨x, H2, I2, r2, a, dx, fs, ex, ea, q⟩ => ?_) hs
  subst ex
  obtain rfl : u = Value.ref a := r2
  obtain ⟨mA, J, _⟩ := ins_get I2.hok ea
  obtain ⟨od, J, _⟩ := J.look
  obtain ⟨mm, hF⟩ := I2.fr
  obtain ⟨b, rest, hrec⟩ := m.rec_
  have I3 := I2.tok (s2.toks + 1)
  have hl := F.len _ _ _ _ q
  have hb' := hb { s2 with toks := s2.toks + 1 } [.ref a, v] I3.kIn (by simpa using hl)
  rw [List.append_nil] at hb'
  refine PySem.W.set_prop hF I.ok.mod.kin J c.sa c.po m.tk m.ty hrec ?_
  refine codeAny_mono (F.run X.A.in1.in1 X.stack { s2 with toks := s2.toks + 1 } H2 ⟨[.ref a, v], []⟩ [.ref a, v] [.ref a, y] _ (E σ) hr.in1.in1 I3.env0.in1.in1 hb' (.cons rfl (.cons r1 .nil)) q) fun r s' hq => ?_
  cases r with
  | error er => exact hx σ pins H2 { s2 with toks := s2.toks + 1 } er s' I3 hq
  | ok fl =>
    cases fl with
    | ret w =>
      obtain ⟨z, H', I', rz, qz⟩ := I3.after hq
      exact ⟨σ, H', I', qz⟩
    | next => exact False.elim hq
    | brk => exact False.elim hq
    | cont => exact False.elim hq
section
variable {K : PySem.W.Frag} {H : Hp} {Q : VK} {a C dx : Addr} {fs : List (Str × V)} {y : V} {t : Value} {sp : Sp}
theorem go_eqO (ha : H a = some (.ins C dx fs)) (ty : TyX K H y t) (nf : PySem.W.notFirst K C t = true) (h : sp [.ref a, y] H (fun v H' => ∃ b, v = .bl b ∧ Q (.bl b) H') E0) : rEqO K C sp (.ref a) y H Q := ⟨a, dx, fs, t, rfl, ha, ty, nf, h⟩
theorem go_setP {E : L2.St → XK} {to te : TE} {D : Ends} {σ : L2.St} (h : te σ H fun y H1 => to σ H1 fun x H2 => ∃ (a dx : Addr) (fs : List (Str × V)), x = .ref a ∧ H2 a = some (.ins C dx fs) ∧ sp [.ref a, y] H2 (fun _ H3 => D.nx σ H3) (E σ)) : tSetP C sp E to te D σ H := h
theorem go_setPV {R : Addr → Prop} (ha : H a = some (.ins C dx fs)) (h : R a) : ∃ (a' dx : Addr) (fs : List (Str × V)), V.ref a = .ref a' ∧ H a' = some (.ins C dx fs) ∧ R a' := ⟨a, dx, fs, rfl, ha, h⟩
theorem ty_ins (ha : H a = some (.ins C dx fs)) (c : C8.InsC K C) : TyX K H (.ref a) (.ref C) := .base (.ins ha c.cl c.ha c.hn c.htk c.hm)
theorem go_isiC {x : V} {c : Addr} {b : Bool} (ht : TyX K H x t) (hk : PySem.W.kitOne K t (.ref c) = some b) (h : Q (.bl b) H) : rIsi K [x, .ref c] H Q := ⟨x, .ref c, t, .ref c, b, rfl, .own c, ht, hk, h⟩
end
/-! ### defaults -/
section
variable {K : PySem.W.Frag} {x qual : Str} {params : Arguments} {body : List Stmt} {scope : Scope} {dvs : List V} {kws : List (Str × V)} {f : Addr} {fd : FuncData} {ps ks : List Str}
theorem bindsAll (F : FunD K x qual params body scope dvs kws f fd) (hd : dvs ≠ [])
    (h : ∀ (T : Addr) (kV doc pm : Value) (an : Option Addr) (cdv ct : Value) (us its : List Value), us.length = ps.length → its.length = dvs.length →
      ∃ k, bindArgs (PySem.W.fnOf x qual params body scope (.ref T) kV doc pm an cdv ct) ⟨us, []⟩ = seqItems? (.ref T) >>= k ∧ k (some its.toArray) = pure (ps.zip us)) : Binds K fd ps [] := by
  obtain ⟨ds, r, b⟩ := F.binds1 (ps := ps) ps.length dvs.length hd (by rw [Nat.sub_self, Nat.add_zero]) (fun T kV doc pm an cdv ct us its l1 l2 => by
    obtain ⟨k, e1, e2⟩ := h T kV doc pm an cdv ct us its l1 l2
    exact ⟨k, e1, by rw [List.drop_of_length_le (Nat.le_of_eq l2), List.append_nil]; exact e2⟩)
  rw [List.drop_of_length_le (Nat.le_refl _)] at r
  cases r
  exact b
theorem kbindsD (F : FunD K x qual params body scope dvs kws f fd) (hd : dvs ≠ []) (g : {α : Type} → List α → List α → List α → List α)
    (hrel : ∀ {vs ds zs : List V} {us its ws : List Value}, Vals ds its → Vals vs us → Vals zs ws → Vals (g ds vs zs) (g its us ws))
    (h : ∀ (T : Addr) (kV doc pm : Value) (an : Option Addr) (cdv ct : Value) (us its ws : List Value), its.length = dvs.length → (g its us ws).length = ps.length →
      ∃ k, bindArgs (PySem.W.fnOf x qual params body scope (.ref T) kV doc pm an cdv ct) ⟨us, ks.zip ws⟩ = seqItems? (.ref T) >>= k ∧ k (some its.toArray) = pure (ps.zip (g its us ws))) :
    ∃ its : List Value, KBinds K fd ps ks (g its) (g dvs) := by
  obtain ⟨oc, od, dV, kV, doc, pm, an, cdv, ct, osl, rfl, lk, hcd, hD, hK⟩ := F.ex
  rcases hD with ⟨e, _⟩ | ⟨_, T, o, its, m, rfl, lT, oT, rT⟩
  · exact absurd e hd
  · refine ⟨its, ⟨fun s us ws X hl => ?_, fun r1 r2 => hrel rT r1 r2⟩⟩
    obtain ⟨k, e1, e2⟩ := h T kV doc pm an cdv ct us its ws rT.length.symm hl
    refine BindsTo.of_looks fun M => ?_
    rw [e1]
    exact looks_items X lT oT (.of_pure e2)
end
/-! ### C(k = v, ..) -/
def tMakeK (C : Addr) (sp : Sp) (gV : List V → List V → List V) (E : XK) (tk : TA) : TE := fun σ H Q => tk σ H fun zs H2 => ∀ x dx, H2 x = none → H2 dx = none → dx ≠ x → sp (gV [.ref x] zs) (upd (upd H2 dx (.own x)) x (.ins C dx [])) (fun v H3 => v = .non ∧ Q (.ref x) H3) E
section
variable {X : Cx} {CX : CXT} {k : Nat} {f C : Addr} {fd : FuncData} {ps ks : List Str} {sp : Sp} {E : XK} {x : Str} {p pos : Pos} {kws : List Keyword} {tk : TA} {g : List Value → List Value → List Value} {gV : List V → List V → List V}
theorem pe_makeK0 (M : Mk X.K C f) (F : FnOk X.prog X.w X.K X.mg X.base CX k f fd ps sp) (hr : Room (k + 1) X.A) (hg : Gl X x) (hm : X.mg x = some (.ref C)) (hb : KBinds X.K fd ps ks g gV) (hx : Passes CX X E)
    (hkw : PK X kws tk) (hall : (backToKw pos (keywordEach kws X.env)).all (·.1.isSome) = true := by rfl) (hks : (backToKw pos (keywordEach kws X.env)).filterMap (·.1) = ks := by rfl)
    (hdb : (x == ("__debug__" : Str)) = false := by decide)
    (hpl : ((backTo pos (starEach [] X.env)).any (·.1) || (backToKw pos (keywordEach kws X.env)).any (·.1.isNone)) = false := by rfl) :
    PE X (.Call (.Name x p) [] kws pos) (tMakeK C sp gV E tk) := by
  refine ⟨fun pins s σ H Q I h => ?_⟩
  refine wpAny_Call_Name_kw (ld_glob I hg hm ?_ hdb)
  refine PySem.W.callWith_KW0 (h₀ := X.base) I.ok.mod.kin M.kp hall (thn (hkw.run pos pins s σ H _ I h) fun ws s2 ⟨zs, H2, I2, rz, q2⟩ => ⟨I2.kIn, ?_⟩) hpl
  rw [hks]
  show wpAny _ _ (call (.ref C) [] (ks.zip ws)) _ _ _
  have hq := q2 (s2.heap.objs.size + 1) s2.heap.objs.size (I2.hok.fresh (Nat.le_succ _)) (I2.hok.fresh (Nat.le_refl _)) (Nat.ne_of_lt (Nat.lt_succ_self _))
  have I3 := Inv.made (C := C) I2
  have r1 : Vals [V.ref (s2.heap.objs.size + 1)] [Value.ref (s2.heap.objs.size + 1)] := .cons rfl .nil
  have r2 := hb.rel r1 rz
  have hl : (g [Value.ref (s2.heap.objs.size + 1)] ws).length = ps.length := by rw [← r2.length]; exact F.len _ _ _ _ hq
  refine wpAny_call (make_map (f := f) I2.kIn M.makes M.init (beq_iff_eq.mp M.fn) (codeAny_mono (F.run _ X.stack _ _ ⟨[Value.ref (s2.heap.objs.size + 1)], ks.zip ws⟩ (g [Value.ref (s2.heap.objs.size + 1)] ws) _ _ E (hr.make C [] (ks.zip ws))
    (I3.env0.make C [] (ks.zip ws)) (hb.to _ [Value.ref (s2.heap.objs.size + 1)] ws I3.kIn hl) r2 hq) fun r s' hq' => ?_))
  cases r with
  | error e => exact hx pins σ _ _ e s' I3 hq'
  | ok fl =>
    cases fl with
    | ret u =>
      obtain ⟨v, H', I4, rv, ev, q3⟩ := I3.after hq'
      subst ev
      exact ⟨rv, ⟨V.ref (s2.heap.objs.size + 1), H', I4, rfl, q3⟩⟩
    | next => exact False.elim hq'
    | brk => exact False.elim hq'
    | cont => exact False.elim hq'
end
theorem go_makeK {C : Addr} {sp : Sp} {gV : List V → List V → List V} {E : XK} {tk : TA} {σ : L2.St} {H : Hp} {Q : VK} (h : tk σ H fun zs H2 => ∀ x dx, H2 x = none → H2 dx = none → dx ≠ x → sp (gV [.ref x] zs) (upd (upd H2 dx (.own x)) x (.ins C dx [])) (fun v H3 => v = .non ∧ Q (.ref x) H3) E) : tMakeK C sp gV E tk σ H Q := h
theorem go_make0 {C : Addr} {sp : Sp} {dvs : List V} {E : XK} {σ : L2.St} {H : Hp} {Q : VK} (h : ∀ x dx, H x = none → H dx = none → dx ≠ x → sp (.ref x :: dvs) (upd (upd H dx (.own x)) x (.ins C dx [])) (fun v H2 => v = .non ∧ Q (.ref x) H2) E) : tMake C sp dvs E tNil σ H Q := h
end Vc

/-! Xq: own classes asked by built-in ways: len(x), y in x (my own; over the library's len_K, in_K). -/
namespace Vc
open PySem PySem.Spec PyProof.Rows L2
section
variable {X : Cx} {C g : Addr} {fd : FuncData} {ps : List Str} {sp : Sp} {n : Nat}
/-- an own special method that promises no error, run -/
theorem runO {A : Around} {pins : List (Addr × Obj)} {σ : L2.St} {s : Shared} {H : Hp} {us : List Value} {vs : List V} {Q : VK} {EE : Value → Shared → Prop} (F : FnOk X.prog X.w X.K X.mg X.base CX0 n g fd ps sp) (hr : Room n A) (hb : Binds X.K fd ps [])
    (I : Inv X pins σ H s) (env0 : Env0 X.prog X.w X.K X.mg X.base A X.stack s H) (r2 : Vals vs us) (q : sp vs H Q E0) :
    wpAny (model X.prog X.w) A (call (.ref g) us) (fun u s' => ∃ z H', Inv X pins σ H' s' ∧ RelV z u ∧ Q z H') EE s := by
  have hl := F.len _ _ _ _ q
  have hb' := hb s us I.kIn (by rw [List.append_nil, ← r2.length]; exact hl)
  rw [List.append_nil] at hb'
  refine wpAny_call (codeAny_mono (F.run A X.stack s H ⟨us, []⟩ us vs _ E0 hr env0 hb' r2 q) fun r s' hq => ?_)
  cases r with
  | error e => exact hq.elim
  | ok fl =>
    cases fl with
    | ret w =>
      obtain ⟨z, H', I', rz, qz⟩ := I.after hq
      exact ⟨z, H', I', rz, qz⟩
    | next => exact False.elim hq
    | brk => exact False.elim hq
    | cont => exact False.elim hq
/-- a class's own special method -/
structure SpM (K : PySem.W.Frag) (C g : Addr) (x : Str) : Prop where
  at_ : PySem.W.findIn K (.ref C) x = some (some (.ref g))
  fn : PySem.W.isFn K (.ref g) = true
/-- len(x) by x's own __len__ -/
def rLenO (C : Addr) (sp : Sp) : List V → Hp → VK → Prop := fun xs H Q => ∃ (a dx : Addr) (fs : List (Str × V)), xs = [.ref a] ∧ H a = some (.ins C dx fs) ∧ sp [.ref a] H (fun v H' => ∃ k : Int, v = .int k ∧ 0 ≤ k ∧ k < 2 ^ 63 ∧ Q (.int k) H') E0
theorem call_lenO (F : FnOk X.prog X.w X.K X.mg X.base CX0 n g fd ps sp) (hr : Room (n + 1) X.A) (m : SpM X.K C g "__len__") (hb : Binds X.K fd ps []) : CallR X (.builtin "len") (rLenO C sp) := by
  intro pins s σ H xs us Q I r h
  obtain ⟨a, dx, fs, rfl, ha, q⟩ := h
  rw [Vals.ref1 r]
  obtain ⟨mA, J, _⟩ := ins_get I.hok ha
  obtain ⟨od, J, _⟩ := J.look
  obtain ⟨mm, hF⟩ := I.fr
  refine PySem.W.len_K hF I.ok.mod.kin J m.at_ m.fn ?_
  refine wpAny_mono (runO (vs := [.ref a]) F hr.in1 hb I I.env0.in1 (.cons rfl .nil) q) (fun u s' hq => ?_) (fun _ _ e => e)
  obtain ⟨z, H', I', rz, k, rfl, k0, k1, qz⟩ := hq
  obtain ⟨t, rfl⟩ := rz
  exact ⟨⟨k0, k1⟩, .int k, H', I'.tok _, ⟨_, rfl⟩, qz⟩
/-- y in x by x's own __contains__ -/
def rInO (C : Addr) (sp : Sp) (b0 : Bool) : R2 := fun y x H Q => ∃ (a dx : Addr) (fs : List (Str × V)), x = .ref a ∧ H a = some (.ins C dx fs) ∧ sp [.ref a, y] H (fun v H' => ∃ b, v = .bl b ∧ Q (.bl (xor b0 b)) H') E0
theorem op_inO (F : FnOk X.prog X.w X.K X.mg X.base CX0 n g fd ps sp) (hr : Room n X.A) (m : SpM X.K C g "__contains__") (hb : Binds X.K fd ps []) : OpR X (compareOp .In) (rInO C sp false) := by
  intro pins s σ H y x v u Q I ry rx h
  obtain ⟨a, dx, fs, rfl, ha, q⟩ := h
  cases rx
  obtain ⟨mA, J, _⟩ := ins_get I.hok ha
  obtain ⟨od, J, _⟩ := J.look
  obtain ⟨mm, hF⟩ := I.fr
  refine PySem.W.in_K hF I.ok.mod.kin J m.at_ m.fn ?_
  refine wpAny_mono (runO (vs := [.ref a, y]) F hr hb I I.env0 (.cons rfl (.cons ry .nil)) q) (fun w' s' hq => ?_) (fun _ _ e => e)
  obtain ⟨z, H', I', rz, b, rfl, qz⟩ := hq
  cases rz
  rw [Bool.false_xor] at qz
  exact wpAny_truthy_bool ⟨.bl b, H', I', rfl, qz⟩
theorem op_notinO (F : FnOk X.prog X.w X.K X.mg X.base CX0 n g fd ps sp) (hr : Room n X.A) (m : SpM X.K C g "__contains__") (hb : Binds X.K fd ps []) : OpR X (compareOp .NotIn) (rInO C sp true) := by
  intro pins s σ H y x v u Q I ry rx h
  obtain ⟨a, dx, fs, rfl, ha, q⟩ := h
  cases rx
  obtain ⟨mA, J, _⟩ := ins_get I.hok ha
  obtain ⟨od, J, _⟩ := J.look
  obtain ⟨mm, hF⟩ := I.fr
  refine PySem.W.notIn_K hF I.ok.mod.kin J m.at_ m.fn ?_
  refine wpAny_mono (runO (vs := [.ref a, y]) F hr hb I I.env0 (.cons rfl (.cons ry .nil)) q) (fun w' s' hq => ?_) (fun _ _ e => e)
  obtain ⟨z, H', I', rz, b, rfl, qz⟩ := hq
  cases rz
  rw [Bool.true_xor] at qz
  exact wpAny_truthy_bool ⟨.bl (!b), H', I', rfl, qz⟩
/-- an own special method whose error is wished for at the caller's slots, run -/
theorem runOS {CX : CXT} {E : XK} {A : Around} {pins : List (Addr × Obj)} {σ : L2.St} {s : Shared} {H : Hp} {us : List Value} {vs : List V} {Q : VK} (F : FnOk X.prog X.w X.K X.mg X.base CX n g fd ps sp) (hr : Room n A) (hb : Binds X.K fd ps [])
    (hx : PassesAt CX X σ E) (I : Inv X pins σ H s) (env0 : Env0 X.prog X.w X.K X.mg X.base A X.stack s H) (r2 : Vals vs us) (q : sp vs H Q E) :
    wpAny (model X.prog X.w) A (call (.ref g) us) (EP X pins σ Q) X.xe s := by
  have hl := F.len _ _ _ _ q
  have hb' := hb s us I.kIn (by rw [List.append_nil, ← r2.length]; exact hl)
  rw [List.append_nil] at hb'
  refine wpAny_call (codeAny_mono (F.run A X.stack s H ⟨us, []⟩ us vs _ E hr env0 hb' r2 q) fun r s' hq => ?_)
  cases r with
  | error e => exact hx pins _ _ e s' I hq
  | ok fl =>
    cases fl with
    | ret w => exact I.after hq
    | next => exact False.elim hq
    | brk => exact False.elim hq
    | cont => exact False.elim hq
/-- x[y] by x's own __getitem__ -/
def tIxO (C : Addr) (sp : Sp) (E : L2.St → XK) (ta tb : TE) : TE := fun σ H Q => ta σ H fun x H1 => tb σ H1 fun y H2 => ∃ (a dx : Addr) (fs : List (Str × V)), x = .ref a ∧ H2 a = some (.ins C dx fs) ∧ sp [.ref a, y] H2 Q (E σ)
theorem pe_ixO {CX : CXT} {E : L2.St → XK} {a b : Expr} {ta tb : TE} {pos : Pos} (ha : PE X a ta) (hb0 : PE X b tb) (m : SpM X.K C g "__getitem__") (mf : PySem.W.fnIn X.K g = true) (F : FnOk X.prog X.w X.K X.mg X.base CX n g fd ps sp) (hr : Room (n + 1) X.A)
    (hb : Binds X.K fd ps []) (hx : ∀ σ, PassesAt CX X σ (E σ)) (hsl : ∀ o i, subscripted b true o i = runValue (.builtin "lifetime.subscript" ⟨[o, i], []⟩) := by intro _ _; with_unfolding_all rfl) : PE X (.Subscript a b pos) (tIxO C sp E ta tb) := by
  refine ⟨fun pins s σ H Q I h => ?_⟩
  refine Subscript_ (binT (R := fun x y H2 => ∃ (a dx : Addr) (fs : List (Str × V)), x = .ref a ∧ H2 a = some (.ins C dx fs) ∧ sp [.ref a, y] H2 Q (E σ)) ha hb0 I h fun v u s2 x y H2 I2 rx ry q => ?_)
  obtain ⟨p, dx, fs, rfl, hp, q⟩ := q
  cases rx
  obtain ⟨mA, J, _⟩ := ins_get I2.hok hp
  obtain ⟨od, J, _⟩ := J.look
  obtain ⟨mm, hF⟩ := I2.fr
  exact PySem.W.sub_K hF I2.ok.mod.kin J m.at_ mf m.fn (runOS (vs := [.ref p, y]) F hr.in1 hb (hx σ) I2 I2.env0.in1 (.cons rfl (.cons ry .nil)) q) (hsl _ _)
section
variable {ta tb : TE} {σ : L2.St} {H : Hp} {Q : VK} {E : L2.St → XK}
theorem go_ixO (h : ta σ H fun x H1 => tb σ H1 fun y H2 => ∃ (a dx : Addr) (fs : List (Str × V)), x = .ref a ∧ H2 a = some (.ins C dx fs) ∧ sp [.ref a, y] H2 Q (E σ)) : tIxO C sp E ta tb σ H Q := h
theorem go_insF {a dx : Addr} {fs : List (Str × V)} {R : Addr → Prop} (ha : H a = some (.ins C dx fs)) (h : R a) : ∃ (a' dx : Addr) (fs : List (Str × V)), V.ref a = .ref a' ∧ H a' = some (.ins C dx fs) ∧ R a' := ⟨a, dx, fs, rfl, ha, h⟩
theorem go_lenO {a dx : Addr} {fs : List (Str × V)} (ha : H a = some (.ins C dx fs)) (h : sp [.ref a] H (fun v H' => ∃ k : Int, v = .int k ∧ 0 ≤ k ∧ k < 2 ^ 63 ∧ Q (.int k) H') E0) : rLenO C sp [.ref a] H Q := ⟨a, dx, fs, rfl, ha, h⟩
theorem go_inO {a dx : Addr} {fs : List (Str × V)} {y : V} {b0 : Bool} (ha : H a = some (.ins C dx fs)) (h : sp [.ref a, y] H (fun v H' => ∃ b, v = .bl b ∧ Q (.bl (xor b0 b)) H') E0) : rInO C sp b0 y (.ref a) H Q := ⟨a, dx, fs, rfl, ha, h⟩
end
end
end Vc

/-! Xz: str(x) by x's own __str__; staticmethods called on their class (my own). -/
namespace Vc
open PySem PySem.Spec PyProof.Rows L2
section
open PySem.W PySem.Calls Builtin Builtin.Str
variable {prog : Program} {w : World} {A : Around} {E : Value → Shared → Prop} {s : Shared} {K : Frag} {x C L f : Addr} {h₀ : Heap} {m : Str → Option Value} {ox : Obj} {od : Option Obj}
theorem strOf_own {Q : Value → Shared → Prop} (hu : A.units < cLine) (X : K.In s.heap) (I : InstAt s.heap x ox C od) (hs : findIn K (.ref C) "__str__" = some (some (.ref f))) (hf : isFn K (.ref f) = true)
    (h : wpAny (model prog w) A (call (.ref f) [.ref x]) (StrBack Q) E s) : wpAny (model prog w) A (Builtin.Str.strOf (.ref x)) Q E s := by
  unfold Builtin.Str.strOf
  rw [if_neg (show ¬ isExactStr (Value.ref x) = true from by intro z; cases z)]
  refine wpAny_bind (wpAny_cRoomFor hu ?_)
  refine wpAny_bind (m := callSpecial? (.ref x) (Str.ofString "__str__")) (special_fn X I hs (beq_iff_eq.mp hf) (wpAny_mono h (fun r s' hr => ?_) fun _ _ y => y))
  cases r <;> first | exact hr.elim | skip
  repeat (first | wp_step)
  exact hr
theorem str_own {Q : Value → Shared → Prop} (hu : A.units + 2 < cLine) (X : K.In s.heap) (I : InstAt s.heap x ox C od) (hs : findIn K (.ref C) "__str__" = some (some (.ref f))) (hf : isFn K (.ref f) = true)
    (h : wpAny (model prog w) A.in1.in1 (call (.ref f) [.ref x]) (StrBack Q) E s) : wpAny (model prog w) A (call (.type "str") [.ref x]) Q E s :=
  callType_newIn F.called_str (by decide) (F.typeCall_str_1 _) (F.newCall_str_1 _) (fun obj => F.args_object_init_2 obj _) F.entry_str_new
    (S := fun A' R s' => A'.units + 1 < cLine ∧ K.In s'.heap ∧ InstAt s'.heap x ox C od ∧ wpAny (model prog w) A'.in1 (call (.ref f) [.ref x]) (StrBack fun r s1 => R (.ok (.ret r)) s1) (fun e s1 => R (.error e) s1) s')
    (.of_wp fun A' R s' hq => by
      rw [str_new_tree (.ref x)]
      refine wpAny_bind (wpAny_pure ?_)
      refine wpAny_bind (wpAny_of_eq isSubtype_str_str ?_)
      exact wpAny_bind (wpAny_mono (strOf_own (A := A'.in1) (Q := fun r s1 => R (.ok (.ret r)) s1) hq.1 hq.2.1 hq.2.2.1 hs hf hq.2.2.2) (fun r s1 h1 => wpAny_pure ⟨_, rfl, h1⟩) fun _ _ e => e))
    ⟨hu, X, I, wpAny_mono h (fun r s1 h1 => by
      cases r <;> first | exact h1.elim | skip
      exact ⟨typeIs_str _ _ _, h1⟩) fun _ _ e => e⟩
end
section
variable {X : Cx} {C g : Addr} {fd : FuncData} {ps : List Str} {sp : Sp} {n : Nat}
/-- str(x) by x's own __str__ -/
def rStrO (C : Addr) (sp : Sp) : List V → Hp → VK → Prop := fun xs H Q => ∃ (a dx : Addr) (fs : List (Str × V)), xs = [.ref a] ∧ H a = some (.ins C dx fs) ∧ sp [.ref a] H (fun v H' => ∃ z, v = .str z ∧ Q (.str z) H') E0
theorem call_strO (F : FnOk X.prog X.w X.K X.mg X.base CX0 n g fd ps sp) (hr : Room (n + 2) X.A) (m : SpM X.K C g "__str__") (hb : Binds X.K fd ps []) : CallR X (.type "str") (rStrO C sp) := by
  intro pins s σ H xs us Q I r h
  obtain ⟨a, dx, fs, rfl, ha, q⟩ := h
  rw [Vals.ref1 r]
  obtain ⟨mA, J, _⟩ := ins_get I.hok ha
  obtain ⟨od, J, _⟩ := J.look
  refine str_own (by have := hr.un; omega) I.kIn J m.at_ m.fn ?_
  refine wpAny_mono (runO (vs := [.ref a]) F hr.in1.in1 hb I I.env0.in1.in1 (.cons rfl .nil) q) (fun u s' hq => ?_) (fun _ _ e => e)
  obtain ⟨z, H', I', rz, k, rfl, qz⟩ := hq
  obtain ⟨t, rfl⟩ := rz
  exact ⟨.str k, H', I', ⟨_, rfl⟩, qz⟩
/-! ### C.m(..), m a staticmethod -/
structure SMet (K : PySem.W.Frag) (C : Addr) (mc : Value) (m : Str) (p g : Addr) : Prop where
  at_ : PySem.W.findCls K (.ref C) mc m = some (.get (.builtin "staticmethod.__get__") (.ref p) .none (.ref C))
  rc : ∃ rest, PySem.W.recIn K p "staticmethod" = some (.ref g :: rest)
  kp : PySem.W.keepIn K (.ref g) = true
theorem getsm_ok {pins : List (Addr × Obj)} {σ : L2.St} {H : Hp} {s : Shared} {A : Around} {E : Value → Shared → Prop} {mc : Value} {m : Str} {p : Addr} {pl : Sem Bool} {Q : Value × List Value → Shared → Prop} (I : Inv X pins σ H s) (r : ClX.CRead X.K C mc) (k : SMet X.K C mc m p g)
    (h : ∀ s', Inv X pins σ H s' → Q (.ref g, []) s') : wpAny (model X.prog X.w) A (getMethod (.ref C) m pl) Q E s := by
  obtain ⟨rest, hp⟩ := k.rc
  refine PySem.W.method_cls I.kIn r.ga ?_
  refine PySem.W.cls_bind I.kIn r.rd k.at_ ?_
  exact wpAny_call (PySem.W.sm_get (s := { s with toks := s.toks + 1 }) I.kIn hp (PySem.W.handed_on rfl (h _ (I.tok _))))
def tSMeth (C : Addr) (sp : Sp) (E : XK) (ta : TE) (t : TA) : TE := fun σ H Q => ta σ H fun x H1 => x = .ref C ∧ t σ H1 fun vs H2 => sp vs H2 Q E
theorem pe_smeth {CX : CXT} {E : XK} {o e : Expr} {es : List Expr} {m : Str} {pos apos : Pos} {ta : TE} {t : TA} {pl : Sem Bool} {mc : Value} {p : Addr} (he : PE X o ta) (r : ClX.CRead X.K C mc) (c : SMet X.K C mc m p g) (F : FnOk X.prog X.w X.K X.mg X.base CX n g fd ps sp) (hr : Room n X.A) (hb : Binds X.K fd ps []) (hx : Passes CX X E) (ha : PA X (e :: es) t)
    (hst : starEach (e :: es) X.env = (false, eval e X.env) :: starEach es X.env := by rfl) (hpl : (backTo pos (starEach es X.env)).any (·.1) = false := by rfl)
    (ht : eval (.Call (.Attribute o m apos) (e :: es) [] pos) X.env = (do
      let ov ← eval o X.env
      standAt apos.atName
      let (f, first) ← holding [ov] (getMethod ov m pl)
      callWith pos f first (backTo pos (starEach (e :: es) X.env)) (backToKw pos (keywordEach [] X.env))) := by rfl) :
    PE X (.Call (.Attribute o m apos) (e :: es) [] pos) (tSMeth C sp E ta t) := by
  refine ⟨fun pins s σ H Q I h => ?_⟩
  refine PySem.W.methodCall_KW (pl := pl) (thn (he.run pins s σ H _ I h) fun u s1 ⟨x, H1, I1, rx, ex, q⟩ => ?_) ht
  subst ex
  obtain rfl : u = Value.ref C := rx
  refine getsm_ok I1 r c fun s2 I2 => ?_
  refine PySem.W.callWith_K (first := []) (h₀ := X.base) I.ok.mod.kin c.kp (thn (ha.run pos pins s2 σ H1 _ I2 q) fun us s3 ⟨vs, H2, I3, r3, q2⟩ => ⟨I3.kIn, ?_⟩) hst hpl
  exact run_fn F hr hb .nil hx I3 r3 (by rw [List.append_nil]; exact q2)
theorem pe_smeth0 {CX : CXT} {E : XK} {o : Expr} {m : Str} {pos apos : Pos} {ta : TE} {pl : Sem Bool} {mc : Value} {p : Addr} (he : PE X o ta) (r : ClX.CRead X.K C mc) (c : SMet X.K C mc m p g) (F : FnOk X.prog X.w X.K X.mg X.base CX n g fd ps sp) (hr : Room n X.A) (hb : Binds X.K fd ps []) (hx : Passes CX X E)
    (ht : eval (.Call (.Attribute o m apos) [] [] pos) X.env = (do
      let ov ← eval o X.env
      standAt apos.atName
      let (f, first) ← holding [ov] (getMethod ov m pl)
      callWith pos f first (backTo pos (starEach [] X.env)) (backToKw pos (keywordEach [] X.env))) := by rfl) :
    PE X (.Call (.Attribute o m apos) [] [] pos) (tSMeth C sp E ta tNil) := by
  refine ⟨fun pins s σ H Q I h => ?_⟩
  refine PySem.W.methodCall_KW (pl := pl) (thn (he.run pins s σ H _ I h) fun u s1 ⟨x, H1, I1, rx, ex, q⟩ => ?_) ht
  subst ex
  obtain rfl : u = Value.ref C := rx
  refine getsm_ok I1 r c fun s2 I2 => ?_
  exact PySem.W.callWith_K0 I2.kIn c.kp (run_fn (us := []) F hr hb .nil hx I2 .nil (by rw [List.append_nil]; exact q))
section
variable {K : PySem.W.Frag} {σ : L2.St} {H : Hp} {Q : VK} {ta : TE} {t : TA} {E : XK}
theorem go_strO {a dx : Addr} {fs : List (Str × V)} (ha : H a = some (.ins C dx fs)) (h : sp [.ref a] H (fun v H' => ∃ z, v = .str z ∧ Q (.str z) H') E0) : rStrO C sp [.ref a] H Q := ⟨a, dx, fs, rfl, ha, h⟩
theorem go_smeth (h : ta σ H fun x H1 => x = .ref C ∧ t σ H1 fun vs H2 => sp vs H2 Q E) : tSMeth C sp E ta t σ H Q := h
theorem go_refC {P : Prop} (h : P) : V.ref C = V.ref C ∧ P := ⟨rfl, h⟩
end
end
/-! ### dicts whose values are data, compared: equal ones -/
theorem hits_dp {X : Cx} {pins : List (Addr × Obj)} {σ : L2.St} {H : Hp} {s : Shared} (I : Inv X pins σ H s) {A : Around} (hu : A.in1.units + 64 < cLine) {ls : List (Key × V)} {vb : List (Key × Value)} (rb : KV ls vb) {ks : List (Key × V)} {va : List (Key × Value)}
    (ra : KV ks va) : (∀ p ∈ ks, ∃ u d, valV ls p.1 = some u ∧ Dp X.K H p.2 d ∧ Dp X.K H u d ∧ SeqAt.shaped d = true) → PySem.W.KeqHits A.in1 s vb va true := by
  unfold KV at ra
  induction ra with
  | nil => intro _; exact .nil
  | @cons p q ps qs h t k =>
    intro hp
    obtain ⟨h1, h2⟩ := h
    obtain ⟨u, d, e, d1, d2, sd⟩ := hp p List.mem_cons_self
    have rr : RelO (some u) (valueAt vb p.1) := by rw [← e]; exact rb.val p.1
    obtain ⟨y, hy, ry⟩ := rr.some_of
    obtain ⟨key, v⟩ := q
    have h1' : p.1 = key := h1
    rw [h1'] at hy
    obtain ⟨as, r1⟩ := Dp.reads I d _ _ d1 h2
    obtain ⟨bs, r2⟩ := Dp.reads I d _ _ d2 ry
    have eq := PySem.W.keq_at (A := A) r1 r2 sd sd hu
    rw [SeqAt.eqv_refl d (SeqAt.canLay_of_shaped sd)] at eq
    show PySem.W.KeqHits A.in1 s vb ((key, v) :: qs) (true && true)
    exact .hit hy eq (k fun p' hm => hp p' (List.mem_cons_of_mem _ hm))
def rDD (K : PySem.W.Frag) (b : Bool) : R2 := fun x y H Q => ∃ a c ks ls, x = .ref a ∧ y = .ref c ∧ H a = some (.dK ks) ∧ H c = some (.dK ls) ∧ ks.length = ls.length ∧ (∀ p ∈ ks, ∃ u d, valV ls p.1 = some u ∧ Dp K H p.2 d ∧ Dp K H u d ∧ SeqAt.shaped d = true) ∧ Q (.bl b) H
theorem op_eqDD {X : Cx} (hu : X.A.units + 66 < cLine) : OpR X (compareOp .Eq) (rDD X.K true) := by
  intro pins s σ H x y v u Q I rx ry h
  obtain ⟨a, b, ks, ls, rfl, rfl, ea, eb, hlen, hp, q⟩ := h
  obtain rfl : v = Value.ref a := rx
  obtain rfl : u = Value.ref b := ry
  obtain ⟨_, ya, va, ra, da⟩ := (show ObjOk X.prog X.w H s.heap a (.dK ks) from I.hok a _ ea)
  obtain ⟨_, yb, vb, rb, db⟩ := (show ObjOk X.prog X.w H s.heap b (.dK ls) from I.hok b _ eb)
  have hl : va.length = vb.length := by rw [← ra.length, ← rb.length]; exact hlen
  exact PySem.W.keq_eq (knd := mixKind X.prog X.w) (r := true) ya yb da db (by omega) (fun _ => hits_dp I (by show X.A.units + 1 + 64 < cLine; omega) rb ra hp) (fin_bl I q (by simp [hl]))
theorem op_neDD {X : Cx} (hu : X.A.units + 66 < cLine) : OpR X (compareOp .NotEq) (rDD X.K false) := by
  intro pins s σ H x y v u Q I rx ry h
  obtain ⟨a, b, ks, ls, rfl, rfl, ea, eb, hlen, hp, q⟩ := h
  obtain rfl : v = Value.ref a := rx
  obtain rfl : u = Value.ref b := ry
  obtain ⟨_, ya, va, ra, da⟩ := (show ObjOk X.prog X.w H s.heap a (.dK ks) from I.hok a _ ea)
  obtain ⟨_, yb, vb, rb, db⟩ := (show ObjOk X.prog X.w H s.heap b (.dK ls) from I.hok b _ eb)
  have hl : va.length = vb.length := by rw [← ra.length, ← rb.length]; exact hlen
  exact PySem.W.keq_ne (knd := mixKind X.prog X.w) (r := true) ya yb da db (by omega) (fun _ => hits_dp I (by show X.A.units + 1 + 64 < cLine; omega) rb ra hp) (fin_bl I q (by simp [hl]))
theorem room66 {k : Nat} {A : Around} (r : Room k A) : A.units + 66 < cLine := by have := r.un; omega
/-! ### d.pop(k), there -/
def rDPop : V → List V → Hp → VK → Prop := fun x xs H Q => ∃ (a : Addr) (kvs : List (Key × V)) (k : Key) (v : V), x = .ref a ∧ xs = [kV k] ∧ H a = some (.dK kvs) ∧ valV kvs k = some v ∧ Q v (upd H a (.dK (dropK kvs k)))
theorem mt_dpop {X : Cx} : MtR X "dict.pop" rDPop := by
  intro pins s σ H x xs v us Q I rx rxs h
  obtain ⟨a, kvs, k, v', rfl, rfl, e, l, q⟩ := h
  cases rx
  obtain ⟨u, rfl, ru⟩ := rxs.one
  exact d_pop I e ru l (.inl rfl) fun w' s' I' r' => ⟨v', _, I', r', q⟩
section
variable {K : PySem.W.Frag} {H : Hp} {Q : VK} {σ : L2.St} {te : TE} {ts : List TE} {acc : Str}
theorem go_dpopI {a : Addr} {kvs : List (Key × V)} {k : Int} {v : V} (e : H a = some (.dK kvs)) (l : valV kvs (.inl k) = some v) (h : Q v (upd H a (.dK (dropK kvs (.inl k))))) : rDPop (.ref a) [.int k] H Q := ⟨a, kvs, .inl k, v, rfl, rfl, e, l, h⟩
theorem go_tyD {a : Addr} {kvs : List (Key × V)} {P : Prop} (e : H a = some (.dK kvs)) (h : P) : tyV K "dict" (.ref a) H ∧ P := ⟨.inr (.inr (.inl ⟨rfl, .inl ⟨kvs, e⟩⟩)), h⟩
theorem go_dclear {a : Addr} {kvs : List (Key × V)} (e : H a = some (.dK kvs)) (h : Q .non (upd H a (.dK []))) : rDClear (.ref a) [] H Q := ⟨a, kvs, rfl, rfl, e, h⟩
theorem go_lclear {a : Addr} {xs : List V} (e : H a = some (.lst xs)) (h : Q .non (upd H a (.lst []))) : rClear (.ref a) [] H Q := ⟨a, xs, rfl, rfl, e, h⟩
theorem go_revL (h : te σ H fun x H1 => ∃ a xs, x = .ref a ∧ SqL K H1 a xs ∧ ∀ p, H1 p = none → Q (.ref p) (upd H1 p (.lst xs.reverse))) : tRevL K te σ H Q := h
theorem go_revLV {a : Addr} {xs : List V} {R : List V → Prop} (e : SqL K H a xs) (h : R xs) : ∃ a' ys, V.ref a = .ref a' ∧ SqL K H a' ys ∧ R ys := ⟨a, xs, rfl, e, h⟩
theorem go_js0 {R : Str → Hp → Prop} (h : R acc H) : tJs [] acc σ H R := h
theorem go_jsS {y : Str} {R : Str → Hp → Prop} (l : (acc ++ y).length ≤ 1000) (h : tJs ts (acc ++ y) σ H R) : tJs (tC (.str y) :: ts) acc σ H R := ⟨y, rfl, Nat.le_of_lt (small1000 l), h⟩
theorem go_js {R : Str → Hp → Prop} (h : te σ H fun x H1 => ∃ y : Str, x = .str y ∧ (acc ++ y).length ≤ sizeLine ∧ tJs ts (acc ++ y) σ H1 R) : tJs (te :: ts) acc σ H R := h
theorem go_jsV {y : Str} {P : Str → Prop} (l : (acc ++ y).length ≤ 1000) (h : P y) : ∃ z : Str, V.str y = .str z ∧ (acc ++ z).length ≤ sizeLine ∧ P z := ⟨y, rfl, Nat.le_of_lt (small1000 l), h⟩
theorem go_szS {y : Str} {P : Prop} (l : y.length ≤ 1000) (h : P) : y.length ≤ sizeLine ∧ P := ⟨Nat.le_of_lt (small1000 l), h⟩
theorem go_fmt (h : te σ H fun x H1 => (∃ y : Str, x = .str y ∧ y.length ≤ sizeLine ∧ Q (.str y) H1) ∨ ∃ i : Int, x = .int i ∧ i.natAbs.log2 < 1920 ∧ Q (.str (toString i)) H1) : tFmt te σ H Q := h
theorem go_fmtS {y : Str} {P : Str → Prop} {P' : Int → Prop} (l : y.length ≤ 1000) (h : P y) : (∃ z : Str, V.str y = .str z ∧ z.length ≤ sizeLine ∧ P z) ∨ ∃ i : Int, V.str y = .int i ∧ i.natAbs.log2 < 1920 ∧ P' i := .inl ⟨y, rfl, Nat.le_of_lt (small1000 l), h⟩
theorem go_fmtI {i : Int} {P : Str → Prop} {P' : Int → Prop} (l : i.natAbs.log2 < 1920) (h : P' i) : (∃ z : Str, V.int i = .str z ∧ z.length ≤ sizeLine ∧ P z) ∨ ∃ j : Int, V.int i = .int j ∧ j.natAbs.log2 < 1920 ∧ P' j := .inr ⟨i, rfl, l, h⟩
theorem go_strI {i : Int} {P : Int → Prop} (l : i.natAbs.log2 < 1920) (h : P i) : ∃ j, [V.int i] = [.int j] ∧ j.natAbs.log2 < 1920 ∧ P j := ⟨i, rfl, l, h⟩
end
end Vc

/-! Xi: list(x), x of an own class whose __iter__ gives a list's iterator (and that has its own __len__). -/
namespace Vc
open PySem PySem.Spec PyProof.Rows L2
section
variable {prog : Program} {w : World} {A : Around} {E : Value → Shared → Prop} {s : Shared} {it l : Addr} {i : Nat} {items : Array Value}
theorem py_item {x : Value} {Q : Option Value → Shared → Prop} (ho : s.heap.get? it = some (GNX.itObj l i)) (hl : s.heap.IsList l items) (hx : items[i]? = some x)
    (hQ : ∀ h', h'.get? it = some (GNX.itObj l (i + 1)) → Heap.SameBut it s.heap h' → Q (some x) { s with heap := h' }) : wpAny (model prog w) A (pyNext (.ref it)) Q E s := by
  have hit : s.heap.IsListIter it l i := ⟨_, ho, rfl, rfl⟩
  unfold pyNext
  refine wpAny_bind (wpAny_attempt (wpAny_callSpecial?_slot (name := Str.ofString "__next__") hit.typeIs slot_listiter_next
    (wpAny_call_entry slot_listiter_next hit.typeIs entry_listiter_next ?_ (args_listiter_next _))))
  exact GNX.next_item ho hl hx fun h' e' sb => wpAny_pure (hQ h' e' sb)
theorem py_end {Q : Option Value → Shared → Prop} (hh : A.handled = none) (ho : s.heap.get? it = some (GNX.itObj l i)) (hl : s.heap.IsList l items) (hx : items[i]? = none)
    (hQ : ∀ h1 h' e vs, h1.get? it = some (GNX.itEnd i) → Heap.SameBut it s.heap h1 → (∀ b o, h1.get? b = some o → h'.get? b = some o) → h1.get? e = none →
      h'.get? e = some { cls := .type "StopIteration", data := .fields vs } → vs[1]? = some .none → Q none { s with heap := h' }) : wpAny (model prog w) A (pyNext (.ref it)) Q E s := by
  have hit : s.heap.IsListIter it l i := ⟨_, ho, rfl, rfl⟩
  unfold pyNext
  refine wpAny_bind (wpAny_attempt (wpAny_callSpecial?_slot (name := Str.ofString "__next__") hit.typeIs slot_listiter_next
    (wpAny_call_entry slot_listiter_next hit.typeIs entry_listiter_next ?_ (args_listiter_next _))))
  refine GNX.next_end hh ho hl hx fun h1 h' e vs e1 sb k ne he hv => ?_
  refine wpAny_bind (wpAny_isInstance (T := "StopIteration") (b := true) ⟨_, he, rfl⟩ isSubtype_stop ?_)
  exact wpAny_pure (hQ h1 h' e vs e1 sb k ne he hv)
end
section
variable {X : Cx} {pins : List (Addr × Obj)} {σ : L2.St}
theorem li_loop {q it l : Addr} {zs : List V} {H0 : Hp} {A1 : Around} {Rs : Result → Shared → Prop} (hh : A1.in1.handled = none) (hlq : l ≠ q) (hli : l ≠ it) (hiq : it ≠ q) (zl : zs.length ≤ 1000)
    (hdone : ∀ H s, Inv X pins σ H s → H q = some (.lst zs) → Ed [q, it] H0 H → Rs (.ok (.ret .none)) s) :
    ∀ (n i : Nat) (H : Hp) (s : Shared), n + i = zs.length → Inv X pins σ H s → H it = some (ItO l it i) → SqL X.K H l zs → H q = some (.lst (zs.take i)) → Ed [q, it] H0 H →
      codeAny (model X.prog X.w) A1 (.builtin "list.extend.loop" ⟨[.ref q, .ref it, .none], []⟩) Rs s := by
  intro n
  induction n with
  | zero =>
    intro i H s hn I hit hl hq e
    refine codeAny_builtin PySem.F.entry_extend_loop ?_
    rw [Around.under_plainId PySem.F.plain_extend_loop _]
    show wpAny _ A1.in1 (pyNext (.ref it) >>= _) _ _ s
    obtain ⟨its, rv, pl, hz⟩ := I.list hl
    have mu : Mut (H it) := by rw [hit]; exact True.intro
    refine wpAny_bind (py_end hh (itO_get I hit) pl.isList (by rw [List.getElem?_toArray]; exact rv.none_of (by rw [List.getElem?_eq_none]; omega)) fun h1 h' e' vs e1 sb k ne he hv => ?_)
    have I2 : Inv X pins σ (upd H it (ItE it i)) { s with heap := h1 } := I.write (x := it) (e := it) (t' := s.toks) mu (.inl rfl) (fun b o nb z => (sb.2 b nb).trans z) ⟨_, e1⟩ (itE_ok e1)
    generalize hu : upd H it (ItE it i) = H2 at I2
    obtain ⟨e2, h2⟩ := chg hu hit
    have I3 : Inv X pins σ H2 { s with heap := h' } := L2.Inv.turnedL (s := { s with heap := h1 }) I2 (t' := s.toks) (ch := []) (h' := h') (fun b o _ e => k b o e) (fun b hb => by cases hb)
    refine wpAny_pure (hdone H2 _ I3 ?_ (e.one e2 (.inl (by simp))))
    rw [e2.at1 hiq.symm hq, List.take_of_length_le (by omega)]
  | succ n ih =>
    intro i H s hn I hit hl hq e
    refine codeAny_builtin PySem.F.entry_extend_loop ?_
    rw [Around.under_plainId PySem.F.plain_extend_loop _]
    show wpAny _ A1.in1 (pyNext (.ref it) >>= _) _ _ s
    obtain ⟨its, rv, pl, hz⟩ := I.list hl
    have mu : Mut (H it) := by rw [hit]; exact True.intro
    obtain ⟨v, hv⟩ : ∃ v, zs[i]? = some v := ⟨_, List.getElem?_eq_getElem (by omega)⟩
    obtain ⟨u, hu, ru⟩ := rv.get hv
    refine wpAny_bind (py_item (itO_get I hit) pl.isList (x := u) (by rw [List.getElem?_toArray]; exact hu) fun h' e' sb => ?_)
    have I2 : Inv X pins σ (upd H it (ItO l it (i + 1))) { s with heap := h' } := I.write (x := it) (e := it) (t' := s.toks) mu (.inl rfl) (fun b o nb z => (sb.2 b nb).trans z) ⟨_, e'⟩ (itO_ok e')
    generalize hg : upd H it (ItO l it (i + 1)) = H2 at I2
    obtain ⟨e2, h2⟩ := chg hg hit
    have hq2 := e2.at1 hiq.symm hq
    show wpAny _ A1.in1 (updateSeq q (·.push u) >>= _) _ _ _
    obtain ⟨z, its2, k, r2, hl2, e3⟩ := I2.lstM hq2
    refine wpAny_bind (wpAny_updateSeq e3 rfl (wpAny_pure ⟨plainId_quiet PySem.F.plain_extend_loop _, ?_⟩) (by rw [List.size_toArray]; omega) (by show (its2.toArray.push u).size ≤ sizeLine + 1; rw [Array.size_push, List.size_toArray]; omega))
    have I3 := I2.lset (f := (·.push u)) (its' := its2 ++ [u]) (t' := s.toks) hq2 e3 (by simp) (r2.append (.cons ru .nil)) (by have := small1000 zl; rw [List.length_append, List.length_take]; show _ + 1 ≤ _; omega)
    generalize hw : upd H2 q _ = H3 at I3
    obtain ⟨e4, h4⟩ := chg hw hq2
    refine ih (i + 1) H3 _ (by omega) I3 (e4.at1 hiq h2) ?_ ?_ ?_
    · exact e4.sql1 hlq (e2.sql1 hli hl)
    · rw [h4, List.take_add_one, hv]; rfl
    · exact (e.one e2 (.inl (by simp))).one e4 (.inl (by simp))
/-- x's own __len__, asked for a hint -/
theorem li_hint {H : Hp} {s : Shared} {C g a : Addr} {dx : Addr} {fs : List (Str × V)} {fd : FuncData} {ps : List Str} {sp : Sp} {n : Nat} {A1 : Around} {EE : Value → Shared → Prop} {Q : Bool → Shared → Prop}
    (F : FnOk X.prog X.w X.K X.mg X.base CX0 n g fd ps sp) (hr : Room n A1.in1) (m : SpM X.K C g "__len__") (hb : Binds X.K fd ps []) (I : Inv X pins σ H s) (env0 : Env0 X.prog X.w X.K X.mg X.base A1.in1 X.stack s H) (ha : H a = some (.ins C dx fs))
    {G : VK} (q : sp [.ref a] H G E0) (kk : ∀ v H', G v H' → ∃ k : Int, v = .int k ∧ 0 ≤ k ∧ k ≤ 1000 ∧ ∀ s', Inv X pins σ H' s' → ∀ b, Q b s') : wpAny (model X.prog X.w) A1 (Builtin.List.listLengthHint (.ref a)) Q EE s := by
  obtain ⟨mA, J, _⟩ := ins_get I.hok ha
  obtain ⟨od, J, _⟩ := J.look
  obtain ⟨mm, hF⟩ := I.fr
  unfold Builtin.List.listLengthHint
  refine wpAny_bind (wpAny_bind (J.type.here ((PySem.W.looks_findIn I.kIn m.at_).here ?_)))
  refine PySem.W.KFB.if_not rfl ?_
  refine wpAny_bind (m := rule "list.length-hint.len") (wpAny_rule ?_)
  refine wpAny_bind (wpAny_attempt ?_)
  refine PySem.W.len_K hF I.ok.mod.kin J m.at_ m.fn ?_
  refine wpAny_mono (runO (vs := [.ref a]) (EE := fun _ _ => False) F hr hb I env0 (.cons rfl .nil) q) (fun u s' hq => ?_) (fun _ _ e => e.elim)
  obtain ⟨z, H', I', rz, hg⟩ := hq
  obtain ⟨k, rfl, k0, k1, qz⟩ := kk _ _ hg
  obtain ⟨t, rfl⟩ := rz
  refine ⟨⟨k0, by omega⟩, ?_⟩
  have tl : Builtin.List.listTooLong k.toNat = false := notLongL (Nat.le_of_lt (small1000 (by omega)))
  refine wpAny_bind (m := asInt? (.int k _)) (wpAny_of_eq (a := some k) rfl ?_)
  show wpAny _ _ (if Builtin.List.listTooLong k.toNat = true then _ else _) _ _ _
  rw [tl, if_neg (by decide)]
  exact wpAny_pure (qz _ (I'.tok _) _)
/-- what x's own __iter__ and __len__ do: a list's iterator, a number -/
def LiRun (K : PySem.W.Frag) (spI spL : Sp) (a q : Addr) (zs : List V) (H : Hp) (R : Hp → Prop) : Prop :=
  spI [.ref a] H (fun v H1 => ∃ l it, v = .ref it ∧ Ed [] H H1 ∧ H it = none ∧ H1 it = some (ItO l it 0) ∧ SqL K H1 l zs ∧ l ≠ q ∧ l ≠ it ∧
    spL [.ref a] H1 (fun w H2 => ∃ k : Int, w = .int k ∧ 0 ≤ k ∧ k ≤ 1000 ∧ Ed [] H1 H2 ∧ R H2) E0) E0
theorem li_extend {H : Hp} {s : Shared} {C gi gl a q dx : Addr} {fs : List (Str × V)} {fdI fdL : FuncData} {psI psL : List Str} {spI spL : Sp} {n : Nat} {A1 : Around} {zs : List V} {Rs : Result → Shared → Prop}
    (FI : FnOk X.prog X.w X.K X.mg X.base CX0 n gi fdI psI spI) (mI : SpM X.K C gi "__iter__") (bI : Binds X.K fdI psI []) (FL : FnOk X.prog X.w X.K X.mg X.base CX0 n gl fdL psL spL) (mL : SpM X.K C gl "__len__") (bL : Binds X.K fdL psL [])
    (sb : Sub X n A1.in1.in1) (sb1 : Sub X n A1.in1) (hh : A1.in1.handled = none) (I : Inv X pins σ H s) (ha : H a = some (.ins C dx fs)) (hq : H q = some (.lst [])) (zl : zs.length ≤ 1000)
    (hrun : LiRun X.K spI spL a q zs H fun _ => True) (hdone : ∀ H' s', Inv X pins σ H' s' → Ed [q] H H' → H' q = some (.lst zs) → Rs (.ok (.ret .none)) s') :
    wpAny (model X.prog X.w) A1.in1 (Builtin.List.listExtendWith (.ref q) (.ref a) .none)
      (fun fin s' => match fin with | .done f => Rs (.ok f) s' | .again c' => c'.quiet = true ∧ codeAny (model X.prog X.w) A1 c' Rs s') (fun e s' => Rs (.error e) s') s := by
  have hne : q ≠ a := ne_of hq ha (fun z => nomatch z)
  obtain ⟨mA, J, _⟩ := ins_get I.hok ha
  obtain ⟨od, J, _⟩ := J.look
  obtain ⟨m0, hF⟩ := I.fr
  unfold Builtin.List.listExtendWith
  refine wpAny_bind (J.type.here ?_)
  have h1 : Builtin.List.listSameRef (.ref q) (.ref a) = false := by simp [Builtin.List.listSameRef, hne]
  have h2 : (Value.ref C == Value.type "list") = false := rfl
  have h3 : (Value.ref C == Value.type "tuple") = false := rfl
  simp only [h1, h2, h3, Bool.or_false, Bool.false_eq_true, if_false]
  refine wpAny_bind (PySem.W.owit_iter hF I.ok.mod.kin J mI.at_ mI.fn ?_)
  have env : ∀ {A' : Around} {s' : Shared} {H' : Hp}, Sub X n A' → Inv X pins σ H' s' → Env0 X.prog X.w X.K X.mg X.base A' X.stack s' H' := fun sb I => by
    have e := I.env0
    exact ⟨by rw [sb.fr]; exact e.frames, e.mod, e.bs, e.bsz, e.funs, e.frf, e.hok, e.bare⟩
  refine wpAny_mono (runO (vs := [.ref a]) (EE := fun _ _ => False) FI sb1.room bI I (env sb1 I) (.cons rfl .nil) hrun) (fun u s' hq' => ?_) (fun _ _ e => e.elim)
  obtain ⟨z, H1, I1, rz, l, it, rfl, e1, nit, hit, hl, hlq, hli, hL⟩ := hq'
  cases rz
  have hT : s'.TypeIs (.ref it) "list_iterator" := ⟨_, itO_get I1 hit, rfl⟩
  unfold PySem.W.OwitIt
  refine wpAny_specialOf (name := Str.ofString "__next__") hT slot_listiter_next.lookup ?_
  have ha1 := e1.at0 ha
  have hq1 := e1.at0 hq
  have hiq : it ≠ q := fun z => by rw [z, hq] at nit; cases nit
  refine wpAny_bind (wpAny_holding (li_hint FL sb.room mL bL I1 (env sb I1) ha1 hL fun v H2 hg => ?_))
  obtain ⟨k, ek, k0, k1, e2, _⟩ := hg
  refine ⟨k, ek, k0, k1, fun s2 I2 b => ?_⟩
  have hq2 := e2.at0 hq1
  have hit2 : H2 it = some (ItO l it 0) := e2.keep _ _ (fun z => nomatch z) hit
  have hl2 := e2.sql0 hl
  have e12 : Ed [] H H2 := e1.ex e2
  have loop : ∀ s3, Inv X pins σ H2 s3 → codeAny (model X.prog X.w) A1 (.builtin "list.extend.loop" ⟨[.ref q, .ref it, .none], []⟩) Rs s3 := fun s3 I3 =>
    li_loop hh hlq hli hiq zl (H0 := H2) (fun H' s' I' hq' e' => hdone H' s' I' (Ed.two' e' (Ed.refl.ex e12) (.inl (by simp)) (.inr nit)) hq') zs.length 0 H2 s3 (by omega) I3 hit2 hl2 (by rw [hq2]; rfl) .refl
  obtain ⟨z, its, kk, r3, hl3, e3⟩ := I2.lstM hq2
  cases r3
  refine wpAny_ite_split (fun _ => ?_) (fun _ => wpAny_pure ⟨plainId_quiet PySem.F.plain_extend_loop _, loop _ I2⟩)
  refine wpAny_bind (wpAny_rule ?_)
  refine wpAny_bind ?_
  show wpAny _ _ (updateSeq q (·.push .none) >>= fun _ => updateSeq q (·.pop)) _ _ _
  refine wpAny_bind (wpAny_updateSeq e3 rfl ?_)
  have I3 := I2.lset (f := (·.push Value.none)) (its' := [Value.none]) (ys := [.non]) (t' := s2.toks) hq2 e3 (by simp) (.cons rfl .nil) (by rw [List.length_singleton, sizeLine_eq]; decide)
  obtain ⟨z4, its4, k4, r4, hl4, e4⟩ := I3.lstM upd_same
  obtain ⟨u4, rfl, ru4⟩ := r4.one
  refine wpAny_updateSeq e4 rfl ?_ (by show 1 ≤ sizeLine; rw [sizeLine_eq]; decide) (by show 0 ≤ sizeLine + 1; exact Nat.zero_le _)
  refine wpAny_pure ⟨plainId_quiet PySem.F.plain_extend_loop _, loop _ ?_⟩
  have I4 := I3.lset (f := (·.pop)) (its := [u4]) (its' := []) (ys := []) (t' := s2.toks) upd_same e4 (by rfl) .nil (Nat.zero_le _)
  rw [upd_upd] at I4
  have hH : upd H2 q (.lst []) = H2 := by
    funext b
    by_cases hb : b = q
    · rw [hb, upd_same, hq2]
    · rw [upd_ne hb]
  rw [hH] at I4
  exact I4
/-- list(x) -/
def rListLi (K : PySem.W.Frag) (C : Addr) (spI spL : Sp) : List V → Hp → VK → Prop := fun xs H Q => ∃ a dx fs zs, xs = [.ref a] ∧ H a = some (.ins C dx fs) ∧ zs.length ≤ 1000 ∧
  (∀ q H1, H q = none → Ed [] H H1 → LiRun K spI spL a q zs H1 fun _ => True) ∧ ∀ q H', H q = none → Ed [] H H' → H' q = some (.lst zs) → Q (.ref q) H'
theorem call_listLi {C gi gl : Addr} {fdI fdL : FuncData} {psI psL : List Str} {spI spL : Sp} {n : Nat} (hc : X.calm = true)
    (FI : FnOk X.prog X.w X.K X.mg X.base CX0 n gi fdI psI spI) (mI : SpM X.K C gi "__iter__") (bI : Binds X.K fdI psI []) (FL : FnOk X.prog X.w X.K X.mg X.base CX0 n gl fdL psL spL) (mL : SpM X.K C gl "__len__") (bL : Binds X.K fdL psL [])
    (hr : Room (n + 3) X.A) : CallR X (.type "list") (rListLi X.K C spI spL) := by
  intro pins s σ H xs us Q I rv h
  obtain ⟨a, dx, fs, zs, rfl, ha, zl, hrun, hq⟩ := h
  obtain ⟨u, rfl, ru⟩ := rv.one
  cases ru
  have sb3 : Sub X (n + 1) X.A.in1.in1 := (Sub.in1 (Sub.in1 (⟨hr, rfl⟩ : Sub X (n + 3) X.A)))
  refine callType_codes (Q₁ := fun obj s₁ => obj = .ref s.heap.objs.size ∧ s₁ = { s with heap := s.heap.push { cls := .type "list", data := .seq #[] } }) PySem.F.called_list (PySem.F.typeCall_list_1 _) PySem.F.entry_list_init
    (code_list_new _ ⟨rfl, rfl⟩) fun obj s₁ h₁ => ?_
  obtain ⟨rfl, rfl⟩ := h₁
  have hS : (s.heap.push { cls := .type "list", data := .seq #[] }).get? s.heap.objs.size = some { cls := .type "list", data := .seq #[] } := Heap.get?_push_size _ rfl
  refine ⟨⟨_, hS, rfl⟩, PySem.F.args_list_init_2 _ _, ?_⟩
  have fr : H s.heap.objs.size = none := I.hok.fresh (Nat.le_refl _)
  have I1 : Inv X pins σ (upd H s.heap.objs.size (.lst [])) { s with heap := s.heap.push { cls := .type "list", data := .seq #[] } } := I.lnew (its := []) (t' := s.toks) .nil (Nat.zero_le _)
  show wpAny _ _ (do let old ← Builtin.List.listItems (.ref s.heap.objs.size); Builtin.List.listUpdate (.ref s.heap.objs.size) (fun _ => #[]); letGo old.toList.reverse; Builtin.List.listExtendWith (.ref s.heap.objs.size) (.ref a) .none) _ _ _
  refine wpAny_bind ?_
  unfold Builtin.List.listItems
  refine wpAny_bind (wpAny_seqItems hS rfl (wpAny_pure ?_))
  show wpAny _ _ (updateSeq s.heap.objs.size (fun _ => #[]) >>= fun _ => letGo (#[] : Array Value).toList.reverse >>= fun _ => Builtin.List.listExtendWith (.ref s.heap.objs.size) (.ref a) .none) _ _ _
  refine wpAny_bind (wpAny_updateSeq hS rfl ?_)
  have I2 := I1.lset (f := fun _ => #[]) (its := []) (its' := []) (ys := []) (t' := s.toks) upd_same hS rfl .nil (Nat.zero_le _)
  rw [upd_upd] at I2
  refine wpAny_bind (wpAny_letGo ?_)
  have ha2 : upd H s.heap.objs.size (.lst []) a = some (.ins C dx fs) := by rw [upd_ne (ne_of_none ha fr)]; exact ha
  have e0 : Ed [] H (upd H s.heap.objs.size (.lst [])) := Ed.new fr
  exact li_extend (A1 := X.A.in1) (Rs := wants (fun r s₂ => r = .none ∧ EP X pins σ Q (.ref s.heap.objs.size) s₂) X.xe) FI mI bI FL mL bL (sb3.in1) (sb3.mono (Nat.le_succ _)) (I.ok.hd hc) I2 ha2 upd_same zl (hrun _ _ fr e0)
    (fun H' s' I' e' hz => ⟨rfl, .ref s.heap.objs.size, H', I', rfl, hq _ H' fr (e0.one e' (.inr fr)) hz⟩)
/-- either way of a call -/
theorem call_or {g : Value} {r r' : List V → Hp → VK → Prop} (a : CallR X g r) (b : CallR X g r') : CallR X g (fun xs H Q => r xs H Q ∨ r' xs H Q) := by
  intro pins s σ H xs us Q I rv h
  rcases h with h | h
  · exact a pins s σ H xs us Q I rv h
  · exact b pins s σ H xs us Q I rv h
end
end Vc

/-! Xv: defs with a star parameter: the promise, the instance made. -/
namespace Vc
open PySem PySem.Spec PyProof.Rows L2
/-- a def with a star parameter behind its others: what binding does -/
structure BindV (fd : FuncData) (ps : List Str) (pv : Str) : Prop where
  b : ∀ us rest : List Value, us.length = ps.length → bindArgs fd ⟨us ++ rest, []⟩ = (newTuple rest >>= fun t => pure (ps.zip us ++ [(pv, t)]))
theorem bind_star3 {B : List Value → Sem (List (Str × Value))} {p1 p2 p3 pv : Str} (h0 : ∀ a b c, B [a, b, c] = (newTuple [] >>= fun t => pure [(p1, a), (p2, b), (p3, c), (pv, t)])) (h1 : ∀ a b c r rs, B (a :: b :: c :: r :: rs) = (newTuple (r :: rs) >>= fun t => pure [(p1, a), (p2, b), (p3, c), (pv, t)])) :
    ∀ us rest : List Value, us.length = [p1, p2, p3].length → B (us ++ rest) = (newTuple rest >>= fun t => pure ([p1, p2, p3].zip us ++ [(pv, t)]))
  | [a, b, c], [], _ => h0 a b c
  | [a, b, c], r :: rs, _ => h1 a b c r rs
/-- a call's promise by the def's own: what is left over is a new tuple -/
def spV (n : Nat) (sp : Sp) : Sp := fun vs H Q E => ∃ ws rest, vs = ws ++ rest ∧ ws.length = n ∧ rest.length ≤ sizeLine ∧ ∀ p, H p = none → sp (ws ++ [V.ref p]) (upd H p (.tup rest)) Q E
section
variable {w : World} {P : Program} {K : PySem.W.Frag} {mg : Str → Option Value} {base : Heap}
theorem Fun.bindsV {x qual pv : Str} {st : Stmt} {f : Addr} {fd : FuncData} {ps : List Str} (F : Fun K x qual st f fd)
    (h : ∀ (kV doc pm : Value) (an : Option Addr) (cdv ct : Value) (us rest : List Value), us.length = ps.length → bindArgs (PySem.W.fnOf x qual (defArgs st) (defBody st) (defScope st) .none kV doc pm an cdv ct) ⟨us ++ rest, []⟩ = (newTuple rest >>= fun t => pure (ps.zip us ++ [(pv, t)]))) : BindV fd ps pv := by
  obtain ⟨oc, od, kV, doc, pm, an, cdv, ct, osl, rfl, lk, hcd⟩ := F.ex
  exact ⟨h kV doc pm an cdv ct⟩
theorem Fun.okV {x qual pv : Str} {st : Stmt} {f : Addr} {fd : FuncData} {N ps : List Str} {k : Nat} {sp : Sp} (F : Fun K x qual st f fd) (B : BindV fd ps pv) (S : FnScope N (ps ++ [pv]) (defScope st))
    (hbody : ∀ (cdv : Value) (A : Around) (outer : List Env) (s : Shared) (H : Hp) (vs : List V) (Q : VK) (E : XK), Room k (A.deeper (envOfC qual (defScope st) s.heap.objs.size f cdv)) → sp vs H Q E →
      ∃ t, PSs (cxOf (L2.CX P w) P w K mg base N qual (defScope st) f cdv A outer s H E) (defBody st) t ∧ t { nx := fun _ H' => Q .non H', rt := Q } (start N vs) H) : FnR P w K mg base (L2.CX P w) (k + 1) f (spV ps.length sp) := by
  obtain ⟨oc, od, kV, doc, pm, an, cdv, ct, osl, rfl, lk, hcd⟩ := F.ex
  exact StX.fn_star lk hcd S StX.cxUp B.b fun A outer s H vs Q E hr hsp => hbody cdv A outer s H vs Q E hr hsp
end
section
variable {X : Cx} {CX : CXT} {k : Nat} {f C : Addr} {sp : Sp} {E : L2.St → XK} {x : Str} {e : Expr} {es : List Expr} {t : TA} {p pos : Pos}
theorem run_makeV {pins : List (Addr × Obj)} {σ : L2.St} {H : Hp} {s : Shared} {Q : VK} {us : List Value} {vs : List V} (M : Mk X.K C f) (F : FnR X.prog X.w X.K X.mg X.base CX k f sp) (hr : Room (k + 1) X.A)
    (hx : PassesAt CX X σ (E σ)) (I : Inv X pins σ H s) (r : Vals vs us)
    (h : ∀ x dx, H x = none → H dx = none → dx ≠ x → sp (.ref x :: vs) (upd (upd H dx (.own x)) x (.ins C dx [])) (fun v H2 => v = .non ∧ Q (.ref x) H2) (E σ)) :
    wpAny (model X.prog X.w) X.A (call (.ref C) us) (EP X pins σ Q) X.xe s := by
  have hq := h (s.heap.objs.size + 1) s.heap.objs.size (I.hok.fresh (Nat.le_succ _)) (I.hok.fresh (Nat.le_refl _)) (Nat.ne_of_lt (Nat.lt_succ_self _))
  have I2 := Inv.made (C := C) I
  have r2 : Vals (V.ref (s.heap.objs.size + 1) :: vs) (Value.ref (s.heap.objs.size + 1) :: us) := .cons rfl r
  refine wpAny_call (make_map (f := f) I.kIn M.makes M.init (beq_iff_eq.mp M.fn) (codeAny_mono (F _ X.stack _ _ (Value.ref (s.heap.objs.size + 1) :: us) _ _ (E σ) (hr.make C us []) (I2.env0.make C us []) r2 hq) fun r s' hq' => ?_))
  cases r with
  | error e => exact hx pins _ _ e s' I2 hq'
  | ok fl =>
    cases fl with
    | ret u =>
      obtain ⟨v, H', I3, rv, ev, q3⟩ := I2.after hq'
      subst ev
      exact ⟨rv, ⟨V.ref (s.heap.objs.size + 1), H', I3, rfl, q3⟩⟩
    | next => exact False.elim hq'
    | brk => exact False.elim hq'
    | cont => exact False.elim hq'
/-- C(a, .., b), the class's __init__ with a star parameter -/
theorem pe_makeV (M : Mk X.K C f) (F : FnR X.prog X.w X.K X.mg X.base CX k f sp) (hr : Room (k + 1) X.A) (hg : Gl X x) (hm : X.mg x = some (.ref C)) (hx : ∀ σ, PassesAt CX X σ (E σ))
    (ha : PA X (e :: es) t) (hdb : (x == ("__debug__" : Str)) = false := by decide) (he : starEach (e :: es) X.env = (false, eval e X.env) :: starEach es X.env := by rfl) (hpl : (backTo pos (starEach es X.env)).any (·.1) = false := by rfl) :
    PE X (.Call (.Name x p) (e :: es) [] pos) (tMakeS C sp E t) := by
  refine ⟨fun pins s σ H Q I h => ?_⟩
  refine wpAny_Call_Name_kw (ld_glob I hg hm ?_ hdb)
  refine PySem.W.callWith_K (h₀ := X.base) I.ok.mod.kin M.kp (thn (ha.run pos pins s σ H _ I h) fun us s1 ⟨vs, H1, I1, r, q⟩ => ⟨I1.kIn, ?_⟩) he hpl
  exact run_makeV M F hr (hx σ) I1 r q
end
end Vc

/-! Xk: set(t) of a tuple of ints as a tracked set; sorted(set(t)). -/
namespace Vc
open PySem PySem.Spec PyProof.Rows L2
section
variable {X : Cx}
def rSetT (K : PySem.W.Frag) (w : World) : List V → Hp → VK → Prop := fun xs H Q => ∃ (p : Addr) (ns : List Int), xs = [.ref p] ∧ SqT K H p (ns.map V.int) ∧ ns.length ≤ 1000 ∧
  ∀ a n, H a = none → n ≤ ns.length → Q (.ref a) (upd H a (SetO w a (fun j => decide (j ∈ ns)) n))
theorem cr_setT (hc : X.calm = true) : CallR X (.type "set") (rSetT X.K X.w) := by
  intro pins s σ H xs us Q I r h
  obtain ⟨p, ns, rfl, hq, hl, q⟩ := h
  rw [Vals.ref1 r]
  obtain ⟨its, rv, pt, hz⟩ := I.tuple hq
  have hi : IntsAre its.toArray.toList ns := ints_of_vals rv
  have hn : H s.heap.objs.size = none := I.hok.fresh (Nat.le_refl _)
  refine call_set_tupI ns (I.ok.hd hc) (show s.heap.IsTuple p its.toArray from pt) hi (by unfold scanBound; omega) fun h' tk c R1 hcn k => ?_
  exact ⟨.ref s.heap.objs.size, _, I.laid (t' := tk) k (Nat.le_refl _) (setO_new R1), rfl, q _ c hn hcn⟩
end
section
variable {K : PySem.W.Frag} {w : World} {H : Hp} {Q : VK}
theorem go_setT {p : Addr} {ns : List Int} (e : SqT K H p (ns.map V.int)) (l : ns.length ≤ 1000) (h : ∀ a n, H a = none → n ≤ ns.length → Q (.ref a) (upd H a (SetO w a (fun j => decide (j ∈ ns)) n))) : rSetT K w [.ref p] H Q := ⟨p, ns, rfl, e, l, h⟩
/-- the numbers of a set, ascending -/
theorem go_sortedT {a : Addr} {ns : List Int} {n : Nat} (e : H a = some (SetO w a (fun j => decide (j ∈ ns)) n)) (h64 : n < 64) (h : ∀ (ms : List Int) (p : Addr), ms.Pairwise (· < ·) → (∀ k, k ∈ ms ↔ k ∈ ns) → H p = none → Q (.ref p) (upd H p (.lst (ms.map V.int)))) : rSortedSet w [.ref a] H Q :=
  ⟨a, _, n, rfl, e, h64, fun ms p pw hm _ np => h ms p pw (fun k => (hm k).trans decide_eq_true_iff) np⟩
end
section
variable {P : Program} {w : World} {A : Around} {E : Value → Shared → Prop} {s : Shared}
/-- a new set, no member yet -/
abbrev newS (w : World) : Obj := { cls := .type "set", dict := none, data := .set #[] 0 (.fresh 0 0 (!w.params.followText "set-order")) }
/-- set(l), l a list of ints: the set with its order (as SetFor tells it of a tuple) -/
theorem set_of_list {l : Addr} {items : Array Value} (ns : List Int) {Q : Value → Shared → Prop} (hh : A.handled = none) (hl : s.heap.IsList l items) (hi : IntsAre items.toList ns) (room : ns.length + 1 < scanBound)
    (k : ∀ (g : Heap) (tk n : Nat), SetR w g s.heap.objs.size (fun j => decide (j ∈ ns)) n → n ≤ ns.length → (∀ b o, s.heap.get? b = some o → g.get? b = some o) → Q (.ref s.heap.objs.size) { s with heap := g, toks := tk }) :
    wpAny (model P w) A (call (.type "set") [.ref l]) Q E s := by
  have size_eq : items.size = ns.length := by rw [← Array.length_toList]; exact IntsAre.length hi
  have ⟨_, _, hmro⟩ := PySem.F.called_set.mro
  have q1 := PySem.F.called_set.made
  have q2 := PySem.F.called_set.sub
  apply wpAny_call
  apply codeAny_of_tree
  show wpAny _ _ (callAny (.type "set") ⟨[.ref l], []⟩) _ _ _
  refine wpAny_pure (.intro (Code.quiet_builtin _ (by decide +kernel)) (codeAny_builtin PySem.F.entry_type_call ?_))
  rw [Around.under_plain (weight_type_call_type "set" [Value.ref l] []) rfl]
  have q3 := PySem.F.called_set.notType
  have q4 := PySem.F.called_set.canCreate
  have q5 := PySem.F.typeCall_set_1 (Value.ref l)
  repeat any_goals first | assumption | wp_step
  refine codeAny_mono (code_set_led1 (w := w) (P := P) (.ref l) (E := E) (Q₁ := fun v t => v = .ref s.heap.objs.size ∧ t = { s with heap := s.heap.push (newS w) }) (.intro rfl rfl)) fun r t hr => ?_
  rcases r with e | fl
  · exact hr
  cases fl with
  | next => exact hr.elim
  | brk => exact hr.elim
  | cont => exact hr.elim
  | ret o =>
    obtain ⟨rfl, rfl⟩ := hr
    have gS : (s.heap.push (newS w)).get? s.heap.objs.size = some (newS w) := Heap.get?_push_size _ rfl
    have tS : Shared.TypeIs { s with heap := s.heap.push (newS w) } (.ref s.heap.objs.size) "set" := ⟨_, gS, rfl⟩
    have q6 := PySem.F.called_set.init.lookup
    have q7 := PySem.F.called_set.init.bind (.ref s.heap.objs.size)
    repeat any_goals first | assumption | wp_step
    refine codeAny_mono (codeAny_call_builtin (R := wants (fun v t => v = .none ∧ ∃ g tk n, t = { s with heap := g, toks := tk } ∧ SetR w g s.heap.objs.size (fun j => decide (j ∈ ns)) n ∧ n ≤ ns.length ∧ ∀ b o, s.heap.get? b = some o → g.get? b = some o) E)
      PySem.F.called_set.init.plain PySem.F.entry_set_init (check_set_init_1 tS ?_)) fun r2 t2 hr2 => ?_
    · obtain ⟨⟨oc, od, oD, os⟩, ho, hc, nn, hd⟩ := hl
      dsimp only at hc hd
      subst hc hd
      have ho1 := Heap.get?_push_of_some (newS w) ho
      have lS : l < s.heap.objs.size := Heap.lt_size ho
      have isl : (s.heap.push (newS w)).IsList l items := ⟨_, ho1, rfl, nn, rfl⟩
      have z1 := PySem.F.sub_list_set
      have z2 := PySem.F.sub_list_frozenset
      have z3 : (Value.type "list" == Value.type "dict") = false := by decide
      unfold Builtin.«set.__init__»
      unfold noKeywords Builtin.Frozenset.updateFrom
      generalize gPI : pyIter = PI
      wp_walk
      subst gPI
      refine wpAny_pyIter_list isl (wpAny_bind (wpAny_runValue ?_))
      have h3 : A.in1.in1.in1.handled = none := by simp [hh]
      have zs : (s.heap.push (newS w)).objs.size = s.heap.objs.size + 1 := Heap.size_push ..
      have nI : l ≠ (s.heap.push (newS w)).objs.size := by rw [zs]; exact Nat.ne_of_lt (Nat.lt_succ_of_lt lS)
      have nS : s.heap.objs.size ∉ [(s.heap.push (newS w)).objs.size, l] := by
        rw [zs]
        intro z
        rcases List.mem_cons.mp z with z | z
        · exact Nat.ne_of_lt (Nat.lt_succ_self _) z
        · exact Nat.ne_of_gt lS (List.mem_singleton.mp z)
      have each : ∀ (i : Nat) (v : Value), items[i]? = some v → ∃ j t, ns[i]? = some j ∧ v = .int j t := fun i v hv => by
        have lt : i < ns.length := by rw [← size_eq]; exact (Array.getElem?_eq_some_iff.mp hv).1
        obtain ⟨t, e⟩ := IntsAre.int_at hi i v (by rw [Array.getElem?_toList]; exact hv)
        rw [List.getD_eq_getElem?_getD, List.getElem?_eq_getElem lt] at e
        exact ⟨_, t, List.getElem?_eq_getElem lt, e⟩
      refine set_update_ints ((Walks.list h3 _ l nI items).toS) s.heap.objs.size nS ns size_eq room each items.size 0 _ (by omega) (Nat.zero_le _)
        ⟨⟨_, Heap.get?_push_size _ rfl, rfl, rfl⟩, isl.push _⟩ ⟨0, Nat.le_refl 0, setR_new_at (Heap.get?_push_of_some _ gS)⟩ fun t c hm hc hR => ?_
      obtain ⟨g, gs, dr, tk, osx⟩ := t
      have e1 : gs = s.gens := hm.gens
      have e2 : dr = s.drawn := hm.drawn
      have e3 : osx = s.os := hm.os
      subst e1 e2 e3
      show wpAny _ _ _ _ _ _
      refine wpAny_pure ?_
      show wpAny _ _ (ret Value.none) _ _ _
      refine wpAny_pure ⟨rfl, g, tk, c, rfl, hR, by omega, fun b o e => hm.heap b o (fun z => ?_) (Heap.get?_push_of_some _ (Heap.get?_push_of_some _ e))⟩
      have lb : b < s.heap.objs.size := Heap.lt_size e
      rw [zs] at z
      rcases List.mem_cons.mp z with z | z
      · exact Nat.ne_of_lt lb z
      · exact Nat.ne_of_lt (Nat.lt_succ_of_lt lb) (List.mem_singleton.mp z)
    · rcases r2 with e | fl
      · exact hr2
      cases fl with
      | next => exact hr2.elim
      | brk => exact hr2.elim
      | cont => exact hr2.elim
      | ret o =>
        obtain ⟨rfl, g, tk, n, rfl, hR, hn, hk⟩ := hr2
        repeat any_goals first | assumption | wp_step
        exact k g _ n hR hn hk
end
section
variable {X : Cx}
def rSetL (K : PySem.W.Frag) (w : World) : List V → Hp → VK → Prop := fun xs H Q => ∃ (p : Addr) (ns : List Int), xs = [.ref p] ∧ SqL K H p (ns.map V.int) ∧ ns.length ≤ 1000 ∧
  ∀ a n, H a = none → n ≤ ns.length → Q (.ref a) (upd H a (SetO w a (fun j => decide (j ∈ ns)) n))
theorem cr_setL (hc : X.calm = true) : CallR X (.type "set") (rSetL X.K X.w) := by
  intro pins s σ H xs us Q I r h
  obtain ⟨p, ns, rfl, hq, hl, q⟩ := h
  rw [Vals.ref1 r]
  obtain ⟨its, rv, pl, hz⟩ := I.list hq
  have hi : IntsAre its.toArray.toList ns := ints_of_vals rv
  refine set_of_list ns (I.ok.hd hc) pl.isList hi (by unfold scanBound; omega) fun g tk c R hcn k => ?_
  exact ⟨.ref s.heap.objs.size, _, I.laid (t' := tk) k (Nat.le_refl _) (setO_new R), rfl, q _ c (I.hok.fresh (Nat.le_refl _)) hcn⟩
end
section
variable {K : PySem.W.Frag} {w : World} {H : Hp} {Q : VK}
theorem go_setOfL {p : Addr} {ns : List Int} (e : SqL K H p (ns.map V.int)) (l : ns.length ≤ 1000) (h : ∀ a n, H a = none → n ≤ ns.length → Q (.ref a) (upd H a (SetO w a (fun j => decide (j ∈ ns)) n))) : rSetL K w [.ref p] H Q := ⟨p, ns, rfl, e, l, h⟩
end
end Vc

/-! Xr: ranges of any size: walked, made into lists (my own; over the library's LongRange and KdlSrc). -/
namespace Vc
open PySem PySem.Spec PyProof.Rows L2
theorem turn_long {P : Program} {w : World} {K : PySem.W.Frag} {tg : Expr} (it : Addr) (lo : Int) (n : Nat) : Turn P w K tg (Itr lo n) [it] it (fun i h => IsLongIter h it (lo + (i : Nat) * 1) ((n : Int) - (i : Nat)) 1) where
  mem := List.mem_singleton.mpr rfl
  obj := fun i h st b hb => by
    cases List.mem_singleton.mp hb
    refine ⟨_, st, fun v z => ?_⟩
    have q : Data.fields #[rawInt (lo + (i : Nat) * 1), rawInt ((n : Int) - (i : Nat)), rawInt 1] = Data.cell v := z
    cases q
  keep := fun i h h' st k => k it (List.mem_singleton.mpr rfl) _ st
  item := by
    intro X hP hw hK hc i pins s σ H E I hf st hg
    subst hP hw hK
    obtain ⟨f0, f1, f2, f3, f4, f5⟩ := hf it (List.mem_singleton.mpr rfl)
    refine (Walks.longrange (prog := X.prog) (w := X.w) (I.ok.hd hc) it lo 1 n).item i s _ _ hg st fun v h' tk hv st' kk => ?_
    obtain ⟨t, rfl⟩ := hv
    have J : Inv X pins σ H { s with heap := h', toks := tk } := I.turned (fun b o hb e => kk b o (fun z => hb (List.mem_singleton.mp z)) e) f0 f1 f3 f4 f5
    refine ⟨_, rfl, go_of (s := { s with heap := h', toks := tk }) (n := "longrange_iterator") st' rfl rfl (by decide) ⟨.int (lo + i), H, J, ⟨t, by rw [Int.mul_one]⟩, ⟨rfl, rfl⟩, st', fun b hb => (hf b hb).1⟩⟩
  done := by
    intro X hP hw hK hc i pins s σ H E I hf st hg
    subst hP hw hK
    obtain ⟨f0, f1, f2, f3, f4, f5⟩ := hf it (List.mem_singleton.mpr rfl)
    have hz : (n : Int) - (i : Nat) ≤ 0 := by have : n ≤ i := hg; omega
    exact wpAny_pyNext_long_end (I.ok.hd hc) st hz fun h' eb => ⟨rfl, I.turned (t' := s.toks) (fun b o hb e => eb b o hb e) f0 f1 f3 f4 f5⟩
  self := fun _ _ _ _ _ st h => wpAny_pyIter_longiter st h
theorem size_one (a b : Int) : Builtin.Range.rangeSize a b 1 = (((b - a).toNat : Nat) : Int) := rangeSize_nat a b
/-- a range object that stands, walked; of any size -/
theorem range_itL {tg : Expr} {X : Cx} {pins : List (Addr × Obj)} {σ : L2.St} {H : Hp} {s : Shared} {R : It → Hp → Prop} {E : Value → Shared → Prop} {lo hi : Int} {t u v : Tok} {tk : Nat} (I : Inv X pins σ H s)
    (q : R (Itr lo (hi - lo).toNat) H) : wpAny (model X.prog X.w) X.A (pyIter (.ref s.heap.objs.size)) (PIE X pins σ tg R) E { s with heap := s.heap.push { cls := .type "range", data := .fields #[.int lo t, .int hi u, .int 1 v] }, toks := tk } := by
  have J : Inv X pins σ H { s with heap := s.heap.push { cls := .type "range", data := .fields #[.int lo t, .int hi u, .int 1 v] }, toks := tk } := I.kept fun b o e => Heap.get?_push_of_some _ e
  have z1 : lo + ((0 : Nat) : Int) * 1 = lo := by simp
  have z2 : (((hi - lo).toNat : Nat) : Int) - ((0 : Nat) : Int) = Builtin.Range.rangeSize lo hi 1 := by rw [size_one]; simp
  by_cases hs : Builtin.Range.small lo hi 1 = true
  · refine wpAny_pyIter_range (IsRange.new ..) hs ?_
    refine ⟨_, [_], _, _, H, rfl, J.kept (t' := tk) fun b o e => Heap.get?_push_of_some _ e, turn_range _ lo (hi - lo).toNat, ?_, fun b hb => ?_, q⟩
    · show IsRangeIter _ _ (lo + ((0 : Nat) : Int) * 1) ((((hi - lo).toNat : Nat) : Int) - ((0 : Nat) : Int)) 1
      rw [z1, z2]
      exact Heap.get?_push_size _ rfl
    · cases List.mem_singleton.mp hb
      exact J.fpOk (Nat.le_refl _) (J.hok.fresh (Nat.le_refl _))
  · refine wpAny_pyIter_longrange (IsRange.new ..) (Bool.eq_false_iff.mpr hs) ?_
    refine ⟨_, [_], _, _, H, rfl, J.kept (t' := tk) fun b o e => Heap.get?_push_of_some _ e, turn_long _ lo (hi - lo).toNat, ?_, fun b hb => ?_, q⟩
    · show IsLongIter _ _ (lo + ((0 : Nat) : Int) * 1) ((((hi - lo).toNat : Nat) : Int) - ((0 : Nat) : Int)) 1
      rw [z1, z2]
      exact Heap.get?_push_size _ rfl
    · cases List.mem_singleton.mp hb
      exact J.fpOk (Nat.le_refl _) (J.hok.fresh (Nat.le_refl _))
/-- for x in range(a, b), a and b of any size -/
def iRngL (ta : TA) : TI := fun σ H R => ta σ H fun vs H1 => ∃ i j : Int, vs = [.int i, .int j] ∧ R (Itr i (j - i).toNat) H1
theorem pi_rangeL {tg : Expr} {X : Cx} {a b : Expr} {ta : TA} {p pos : Pos} (hg : Gl X "range") (hm : X.mg "range" = none) (ha : PA X [a, b] ta) (hs : starEach [a, b] X.env = [(false, eval a X.env), (false, eval b X.env)] := by rfl) (hs2 : starEach [b] X.env = [(false, eval b X.env)] := by rfl) :
    PI X tg (.Call (.Name "range" p) [a, b] [] pos) (iRngL ta) := by
  refine ⟨fun pins s σ H R I h => ?_⟩
  refine Call_ (ld_blt I hg hm boot_range (PyProof.Rows.callWith_type1 (thn (ha.run pos pins s σ H _ I h) fun us s1 ⟨vs, H1, I1, r1, i, j, e, q⟩ => ?_) (by rw [hs, hs2]) (by rw [hs2]; rfl)))
  subst e
  rcases r1 with _ | ⟨⟨t, rfl⟩, _ | ⟨⟨t', rfl⟩, _ | _⟩⟩
  exact call_range_2 (range_itL I1 q)
theorem go_iRngL {ta : TA} {σ : L2.St} {H : Hp} {R : It → Hp → Prop} (h : ta σ H fun vs H1 => ∃ i j : Int, vs = [.int i, .int j] ∧ R (Itr i (j - i).toNat) H1) : iRngL ta σ H R := h
theorem go_iRngLV {i j : Int} {P : Int → Int → Prop} (h : P i j) : ∃ i' j' : Int, [V.int i, V.int j] = [.int i', .int j'] ∧ P i' j' := ⟨i, j, rfl, h⟩
/-! ### list(range(a, b)), a and b of any size -/
section
variable {prog : Program} {w : World} {A : Around} {E : Value → Shared → Prop} {s : Shared}
/-- the list's own loop, from where its iterator stands -/
theorem long_loop {R : Result → Shared → Prop} {r it : Addr} {a c : Int} {n : Nat} (hh : A.handled = none) (hlen : n ≤ sizeLine) (S : Addr) (hSI : S ≠ it) (res : Value) (c₁ : Nat) (h0 : Heap) (base : Heap) (tk : Nat)
    (st : IsLongIter h0 it (a + ((0 : Nat) : Int) * c) ((n : Int) - ((0 : Nat) : Int)) c) (kb : ∀ b o, b ≠ S → base.get? b = some o → h0.get? b = some o) (nI : base.get? it = none) (hS : h0.get? S = some { cls := .type "list", data := .seq #[] c₁ })
    (hR : ∀ h' tk acc' c', (∀ b o, b ≠ S → base.get? b = some o → h'.get? b = some o) → h'.get? S = some { cls := .type "list", dict := none, data := .seq acc' c', slots := #[] } → ItemsOf (fun i v => ∃ t, v = .int (a + i * c) t) acc' n → R (.ok (.ret res)) { s with heap := h', toks := tk }) :
    codeAny (model prog w) A (.builtin "list.extend.loop" ⟨[.ref S, .ref it, res], []⟩) R { s with heap := h0, toks := tk } := by
  refine codeAny_extend_loopS (Walks.longrange (prog := prog) (w := w) (A := A.in1) hh it a c n).toS hlen S (fun z => hSI (List.mem_singleton.mp z)) res n 0 { s with heap := h0, toks := tk } #[] c₁ rfl (Nat.zero_le _) st hS (ItemsOf.nil _) fun s' acc' c' hm hS' hacc => ?_
  rw [Moved.eq_with hm]
  refine hR s'.heap s'.toks acc' c' (fun b o hb e => hm.heap b o (fun z => ?_) (kb b o hb e)) hS' hacc
  rcases List.mem_cons.mp z with z | z
  · exact hb z
  · rw [List.mem_singleton.mp z, nI] at e; cases e
theorem long_extend {R : Result → Shared → Prop} {r : Addr} {a b c : Int} {t u v : Tok} {n : Nat} (hh : A.handled = none) (hr : IsRange s.heap r a b c t u v) (hbig : Builtin.Range.small a b c = false) (hn : Builtin.Range.rangeSize a b c = n) (hlen : n ≤ 2 ^ 24)
    (S : Addr) (res : Value) (c₀ : Nat) (hS : s.heap.get? S = some { cls := .type "list", data := .seq #[] c₀ })
    (hR : ∀ h' tk acc' c', (∀ b o, b ≠ S → s.heap.get? b = some o → h'.get? b = some o) → h'.get? S = some { cls := .type "list", dict := none, data := .seq acc' c', slots := #[] } → ItemsOf (fun i v => ∃ t, v = .int (a + i * c) t) acc' n → R (.ok (.ret res)) { s with heap := h', toks := tk }) :
    wpAny (model prog w) A.in1 (Builtin.List.listExtendWith (.ref S) (.ref r) res)
      (fun fin s' => match fin with | .done f => R (.ok f) s' | .again c' => c'.quiet = true ∧ codeAny (model prog w) A c' R s') (fun e s' => R (.error e) s') s := by
  have nSr : S ≠ r := fun e => by rw [e, hr] at hS; simp at hS
  have nSI : S ≠ s.heap.objs.size := Nat.ne_of_lt (Heap.lt_size hS)
  have nI : s.heap.get? s.heap.objs.size = none := by
    cases q : s.heap.get? s.heap.objs.size with
    | none => rfl
    | some o => exact absurd (Heap.lt_size q) (Nat.lt_irrefl _)
  generalize hO : ({ cls := .type "longrange_iterator", data := .fields #[rawInt a, rawInt (Builtin.Range.rangeSize a b c), rawInt c] } : Obj) = oI
  have st0 : ∀ h : Heap, h.get? s.heap.objs.size = some oI → IsLongIter h s.heap.objs.size (a + ((0 : Nat) : Int) * c) ((n : Int) - ((0 : Nat) : Int)) c := fun h e => by
    show h.get? _ = some _
    rw [e, ← hO, hn]; simp
  have hl : n ≤ sizeLine := by rw [sizeLine_eq]; omega
  unfold Builtin.List.listExtendWith
  refine wpAny_bind (wpAny_typeOf (T := "range") ⟨_, hr, rfl⟩ ?_)
  have q1 : Builtin.List.listSameRef (.ref S) (.ref r) = false := by simp [Builtin.List.listSameRef, nSr]
  have q2 : ((Value.type "range" == Value.type "list") || (Value.type "range" == Value.type "tuple")) = false := by decide
  simp only [q1, q2, Bool.or_false, Bool.false_or, Bool.false_eq_true, if_false]
  refine wpAny_bind (wpAny_pyIter_longrange hr hbig ?_)
  rw [hO]
  refine wpAny_bind (wpAny_holding (wpAny_hint_range (n := n) (Heap.get?_push_of_some _ hr) hn hlen ?_))
  have p1 : (s.heap.push oI).get? s.heap.objs.size = some oI := by subst hO; exact Heap.get?_push_size _ rfl
  have p2 := Heap.get?_push_of_some oI hS
  refine wpAny_ite_split (fun _ => ?_) (fun _ => wpAny_pure ⟨plainId_quiet F.plain_extend_loop _, long_loop (prog := prog) (w := w) (s := s) (r := r) hh hl S nSI res c₀ _ s.heap _ (st0 _ p1) (fun b o _ e => Heap.get?_push_of_some _ e) nI p2 hR⟩)
  refine wpAny_bind (wpAny_rule (wpAny_bind ?_))
  show wpAny _ _ (updateSeq S (·.push .none) >>= fun _ => updateSeq S (·.pop)) _ _ _
  refine wpAny_bind (wpAny_updateSeq p2 rfl ?_)
  have p3 := Heap.get?_update_self (Obj.mapSeq (·.push Value.none)) p2 rfl
  refine wpAny_updateSeq (hz := by seq_fits) p3 rfl ?_
  have p4 := Heap.get?_update_self (Obj.mapSeq (·.pop)) p3 rfl
  refine wpAny_pure ⟨plainId_quiet F.plain_extend_loop _, long_loop (prog := prog) (w := w) (s := s) (r := r) hh hl S nSI res _ _ s.heap _ (st0 _ ?_) (fun b o hb e => ?_) nI p4 hR⟩
  · rw [Heap.get?_update_other _ _ nSI, Heap.get?_update_other _ _ nSI]; exact p1
  · rw [Heap.get?_update_other _ _ (Ne.symm hb), Heap.get?_update_other _ _ (Ne.symm hb)]; exact Heap.get?_push_of_some _ e
theorem long_init {R : Result → Shared → Prop} {r : Addr} {a b c : Int} {t u v : Tok} {n : Nat} (hh : A.handled = none) (hr : IsRange s.heap r a b c t u v) (hbig : Builtin.Range.small a b c = false) (hn : Builtin.Range.rangeSize a b c = n) (hlen : n ≤ 2 ^ 24)
    (S : Addr) (hS : s.heap.get? S = some { cls := .type "list", data := .seq #[] })
    (hR : ∀ h' tk acc' c', (∀ b o, b ≠ S → s.heap.get? b = some o → h'.get? b = some o) → h'.get? S = some { cls := .type "list", dict := none, data := .seq acc' c', slots := #[] } → ItemsOf (fun i v => ∃ t, v = .int (a + i * c) t) acc' n → R (.ok (.ret .none)) { s with heap := h', toks := tk }) :
    wpAny (model prog w) A.in1 (Builtin.«list.__init__» ⟨[.ref S, .ref r], []⟩)
      (fun fin s' => match fin with | .done f => R (.ok f) s' | .again c' => c'.quiet = true ∧ codeAny (model prog w) A c' R s') (fun e s' => R (.error e) s') s := by
  have nSr : S ≠ r := fun e => by rw [e, hr] at hS; simp at hS
  show wpAny _ _ (do let old ← Builtin.List.listItems (.ref S); Builtin.List.listUpdate (.ref S) (fun _ => #[]); letGo old.toList.reverse; Builtin.List.listExtendWith (.ref S) (.ref r) .none) _ _ s
  unfold Builtin.List.listItems
  refine wpAny_bind (wpAny_bind (wpAny_seqItems hS rfl (wpAny_pure ?_)))
  show wpAny _ _ (updateSeq S (fun _ => #[]) >>= fun _ => letGo (#[] : Array Value).toList.reverse >>= fun _ => Builtin.List.listExtendWith (.ref S) (.ref r) .none) _ _ s
  refine wpAny_bind (wpAny_updateSeq hS rfl (wpAny_bind (wpAny_letGo ?_)))
  have oth : ∀ {b : Addr} {o : Obj}, b ≠ S → s.heap.get? b = some o → (s.heap.update S (Obj.mapSeq (fun _ => (#[] : Array Value)))).get? b = some o :=
    fun hb e => by rw [Heap.get?_update_other _ _ (Ne.symm hb)]; exact e
  refine long_extend hh (oth (Ne.symm nSr) hr) hbig hn hlen S .none _ (Heap.get?_update_self _ hS rfl) fun h' tk acc' c' hk hS' hacc => ?_
  exact hR h' tk acc' c' (fun b o hb e => hk b o hb (oth hb e)) hS' hacc
theorem call_list_rangeL {Q : Value → Shared → Prop} {r : Addr} {a b c : Int} {t u v : Tok} {n : Nat} (hh : A.handled = none) (hr : IsRange s.heap r a b c t u v) (hn : Builtin.Range.rangeSize a b c = n) (hlen : n ≤ 2 ^ 24)
    (hQ : ∀ h' tk acc' c', (∀ b o, s.heap.get? b = some o → h'.get? b = some o) → h'.get? s.heap.objs.size = some { cls := .type "list", dict := none, data := .seq acc' c', slots := #[] } → ItemsOf (fun i v => ∃ t, v = .int (a + i * c) t) acc' n → Q (.ref s.heap.objs.size) { s with heap := h', toks := tk }) :
    wpAny (model prog w) A (call (.type "list") [.ref r]) Q E s := by
  by_cases hs : Builtin.Range.small a b c = true
  · exact call_list_range hh hr hs hn hlen hQ
  · refine callType_codes (Q₁ := fun obj s₁ => obj = .ref s.heap.objs.size ∧ s₁ = { s with heap := s.heap.push { cls := .type "list", data := .seq #[] } }) F.called_list (F.typeCall_list_1 _) F.entry_list_init (code_list_new _ ⟨rfl, rfl⟩) fun obj s₁ h₁ => ?_
    obtain ⟨rfl, rfl⟩ := h₁
    have hS : (s.heap.push { cls := .type "list", data := .seq #[] }).get? s.heap.objs.size = some { cls := .type "list", data := .seq #[] } := Heap.get?_push_size _ rfl
    exact ⟨⟨_, hS, rfl⟩, F.args_list_init_2 _ _, long_init (A := A.in1) hh (Heap.get?_push_of_some _ hr) (Bool.eq_false_iff.mpr hs) hn hlen _ hS fun h' tk acc' c' hk hS' hacc =>
      ⟨rfl, hQ h' tk acc' c' (fun b o e => hk b o (Nat.ne_of_lt (Heap.lt_size e)) (Heap.get?_push_of_some _ e)) hS' hacc⟩⟩
end
/-- the ints a .. b - 1 -/
def rgI (a b : Int) : List Int := (List.range (b - a).toNat).map fun i => a + (i : Nat)
theorem rgI_len (a b : Int) : (rgI a b).length = (b - a).toNat := by unfold rgI; rw [List.length_map, List.length_range]
theorem rgI_V (a b : Int) : (rgI a b).map V.int = rgV a b := by unfold rgI rgV; rw [List.map_map]; rfl
def tLstRgL (te : L2.St → Hp → (Int → Int → Hp → Prop) → Prop) : TE := fun σ H Q => te σ H fun a b H1 => (b - a).toNat ≤ 2 ^ 24 ∧ ∀ q, H1 q = none → Q (.ref q) (upd H1 q (.lst ((rgI a b).map V.int)))
/-- list(range(..)) -/
theorem pe_listRgL {X : Cx} {e : Expr} {te : L2.St → Hp → (Int → Int → Hp → Prop) → Prop} {p pos : Pos} (hc : X.calm = true) (hg : Gl X "list") (hm : X.mg "list" = none) (he : PRg X e te) (na : starEach [e] X.env = (false, eval e X.env) :: starEach [] X.env := by rfl) : PE X (.Call (.Name "list" p) [e] [] pos) (tLstRgL te) := by
  refine ⟨fun pins s σ H Q I h => ?_⟩
  refine Call_ (ld_blt I hg hm boot_list (PyProof.Rows.callWith_type1 (args_cons (thn (he pins s σ H _ I h) fun x s1 ⟨r, a, b, t, u, v, H1, ex, hr, I1, ok, q⟩ => args_nil ?_) na) na))
  subst ex
  refine call_list_rangeL (n := (b - a).toNat) (I1.ok.hd hc) hr (rangeSize_nat a b) ok fun h' tk acc c' hk e' hi => ?_
  have hz : ((rgI a b).map V.int).length ≤ sizeLine := by rw [List.length_map, rgI_len, sizeLine_eq]; omega
  refine ⟨.ref s1.heap.objs.size, _, I1.laid hk (Nat.le_refl _) (show ObjOk X.prog X.w _ _ _ (.lst ((rgI a b).map V.int)) from ⟨hz, acc.toList, c', by rw [rgI_V]; exact vals_rg hi, by rw [Array.toArray_toList]; exact e'⟩), rfl, q _ (I1.hok.fresh (Nat.le_refl _))⟩
section
variable {ta tb : TE} {σ : L2.St} {H : Hp} {Q : VK} {K : PySem.W.Frag}
theorem go_lstRg (h : ta σ H fun x H1 => tb σ H1 fun y H2 => ∃ i j, x = .int i ∧ y = .int j ∧ (j - i).toNat ≤ 2 ^ 24 ∧ ∀ q, H2 q = none → Q (.ref q) (upd H2 q (.lst ((rgI i j).map V.int)))) : tLstRgL (tRg2 ta tb) σ H Q := h
theorem go_lstRgV {i j : Int} {P : Int → Int → Prop} (h : P i j) : ∃ i' j' : Int, V.int i = .int i' ∧ V.int j = .int j' ∧ P i' j' := ⟨i, j, rfl, rfl, h⟩
theorem go_minL {p : Addr} {ns : List Int} (e : SqL K H p (ns.map V.int)) (l : 0 < ns.length) (h : ∀ m, m ∈ ns → (∀ y, y ∈ ns → m ≤ y) → Q (.int m) H) : rMin K [.ref p] H Q := ⟨p, ns, rfl, e, l, h⟩
end
/-! ### the plain law of such lists -/
theorem rgI_nil {a b : Int} (h : b ≤ a) : rgI a b = [] := by
  unfold rgI
  have : (b - a).toNat = 0 := by omega
  rw [this]; rfl
theorem rgI_snoc {a b : Int} (h : a ≤ b) : rgI a (b + 1) = rgI a b ++ [b] := by
  unfold rgI
  have e : (b + 1 - a).toNat = (b - a).toNat + 1 := by omega
  rw [e, List.range_succ, List.map_append]
  have : a + (((b - a).toNat : Nat) : Int) = b := by omega
  rw [List.map_cons, List.map_nil, this]
theorem rgI_app {a b : Int} (h : a ≤ b) : ∀ n : Nat, rgI a b ++ rgI b (b + n) = rgI a (b + n)
  | 0 => by rw [show b + ((0 : Nat) : Int) = b by omega, rgI_nil (Int.le_refl b), List.append_nil]
  | n + 1 => by
    have e : b + ((n + 1 : Nat) : Int) = (b + n) + 1 := by omega
    rw [e, rgI_snoc (a := b) (by omega), rgI_snoc (a := a) (by omega), ← List.append_assoc, rgI_app h n]
theorem rgI_cat {a b c : Int} (h : a ≤ b) (k : b ≤ c) : rgI a b ++ rgI b c = rgI a c := by
  have := rgI_app h (c - b).toNat
  rwa [show b + (((c - b).toNat : Nat) : Int) = c by omega] at this
theorem rgI_last {a b : Int} (h : a ≤ b) : (rgI a (b + 1))[(b - a).toNat]? = some b := by
  rw [rgI_snoc h, List.getElem?_append_right (by rw [rgI_len]; exact Nat.le_refl _), rgI_len]
  simp
theorem rgI_get {a b : Int} {i : Nat} {x : Int} (h : (rgI a b)[i]? = some x) : x = a + i ∧ a + i < b := by
  unfold rgI at h
  rw [List.getElem?_map] at h
  cases e : (List.range (b - a).toNat)[i]? with
  | none => rw [e] at h; cases h
  | some k =>
    rw [e] at h
    obtain ⟨hk, rfl⟩ := List.getElem?_eq_some_iff.mp e
    rw [List.getElem_range] at h
    rw [List.length_range] at hk
    cases h
    exact ⟨rfl, by omega⟩
end Vc

/-! Xw: name = {k: v for ..} on one line, the name a local (my own; over the library's dc_core). -/
namespace Vc
open PySem PySem.Spec PyProof.Rows L2
theorem swapD {kx vx : Expr} {gs : List Comprehension} {scope : Scope} {pos py : Pos} {y : Str} {l : Nat} {env : Env} (h1 : env.scope.kind = .function) (h2 : env.scope.names.lookup y = some .local) (h3 : (py.line == pos.line) = true)
    (h4 : (scope.names.any fun (n, k) => n == y && (k == .local || k == .cell)) = false) : swapsWith (.DictComp kx vx gs scope pos) (some (.Name y py)) l env = pure true := by
  have k1 : env.kindOf y = some .local := h2
  have k2 : env.blockKind = .function := by
    unfold Env.blockKind
    rw [h1]; rfl
  unfold swapsWith
  simp only [k1, k2, h4, Expr.pos, h3]
  rfl
section
variable {X : Cx}
theorem ps_setDc {i : Nat} {y : Str} {py : Pos} {kx vx tg iter : Expr} {ifs : List Expr} {scope : Scope} {own : List (Str × Nat)} {pos spos : Pos} {wi : TI} {g : TG} {tt : TT} {tk tv : TE} (hc : X.calm = true) (hN : X.N.Nodup) (hy : X.N[i]? = some y) (hyl : X.env.scope.names.lookup y = some .local)
    (sw : swapsWith (.DictComp kx vx [⟨tg, iter, ifs, 0⟩] scope pos) (some (.Name y py)) spos.line X.env = pure true) (hi : PI X tg iter wi) (ok : BlkOk X.N X.env.scope scope own)
    (hg : ∀ (s : Shared) (H : Hp) (C : Addr) (cl : List (Str × Addr)) (fp : List Addr), PG (X.blk s H scope (compEnvC scope cl C X.env) fp) tg g) (ht : ∀ (s : Shared) (H : Hp) (C : Addr) (cl : List (Str × Addr)) (fp : List Addr), PTs (X.blk s H scope (compEnvC scope cl C X.env) fp) ifs tt)
    (hk : ∀ (s : Shared) (H : Hp) (C : Addr) (cl : List (Str × Addr)) (fp : List Addr), PE (X.blk s H scope (compEnvC scope cl C X.env) fp) kx tk) (he : ∀ (s : Shared) (H : Hp) (C : Addr) (cl : List (Str × Addr)) (fp : List Addr), PE (X.blk s H scope (compEnvC scope cl C X.env) fp) vx tv)
    (hs : ∀ x, foldedSetIterable iter X.env x = pure x := by intro _; rfl) :
    PS X (.Assign [.Name y py] (.DictComp kx vx [⟨tg, iter, ifs, 0⟩] scope pos) spos) (tAsg (tDc wi g tt tk tv (own.map (·.2))) (gName i)) := by
  constructor
  intro pins s σ H D I h
  rw [exec_Assign_Name_used _ _ _ _ sw]
  refine wpAny_bind (wpAny_standAt (wpAny_bind ?_))
  show wpAny _ X.A (comprehension (.DictComp kx vx [⟨tg, iter, ifs, 0⟩] scope pos) scope X.env (firstIterPos [⟨tg, iter, ifs, 0⟩] pos) newDict false (eval iter X.env) (some (assign (.Name y py) X.env)) >>= fun _ => _) _ _ s
  have h2 : tDc wi g tt tk tv (own.map (·.2)) σ H (fun x H1 => gName i x σ H1 D.nx) := h
  refine wpAny_bind (thn (dc_core (Qf := fun _ t => SP X pins D .next t) hc hN I hi ok hg ht hk he hs h2 fun L C t m H1 J q hn f => ?_) fun _ _ hq => wpAny_pure (wpAny_pure hq))
  show wpAny _ _ (assign (.Name y py) X.env (.ref L)) _ _ _
  refine wpAny_assign_Name (store_ok2 (v := V.ref L) J hN hy (.inl hyl) rfl (fun t2 J2 hh => ?_) (.inr hyl))
  obtain ⟨a, sb, ha⟩ := hh
  obtain ⟨f0, f1, f2, f3, f4, f5⟩ := f
  have ne : C ≠ a := ha.elim (fun z => z ▸ f1) fun z e => f4 y a z e.symm
  exact ⟨m, hn.sameBut sb ne, fun _ sb3 => ⟨_, H1, J2.turned (t' := t2.toks) (fun b _ hb e => (sb3.2 b hb).trans e) f0 f1 f3 f4 f5, q⟩⟩
end
end Vc

/-! Xy: set(l) of a list of ints, its members counted (my own; over Xk). -/
namespace Vc
open PySem PySem.Spec PyProof.Rows L2
theorem setR_count {w : World} {h : Heap} {a : Addr} {ns : List Int} {n : Nat} (R : SetR w h a (fun j => decide (j ∈ ns)) n) : ∃ ks : List Int, ks.Nodup ∧ ks.length = n ∧ ∀ k, k ∈ ks ↔ k ∈ ns := by
  obtain ⟨_, es, _, _, _, _, _, _, nd, hm, _, _, hn, _⟩ := R
  exact ⟨es.toList.map keyOf, nd, by rw [List.length_map, Array.length_toList]; exact hn, fun k => (hm k).symm.trans decide_eq_true_iff⟩
def rSetC (K : PySem.W.Frag) (w : World) : List V → Hp → VK → Prop := fun xs H Q => ∃ (p : Addr) (ns : List Int), xs = [.ref p] ∧ SqL K H p (ns.map V.int) ∧ ns.length ≤ 1000 ∧
  ∀ (a : Addr) (ks : List Int), H a = none → ks.Nodup → (∀ k, k ∈ ks ↔ k ∈ ns) → Q (.ref a) (upd H a (SetO w a (fun j => decide (j ∈ ns)) ks.length))
theorem cr_setC {X : Cx} (hc : X.calm = true) : CallR X (.type "set") (rSetC X.K X.w) := by
  intro pins s σ H xs us Q I r h
  obtain ⟨p, ns, rfl, hq, hl, q⟩ := h
  rw [Vals.ref1 r]
  obtain ⟨its, rv, pl, hz⟩ := I.list hq
  have hi : IntsAre its.toArray.toList ns := ints_of_vals rv
  refine set_of_list ns (I.ok.hd hc) pl.isList hi (by unfold scanBound; omega) fun g tk c R _ k => ?_
  obtain ⟨ks, nd, e, hm⟩ := setR_count R
  subst e
  exact ⟨.ref s.heap.objs.size, _, I.laid (t' := tk) k (Nat.le_refl _) (setO_new R), rfl, q _ ks (I.hok.fresh (Nat.le_refl _)) nd hm⟩
theorem go_setC {K : PySem.W.Frag} {w : World} {H : Hp} {Q : VK} {p : Addr} {ns : List Int} (e : SqL K H p (ns.map V.int)) (l : ns.length ≤ 1000) (h : ∀ (a : Addr) (ks : List Int), H a = none → ks.Nodup → (∀ k, k ∈ ks ↔ k ∈ ns) → Q (.ref a) (upd H a (SetO w a (fun j => decide (j ∈ ns)) ks.length))) : rSetC K w [.ref p] H Q := ⟨p, ns, rfl, e, l, h⟩
/-- the same reading, the written part named (in a try body the reading may not name the body's own place) -/
theorem ix_listK {X : Cx} {K : PySem.W.Frag} (h : X.K = K) : IxR X (rIxL K) := h ▸ ix_list
end Vc

local macro_rules | `(tactic| walk_at "go1") => `(tactic| first
  | with_reducible refine Vc.go_seq ?_
  | with_reducible refine Vc.go_asg ?_
  | with_reducible refine Vc.go_name ?_
  | ((with_reducible refine' Vc.go_var ?hv ?_); (case hv => rfl))
  | with_reducible refine Vc.go_c ?_
  | with_reducible refine Vc.go_op ?_
  | with_reducible refine Vc.go_un ?_
  | with_reducible refine Vc.go_cb ?_
  | with_reducible refine Vc.go_cons ?_
  | with_reducible refine Vc.go_nil ?_
  | with_reducible refine Vc.go_dget ?_
  | with_reducible refine Vc.go_drop ?_
  | with_reducible refine Vc.go_chain ?_
  | with_reducible refine Vc.go_cvalR ?_
  | with_reducible refine Vc.go_fld ?_
  | with_reducible refine Vc.go_sfld ?_
  | with_reducible refine Vc.go_make ?_
  | with_reducible refine Vc.go_meth ?_
  | with_reducible refine Vc.go_dc ?_
  | with_reducible refine Vc.go_lenSet ?_
  | ((with_reducible refine' Vc.go_aug ?hv ?_); (case hv => rfl))
  | with_reducible refine Vc.go_ipI ?_
  | ((with_reducible refine' Vc.go_addS ?l ?_); (case l => walk_at "ln"))
  | with_reducible refine Vc.go_M1 ?_
  | with_reducible refine Vc.go_M0 ?_
  | with_reducible refine Vc.go_isS ?_
  | with_reducible refine Vc.go_sub ?_
  | ((with_reducible refine' Vc.go_tupD ?e ?_); (case e => walk_at "hs"))
  | ((with_reducible refine' Vc.go_tupDT ?e ?_); (case e => walk_at "hs"))
  | ((with_reducible refine' Vc.go_lstDO ?e ?_); (case e => assumption))
  | ((with_reducible refine' Vc.go_lstD ?e ?_); (case e => walk_at "hs"))
  | ((with_reducible refine' Vc.go_lstDT ?e ?_); (case e => walk_at "hs"))
  | with_reducible refine Vc.go_strE ?_
  | with_reducible refine Vc.go_sign ?_
  | with_reducible refine Vc.go_for ?_
  | with_reducible refine Vc.go_iList ?_
  | with_reducible refine Vc.go_iTup ?_
  | with_reducible refine Vc.go_iRng1 ?_
  | with_reducible refine Vc.go_iRng2 ?_
  | with_reducible refine Vc.go_iStr ?_
  | with_reducible refine Vc.go_lc ?_
  | with_reducible refine Vc.go_disp ?_
  | with_reducible refine Vc.go_pairs ?_
  | with_reducible refine Vc.go_pairs0 ?_
  | with_reducible refine' L2.iteT ?_
  | with_reducible refine' L2.iteF ?_
  | with_reducible refine' Vc.go_neL ?_
  | with_reducible refine' Vc.go_nNone ?_
  | with_reducible refine' Vc.go_nSome ?_
  | with_reducible refine' Vc.go_None ?_
  | with_reducible refine' Vc.go_Some ?_
  | with_reducible refine' Vc.go_eqL ?_
  | with_reducible refine' Vc.go_nT ?_
  | with_reducible refine' Vc.go_nF ?_
  | with_reducible refine Vc.go_ret ?_
  | with_reducible refine Vc.go_retN ?_
  | with_reducible refine Vc.go_next ?_
  | with_reducible refine Vc.go_ifS ?_
  | with_reducible refine Vc.go_test ?_
  | with_reducible refine Vc.go_B ?_
  | with_reducible refine Vc.go_bl ?_
  | with_reducible refine Vc.go_blP ?_
  | with_reducible refine Vc.go_notT ?_
  | with_reducible refine Vc.go_andT ?_
  | with_reducible refine Vc.go_orT ?_
  | with_reducible refine Vc.go_yes ?_
  | with_reducible refine Vc.go_andV ?_
  | with_reducible refine Vc.go_orV ?_
  | with_reducible refine Vc.go_notV ?_
  | with_reducible refine Vc.go_if ?_
  | with_reducible refine Vc.go_I0 ?_
  | with_reducible refine Vc.go_U ?_
  | ((with_reducible refine' Vc.go_I ?hc ?_); (case hc => walk_at "side"))
  | with_reducible refine Vc.go_eqI ?_
  | with_reducible refine Vc.go_neI ?_
  | with_reducible refine Vc.go_eqS ?_
  | with_reducible refine Vc.go_neS ?_
  | with_reducible refine Vc.go_eqB ?_
  | with_reducible refine Vc.go_neB ?_
  | ((with_reducible refine' Vc.go_isi ?ht ?hk ?_); (case ht => walk_at "ty"); (case hk => walk_at "kit"))
  | ((with_reducible refine' Vc.go_isiT2 ?ht ?e ?hk ?hk2 ?hc ?_); (case ht => walk_at "ty"); (case e => walk_at "hs"); (case hk => walk_at "kit"); (case hk2 => walk_at "kit"); (case hc => first | exact Vc.or_t | exact Vc.or_f))
  | with_reducible refine Vc.go_isN ?_
  | with_reducible refine' Vc.go_iteNT ?_
  | ((with_reducible refine' Vc.go_iteN ?h ?_); (case h => (intro z; cases z)))
  | ((with_reducible refine' Vc.go_cval ?hr ?hv ?_); (case hr => assumption); (case hv => assumption))
  | ((with_reducible refine' Vc.go_fldV ?e ?hl ?c ?n ?_); (case e => walk_at "hs"); (case hl => walk_at "fl"); (case c => assumption); (case n => assumption))
  | ((with_reducible refine' Vc.go_sfldV ?e ?l ?c ?n ?_); (case e => walk_at "hs"); (case l => walk_at "fn"); (case c => assumption); (case n => assumption))
  | ((with_reducible refine' Vc.go_methV ?e ?l ?_); (case e => walk_at "hs"); (case l => walk_at "fl"))
  | ((with_reducible refine' Vc.go_lenD ?e ?_); (case e => walk_at "hs"))
  | ((with_reducible refine' Vc.go_listD ?e ?_); (case e => walk_at "hs"))
  | ((with_reducible refine' Vc.go_lenS ?l ?_); (case l => walk_at "ln"))
  | ((with_reducible refine' Vc.go_dgetIF ?he ?hv ?_); (case he => walk_at "fz"); (case hv => walk_at "dv"))
  | ((with_reducible refine' Vc.go_inL ?e ?hx ?hf ?_); (case e => walk_at "hs"); (case hx => rfl); (case hf => walk_at "flat"))
  | ((with_reducible refine' Vc.go_inT ?e ?hx ?hf ?_); (case e => walk_at "hs"); (case hx => rfl); (case hf => walk_at "flat"))
  | ((with_reducible refine' Vc.go_niL ?e ?hx ?hf ?_); (case e => walk_at "hs"); (case hx => rfl); (case hf => walk_at "flat"))
  | ((with_reducible refine' Vc.go_niT ?e ?hx ?hf ?_); (case e => walk_at "hs"); (case hx => rfl); (case hf => walk_at "flat"))
  | with_reducible refine Vc.go_call ?_
  | with_reducible refine Vc.go_raiseT ?_
  | with_reducible refine Vc.go_mkO ?_
  | with_reducible refine Vc.go_err1 ?_
  | with_reducible refine Vc.go_err2 ?_
  | with_reducible refine Vc.go_callS ?_
  | with_reducible refine Vc.go_callI ?_
  | with_reducible refine Vc.go_methS ?_
  | with_reducible refine Vc.go_makeS ?_
  | with_reducible refine Vc.go_callIK ?_
  | with_reducible refine Vc.go_refE ?_
  | ((with_reducible refine' Vc.go_insD ?e ?_); (case e => walk_at "hs"))
  | with_reducible refine Vc.go_xfX ?_
  | ((with_reducible refine' Vc.go_xfXV ?T ?n ?e ?l ?_); (case T => assumption); (case n => assumption); (case e => walk_at "hs"); (case l => walk_at "fl"))
  | ((with_reducible refine' Vc.go_isXC ?C ?d ?k ?_); (case C => assumption); (case d => ((with_reducible refine' Vc.xdAt ?e); (case e => walk_at "hs"))); (case k => assumption))
  | ((with_reducible refine' Vc.go_isXT ?C ?d ?k ?_); (case C => assumption); (case d => ((with_reducible refine' Vc.xdAt ?e); (case e => walk_at "hs"))); (case k => assumption))
  | with_reducible refine Vc.go_ixO ?_
  | ((with_reducible refine' Vc.go_cntS ?e ?_); (case e => walk_at "hs"))
  | ((with_reducible refine' Vc.go_insF ?e ?_); (case e => walk_at "hs"))
  | ((with_reducible refine' Vc.go_lenO ?e ?_); (case e => walk_at "hs"))
  | ((with_reducible refine' Vc.go_strO ?e ?_); (case e => walk_at "hs"))
  | with_reducible refine Vc.go_smeth ?_
  | with_reducible refine Vc.go_refC ?_
  | ((with_reducible refine' Vc.go_tyD ?e ?_); (case e => walk_at "hs"))
  | ((with_reducible refine' Vc.go_dclear ?e ?_); (case e => walk_at "hs"))
  | ((with_reducible refine' Vc.go_lclear ?e ?_); (case e => walk_at "hs"))
  | ((with_reducible refine' Vc.go_dpopI ?e ?v ?_); (case e => walk_at "hs"); (case v => walk_at "dv"))
  | with_reducible refine Vc.go_revL ?_
  | ((with_reducible refine' Vc.go_revLV ?e ?_); (case e => walk_at "hs"))
  | with_reducible refine Vc.go_js0 ?_
  | with_reducible refine Vc.go_js ?_
  | ((with_reducible refine' Vc.go_jsV ?l ?_); (case l => walk_at "ln"))
  | ((with_reducible refine' Vc.go_szS ?l ?_); (case l => walk_at "ln"))
  | with_reducible refine Vc.go_fmt ?_
  | ((with_reducible refine' Vc.go_fmtS ?l ?_); (case l => walk_at "ln"))
  | ((with_reducible refine' Vc.go_fmtI ?l ?_); (case l => assumption))
  | ((with_reducible refine' Vc.go_strI ?l ?_); (case l => assumption))
  | ((with_reducible refine' Vc.go_inO ?e ?_); (case e => walk_at "hs"))
  | with_reducible refine Vc.go_iRngL ?_
  | with_reducible refine Vc.go_iRngLV ?_
  | with_reducible refine Vc.go_lstRg ?_
  | with_reducible refine Vc.go_lstRgV ?_
  | with_reducible refine Vc.go_tryX ?_
  | with_reducible refine Vc.go_setP ?_
  | ((with_reducible refine' Vc.go_setPV ?e ?_); (case e => walk_at "hs"))
  | with_reducible refine Vc.go_prop ?_
  | with_reducible refine Vc.go_makeK ?_
  | with_reducible refine Vc.go_make0 ?_
  | with_reducible refine Vc.go_xfT ?_
  | ((with_reducible refine' Vc.go_xfTV ?E ?T ?n ?l ?_); (case E => walk_at "bd"); (case T => assumption); (case n => assumption); (case l => walk_at "fl"))
  | ((with_reducible refine' Vc.go_isTC ?E ?C ?k ?_); (case E => walk_at "bd"); (case C => assumption); (case k => assumption))
  | ((with_reducible refine' Vc.go_isTT ?E ?C ?k ?_); (case E => walk_at "bd"); (case C => assumption); (case k => assumption))
  | with_reducible refine Vc.go_tryAs ?_
  | with_reducible refine Vc.go_tryOnly ?_
  | with_reducible refine Vc.go_tup ?_
  | with_reducible refine Vc.go_lst ?_
  | with_reducible refine Vc.go_dnew ?_
  | with_reducible refine Vc.go_din ?_
  | with_reducible refine Vc.go_dnotin ?_
  | with_reducible refine Vc.go_dput ?_
  | with_reducible refine Vc.go_sl ?_
  | with_reducible refine Vc.go_nopart ?_
  | with_reducible refine Vc.go_part ?_
  | with_reducible refine Vc.go_partI ?_
  | with_reducible refine Vc.go_bm ?_
  | with_reducible refine Vc.go_bm0 ?_
  | with_reducible refine Vc.go_abs ?_
  | with_reducible refine Vc.go_int1 ?_
  | with_reducible refine Vc.go_int1b ?_
  | ((with_reducible refine' Vc.go_dgetS ?he ?hv ?_); (case he => walk_at "hs"); (case hv => walk_at "dv"))
  | ((with_reducible refine' Vc.go_dgetI ?he ?hv ?_); (case he => walk_at "hs"); (case hv => walk_at "dv"))
  | ((with_reducible refine' Vc.go_dputS ?he ?hl ?_); (case he => walk_at "hs"); (case hl => walk_at "ln"))
  | ((with_reducible refine' Vc.go_dputI ?he ?hl ?_); (case he => walk_at "hs"); (case hl => walk_at "ln"))
  | ((with_reducible refine' Vc.go_dinI ?he ?_); (case he => walk_at "hs"))
  | with_reducible refine Vc.go_methK ?_
  | with_reducible refine Vc.go_callK ?_
  | ((with_reducible refine' Vc.go_lenL ?he ?_); (case he => walk_at "hs"))
  | ((with_reducible refine' Vc.go_lenT ?he ?_); (case he => walk_at "hs"))
  | ((with_reducible refine' Vc.go_slS ?hz ?_); (case hz => walk_at "ln"))
  | ((with_reducible refine' Vc.go_slL ?he ?_); (case he => walk_at "hs"))
  | ((with_reducible refine' Vc.go_tyL ?he ?_); (case he => walk_at "hs"))
  | ((with_reducible refine' Vc.go_len ?hl ?_); (case hl => walk_at "ln"))
  | ((with_reducible refine' Vc.go_append ?he ?hl ?_); (case he => walk_at "hs"); (case hl => walk_at "ln"))
  | ((with_reducible refine' Vc.go_ixL ?he ?hv ?_); (case he => walk_at "hs"); (case hv => walk_at "ix"))
  | ((with_reducible refine' Vc.go_ixT ?he ?hv ?_); (case he => walk_at "hs"); (case hv => walk_at "ix"))
  | ((with_reducible refine' Vc.go_ixS ?he ?hv ?_); (case he => walk_at "ln"); (case hv => walk_at "ix")))
local macro_rules | `(tactic| walk_at "kit") => `(tactic| first
  | with_reducible exact Vc.kit_int_int
  | with_reducible exact Vc.kit_int_bool
  | with_reducible exact Vc.kit_int_str
  | with_reducible exact Vc.kit_int_tuple
  | with_reducible exact Vc.kit_int_list
  | with_reducible exact Vc.kit_int_dict
  | with_reducible exact Vc.kit_bool_int
  | with_reducible exact Vc.kit_bool_bool
  | with_reducible exact Vc.kit_bool_str
  | with_reducible exact Vc.kit_bool_tuple
  | with_reducible exact Vc.kit_bool_list
  | with_reducible exact Vc.kit_bool_dict
  | with_reducible exact Vc.kit_str_int
  | with_reducible exact Vc.kit_str_bool
  | with_reducible exact Vc.kit_str_str
  | with_reducible exact Vc.kit_str_tuple
  | with_reducible exact Vc.kit_str_list
  | with_reducible exact Vc.kit_str_dict
  | with_reducible exact Vc.kit_NoneType_int
  | with_reducible exact Vc.kit_NoneType_bool
  | with_reducible exact Vc.kit_NoneType_str
  | with_reducible exact Vc.kit_NoneType_tuple
  | with_reducible exact Vc.kit_NoneType_list
  | with_reducible exact Vc.kit_NoneType_dict
  | with_reducible exact Vc.kit_list_int
  | with_reducible exact Vc.kit_list_bool
  | with_reducible exact Vc.kit_list_str
  | with_reducible exact Vc.kit_list_tuple
  | with_reducible exact Vc.kit_list_list
  | with_reducible exact Vc.kit_list_dict
  | with_reducible exact Vc.kit_tuple_int
  | with_reducible exact Vc.kit_tuple_bool
  | with_reducible exact Vc.kit_tuple_str
  | with_reducible exact Vc.kit_tuple_tuple
  | with_reducible exact Vc.kit_tuple_list
  | with_reducible exact Vc.kit_tuple_dict
  | with_reducible exact Vc.kit_dict_int
  | with_reducible exact Vc.kit_dict_bool
  | with_reducible exact Vc.kit_dict_str
  | with_reducible exact Vc.kit_dict_tuple
  | with_reducible exact Vc.kit_dict_list
  | with_reducible exact Vc.kit_dict_dict)
local macro_rules | `(tactic| walk_at "ty") => `(tactic| first
  | with_reducible exact .base (.int _)
  | with_reducible exact .base (.bl _)
  | with_reducible exact .base (.str _)
  | with_reducible exact .base .non
  | ((with_reducible refine' Vc.tyL ?h); (case h => walk_at "hs"))
  | ((with_reducible refine' Vc.tyT ?h); (case h => walk_at "hs")))
local macro_rules | `(tactic| walk_at "fl") => `(tactic| first | assumption | rfl)
local macro_rules | `(tactic| walk_at "fn") => `(tactic| first | assumption | exact (show 0 < 1000 by decide) | exact (show 1 < 1000 by decide) | exact (show 2 < 1000 by decide) | exact (show 3 < 1000 by decide) | exact (show 4 < 1000 by decide) | exact (show 5 < 1000 by decide) | exact (show 6 < 1000 by decide))
local macro_rules | `(tactic| walk_at "goo") => `(tactic| repeat (first
  | walk_at "go1"
  | ((with_reducible refine' Vc.go_iteT' ?h ?_); (case h => omega))
  | ((with_reducible refine' Vc.go_iteF' ?h ?_); (case h => omega))
  | ((with_reducible refine' Vc.go_itenT' ?h ?_); (case h => omega))
  | ((with_reducible refine' Vc.go_itenF' ?h ?_); (case h => omega))
  | ((with_reducible refine' Vc.go_iteT' ?h ?_); (case h => decide))
  | ((with_reducible refine' Vc.go_iteF' ?h ?_); (case h => decide))))
local macro_rules | `(tactic| walk_at "flat") => `(tactic| first | assumption | rfl)
local macro_rules | `(tactic| walk_at "ix") => `(tactic| first | assumption | rfl)
local macro_rules | `(tactic| walk_at "dv") => `(tactic| first | assumption | rfl)
local macro_rules | `(tactic| walk_at "ln") => `(tactic| first | assumption | (simp only [List.length_cons, List.length_nil, List.length_append, List.length_map]; omega) | decide)
local macro_rules | `(tactic| walk_at "go") => `(tactic| repeat walk_at "go1")
local macro_rules | `(tactic| walk_at "side") => `(tactic| first
  | omega
  | (dsimp only; omega)
  | exact ⟨by omega, by omega, by omega⟩
  | exact Vc.mulw (by omega) (by omega)
  | exact Vc.divw (by omega) (by omega))
local macro_rules | `(tactic| walk_at "hs") => `(tactic| first
  | assumption
  | ((with_reducible refine' Vc.Ed.at0 ?e ?h); (case e => assumption); (case h => walk_at "hs"))
  | ((with_reducible refine' Vc.Ed.at1 ?e ?n ?h); (case e => assumption); (case n => walk_at "ne"); (case h => walk_at "hs"))
  | ((with_reducible refine' Vc.Ed.at2 ?e ?n ?m ?h); (case e => assumption); (case n => walk_at "ne"); (case m => walk_at "ne"); (case h => walk_at "hs"))
  | ((with_reducible refine' Vc.frz' ?e ?h); (case e => assumption); (case h => walk_at "hs"))
  | ((with_reducible refine' L2.SqL.of ?h); (case h => walk_at "hs"))
  | ((with_reducible refine' Vc.all_sqt ?h _); (case h => assumption))
  | ((with_reducible refine' Vc.sqt_of ?h); (case h => walk_at "hs"))
  | ((with_reducible refine' Vc.Ed.sqt ?e ?h); (case e => assumption); (case h => walk_at "hs"))
  | ((with_reducible refine' Vc.Ed.sql0 ?e ?h); (case e => assumption); (case h => walk_at "hs"))
  | ((with_reducible refine' Vc.Ed.sql1 ?e ?n ?h); (case e => assumption); (case n => walk_at "ne"); (case h => walk_at "hs")))
local macro_rules | `(tactic| walk_at "fz") => `(tactic| first
  | assumption
  | ((with_reducible refine' Vc.frz' ?e ?h); (case e => assumption); (case h => walk_at "fz")))
local macro_rules | `(tactic| walk_at "ne") => `(tactic| first
  | assumption
  | ((with_reducible refine' Ne.symm ?h); (case h => assumption))
  | ((with_reducible refine' Vc.ne1 ?e ?h); (case e => assumption); (case h => walk_at "hs"))
  | ((with_reducible refine' Vc.ne2 ?e ?h); (case e => assumption); (case h => walk_at "hs"))
  | ((with_reducible refine' Vc.nek ?e ?h ?d); (case e => assumption); (case h => assumption); (case d => intro z; cases z)))
local macro_rules | `(tactic| walk_at "free") => `(tactic| first
  | assumption
  | ((with_reducible refine' Vc.Ed.back ?e ?h); (case e => assumption); (case h => walk_at "free")))
local macro_rules | `(tactic| walk_at "in") => `(tactic| first
  | ((with_reducible refine' Or.inl ?h); (case h => (simp only [List.mem_cons, List.not_mem_nil, or_false, true_or, or_true]; done)))
  | ((with_reducible refine' Or.inr ?h); (case h => walk_at "free")))
local macro_rules | `(tactic| walk_at "ed") => `(tactic| first
  | assumption
  | with_reducible exact Vc.Ed.refl
  | ((with_reducible refine' Vc.Ed.ex' ?b ?a); (case b => assumption); (case a => walk_at "ed"))
  | ((with_reducible refine' Vc.Ed.one' ?b ?a ?h); (case b => assumption); (case a => walk_at "ed"); (case h => walk_at "in"))
  | ((with_reducible refine' Vc.Ed.two' ?b ?a ?h ?g); (case b => assumption); (case a => walk_at "ed"); (case h => walk_at "in"); (case g => walk_at "in")))
local macro_rules | `(tactic| walk_at "bd") => `(tactic| first
  | assumption
  | ((with_reducible refine' Vc.ErrAt.ed0 ?e ?h); (case e => assumption); (case h => walk_at "bd")))

namespace My
open PySem PySem.Spec PyProof.Rows L2
abbrev PG : Program := PySem.Challenge.pw_codestitch_k15_whole_a_program_by_its_ro
def topS (i : Nat) : Stmt := PySem.Challenge.pw_codestitch_k15_whole_a_program_by_its_ro.main.body.getD i (.Pass ⟨0, 0, 0, 0⟩)
abbrev s_is_byte : Stmt := topS 16
theorem sc_is_byte : FnScope ["value"] ["value"] (defScope s_is_byte) := ⟨rfl, rfl, rfl, by decide +kernel, rfl, by decide +kernel, by decide +kernel⟩
abbrev s_is_name : Stmt := topS 17
theorem sc_is_name : FnScope ["value", "sign"] ["value"] (defScope s_is_name) := ⟨rfl, rfl, rfl, by decide +kernel, rfl, by decide +kernel, by decide +kernel⟩
abbrev s_Formu_initu : Stmt := inClass (topS 18) 1
theorem sc_Formu_initu : FnScope ["self", "name", "length", "flow", "least"] ["self", "name", "length", "flow"] (defScope s_Formu_initu) := ⟨rfl, rfl, rfl, by decide +kernel, rfl, by decide +kernel, by decide +kernel⟩
abbrev s_check_forms : Stmt := topS 19
theorem sc_check_forms : FnScope ["stop", "forms", "names", "byte"] ["stop", "forms"] (defScope s_check_forms) := ⟨rfl, rfl, rfl, by decide +kernel, rfl, by decide +kernel, by decide +kernel⟩
abbrev s_CodeSetu_initu : Stmt := inClass (topS 20) 2
theorem sc_CodeSetu_initu : FnScope ["self", "stop", "forms", "byte"] ["self", "stop", "forms"] (defScope s_CodeSetu_initu) := ⟨rfl, rfl, rfl, by decide +kernel, rfl, by decide +kernel, by decide +kernel⟩
abbrev s_CodeSetu_callu : Stmt := inClass (topS 20) 10
theorem sc_CodeSetu_callu : FnScope ["self", "values", "at", "data", "high"] ["self", "values", "at"] (defScope s_CodeSetu_callu) := ⟨rfl, rfl, rfl, by decide +kernel, rfl, by decide +kernel, by decide +kernel⟩
abbrev s_CodeSet_followers : Stmt := inClass (topS 20) 11
theorem sc_CodeSet_followers : FnScope ["self", "instruction", "place", "flow", "high", "distance"] ["self", "instruction", "place"] (defScope s_CodeSet_followers) := ⟨rfl, rfl, rfl, by decide +kernel, rfl, by decide +kernel, by decide +kernel⟩
abbrev s_instruction_at : Stmt := topS 10
theorem sc_instruction_at : FnScope ["codes", "values", "place"] ["codes", "values", "place"] (defScope s_instruction_at) := ⟨rfl, rfl, rfl, by decide +kernel, rfl, by decide +kernel, by decide +kernel⟩
abbrev s_explore : Stmt := topS 11
theorem sc_explore : FnScope ["codes", "values", "roots", "laid", "waiting", "place", "instruction"] ["codes", "values", "roots"] (defScope s_explore) := ⟨rfl, rfl, rfl, by decide +kernel, rfl, by decide +kernel, by decide +kernel⟩
abbrev s_chain : Stmt := topS 12
theorem sc_chain : FnScope ["before", "place", "found"] ["before", "place"] (defScope s_chain) := ⟨rfl, rfl, rfl, by decide +kernel, rfl, by decide +kernel, by decide +kernel⟩
abbrev s_Programu_initu : Stmt := inClass (topS 13) 0
theorem sc_Programu_initu : FnScope ["self", "codes", "values", "roots", "place"] ["self", "codes", "values", "roots"] (defScope s_Programu_initu) := ⟨rfl, rfl, rfl, by decide +kernel, rfl, by decide +kernel, by decide +kernel⟩
abbrev s_Programu_containsu : Stmt := inClass (topS 13) 1
theorem sc_Programu_containsu : FnScope ["self", "x"] ["self", "x"] (defScope s_Programu_containsu) := ⟨rfl, rfl, rfl, by decide +kernel, rfl, by decide +kernel, by decide +kernel⟩
abbrev s_Programu_getitemu : Stmt := inClass (topS 13) 2
theorem sc_Programu_getitemu : FnScope ["self", "at"] ["self", "at"] (defScope s_Programu_getitemu) := ⟨rfl, rfl, rfl, by decide +kernel, rfl, by decide +kernel, by decide +kernel⟩
abbrev s_Programu_lenu : Stmt := inClass (topS 13) 3
theorem sc_Programu_lenu : FnScope ["self"] ["self"] (defScope s_Programu_lenu) := ⟨rfl, rfl, rfl, by decide +kernel, rfl, by decide +kernel, by decide +kernel⟩
abbrev s_Program_places : Stmt := inClass (topS 13) 5
theorem sc_Program_places : FnScope ["self"] ["self"] (defScope s_Program_places) := ⟨rfl, rfl, rfl, by decide +kernel, rfl, by decide +kernel, by decide +kernel⟩
abbrev s_Program_followers : Stmt := inClass (topS 13) 6
theorem sc_Program_followers : FnScope ["self", "place"] ["self", "place"] (defScope s_Program_followers) := ⟨rfl, rfl, rfl, by decide +kernel, rfl, by decide +kernel, by decide +kernel⟩
abbrev s_Program_covers : Stmt := inClass (topS 13) 7
theorem sc_Program_covers : FnScope ["self", "address", "place"] ["self", "address"] (defScope s_Program_covers) := ⟨rfl, rfl, rfl, by decide +kernel, rfl, by decide +kernel, by decide +kernel⟩
abbrev s_Program_way : Stmt := inClass (topS 13) 8
theorem sc_Program_way : FnScope ["self", "place", "before", "row", "at", "following", "root"] ["self", "place"] (defScope s_Program_way) := ⟨rfl, rfl, rfl, by decide +kernel, rfl, by decide +kernel, by decide +kernel⟩
abbrev s__law_pen : Stmt := topS 22
theorem sc__law_pen : FnScope ["_law_script", "_law_turned", "_law_cells"] ["_law_script", "_law_turned"] (defScope s__law_pen) := ⟨rfl, rfl, rfl, by decide +kernel, rfl, by decide +kernel, by decide +kernel⟩
abbrev s__law_draw : Stmt := topS 23
theorem sc__law_draw : FnScope ["_law_pen_here", "_law_many", "_law_digit", "_law_at", "_law_cell", "_law_number"] ["_law_pen_here", "_law_many"] (defScope s__law_draw) := ⟨rfl, rfl, rfl, by decide +kernel, rfl, by decide +kernel, by decide +kernel⟩
abbrev s__law_forms : Stmt := topS 24
theorem sc__law_forms : FnScope ["_law_pen_here", "_law_most", "_law_letters", "_law_rest", "_law_spot", "_law_stop", "_law_forms_here", "_law_k", "_law_byte_here", "_law_flow", "_law_length"] ["_law_pen_here", "_law_most"] (defScope s__law_forms) := ⟨rfl, rfl, rfl, by decide +kernel, rfl, by decide +kernel, by decide +kernel⟩
abbrev s__law_codeset : Stmt := topS 25
theorem sc__law_codeset : FnScope ["_law_stop", "_law_forms_here", "_law_made_here", "_law_byte_here"] ["_law_stop", "_law_forms_here"] (defScope s__law_codeset) := ⟨rfl, rfl, rfl, by decide +kernel, rfl, by decide +kernel, by decide +kernel⟩
abbrev s__law_byte : Stmt := topS 26
theorem sc__law_byte : FnScope ["_law_pen_here", "_law_stop", "_law_forms_here", "_law_some"] ["_law_pen_here", "_law_stop", "_law_forms_here"] (defScope s__law_byte) := ⟨rfl, rfl, rfl, by decide +kernel, rfl, by decide +kernel, by decide +kernel⟩
abbrev s__law_filled : Stmt := topS 27
theorem sc__law_filled : FnScope ["_law_pen_here", "_law_stop", "_law_forms_here", "_law_room", "_law_found", "_law_some", "_law_byte_here", "_law_k"] ["_law_pen_here", "_law_stop", "_law_forms_here", "_law_room"] (defScope s__law_filled) := ⟨rfl, rfl, rfl, by decide +kernel, rfl, by decide +kernel, by decide +kernel⟩
abbrev s__law_places : Stmt := topS 28
theorem sc__law_places : FnScope ["_law_forms_here", "_law_values_here", "_law_found", "_law_at"] ["_law_forms_here", "_law_values_here"] (defScope s__law_places) := ⟨rfl, rfl, rfl, by decide +kernel, rfl, by decide +kernel, by decide +kernel⟩
abbrev s__law_aimed : Stmt := topS 29
theorem sc__law_aimed : FnScope ["_law_pen_here", "_law_forms_here", "_law_values_here", "_law_places_here", "_law_goals", "_law_loose", "_law_found", "_law_place", "_law_high", "_law_goal"] ["_law_pen_here", "_law_forms_here", "_law_values_here", "_law_places_here", "_law_goals", "_law_loose"] (defScope s__law_aimed) := ⟨rfl, rfl, rfl, by decide +kernel, rfl, by decide +kernel, by decide +kernel⟩
abbrev s__law_laid : Stmt := topS 30
theorem sc__law_laid : FnScope ["_law_pen_here", "_law_stop", "_law_forms_here", "_law_size", "_law_loose", "_law_values_here", "_law_places_here"] ["_law_pen_here", "_law_stop", "_law_forms_here", "_law_size", "_law_loose"] (defScope s__law_laid) := ⟨rfl, rfl, rfl, by decide +kernel, rfl, by decide +kernel, by decide +kernel⟩
abbrev s__law_follow : Stmt := topS 31
theorem sc__law_follow : FnScope ["_law_forms_here", "_law_fetched", "_law_place", "_law_high", "_law_goal", "_law_flow"] ["_law_forms_here", "_law_fetched", "_law_place"] (defScope s__law_follow) := ⟨rfl, rfl, rfl, by decide +kernel, rfl, by decide +kernel, by decide +kernel⟩
abbrev s__law_reach : Stmt := topS 32
theorem sc__law_reach : FnScope ["_law_forms_here", "_law_values_here", "_law_roots_here", "_law_found", "_law_waiting", "_law_place", "_law_high"] ["_law_forms_here", "_law_values_here", "_law_roots_here"] (defScope s__law_reach) := ⟨rfl, rfl, rfl, by decide +kernel, rfl, by decide +kernel, by decide +kernel⟩
abbrev s__law_values : Stmt := topS 34
theorem sc__law_values : FnScope ["_law_pen_here", "_law_stop", "_law_forms_here", "_law_size", "_law_way", "_law_found", "_law_k"] ["_law_pen_here", "_law_stop", "_law_forms_here"] (defScope s__law_values) := ⟨rfl, rfl, rfl, by decide +kernel, rfl, by decide +kernel, by decide +kernel⟩
abbrev s__law_roots : Stmt := topS 35
theorem sc__law_roots : FnScope ["_law_pen_here", "_law_forms_here", "_law_values_here", "_law_reach_here", "_law_good", "_law_odd", "_law_found", "_law_k", "_law_some", "_law_place"] ["_law_pen_here", "_law_forms_here", "_law_values_here"] (defScope s__law_roots) := ⟨rfl, rfl, rfl, by decide +kernel, rfl, by decide +kernel, by decide +kernel⟩
abbrev s__law_made : Stmt := topS 36
theorem sc__law_made : FnScope ["_law_coding", "_law_values_here", "_law_roots_here", "_law_told", "_law_made_here", "_law_place", "error"] ["_law_coding", "_law_values_here", "_law_roots_here"] (defScope s__law_made) := ⟨rfl, rfl, rfl, by decide +kernel, rfl, by decide +kernel, by decide +kernel⟩
abbrev s__law_all : Stmt := topS 37
theorem sc__law_all : FnScope ["_law_made_here", "_law_less", "_law_found", "_law_place", "_law_behind", "_law_other"] ["_law_made_here", "_law_less"] (defScope s__law_all) := ⟨rfl, rfl, rfl, by decide +kernel, rfl, by decide +kernel, by decide +kernel⟩
abbrev s__law_joined_right : Stmt := topS 38
theorem sc__law_joined_right : FnScope ["_law_coding", "_law_values_here", "_law_one", "_law_other", "_law_both", "_law_place", "_law_first", "_law_bad", "_law_last", "_law_worse", "_law_wrong", "_law_told", "_law_k", "_law_part", "_law_spot"] ["_law_coding", "_law_values_here", "_law_one", "_law_other"] (defScope s__law_joined_right) := ⟨rfl, rfl, rfl, by decide +kernel, rfl, by decide +kernel, by decide +kernel⟩
abbrev s__law_bytes_right : Stmt := topS 39
theorem sc__law_bytes_right : FnScope ["_law_pen_here", "_law_coding", "_law_values_here", "_law_roots_here", "_law_made_here", "_law_blank", "_law_other", "_law_spot", "_law_last", "_law_row", "_law_found", "_law_place"] ["_law_pen_here", "_law_coding", "_law_values_here", "_law_roots_here", "_law_made_here"] (defScope s__law_bytes_right) := ⟨rfl, rfl, rfl, by decide +kernel, rfl, by decide +kernel, by decide +kernel⟩
abbrev s__law_later_right : Stmt := topS 40
theorem sc__law_later_right : FnScope ["_law_pen_here", "_law_coding", "_law_values_here", "_law_roots_here", "_law_made_here", "_law_many", "_law_ahead", "_law_found", "_law_place", "_law_address", "_law_due", "_law_k", "_law_root", "_law_spot"] ["_law_pen_here", "_law_coding", "_law_values_here", "_law_roots_here", "_law_made_here"] (defScope s__law_later_right) := ⟨rfl, rfl, rfl, by decide +kernel, rfl, by decide +kernel, by decide +kernel⟩
abbrev s__law_ways_right : Stmt := topS 41
theorem sc__law_ways_right : FnScope ["_law_pen_here", "_law_coding", "_law_values_here", "_law_made_here", "_law_turn", "_law_places_here", "_law_place", "_law_way", "_law_k", "_law_part", "_law_bad", "_law_spot"] ["_law_pen_here", "_law_coding", "_law_values_here", "_law_made_here"] (defScope s__law_ways_right) := ⟨rfl, rfl, rfl, by decide +kernel, rfl, by decide +kernel, by decide +kernel⟩
abbrev s_law : Stmt := topS 42
theorem sc_law : FnScope ["_law_script", "_law_pen_here", "_law_stop", "_law_forms_here", "_law_coding", "_law_turn", "_law_values_here", "_law_one", "_law_other", "_law_made_here", "_law_place"] ["_law_script"] (defScope s_law) := ⟨rfl, rfl, rfl, by decide +kernel, rfl, by decide +kernel, by decide +kernel⟩
abbrev s_NotWholeu_initu : Stmt := inClass (topS 8) 0
theorem sc_NotWholeu_initu : Vc.SupScope ["self", "place"] ["self", "place"] (defScope s_NotWholeu_initu) := ⟨rfl, rfl, rfl, by decide +kernel, rfl, by decide +kernel, by decide +kernel, by decide +kernel, rfl, rfl⟩
abbrev s_BadAddressu_initu : Stmt := inClass (topS 7) 0
theorem sc_BadAddressu_initu : Vc.SupScope ["self", "at"] ["self", "at"] (defScope s_BadAddressu_initu) := ⟨rfl, rfl, rfl, by decide +kernel, rfl, by decide +kernel, by decide +kernel, by decide +kernel, rfl, rfl⟩
structure Ad where
  C_Form : Addr
  C_CodeSet : Addr
  C_Program : Addr
  f_is_byte : Addr
  d_is_byte : FuncData
  f_is_name : Addr
  d_is_name : FuncData
  f_Formu_initu : Addr
  d_Formu_initu : FuncData
  f_check_forms : Addr
  d_check_forms : FuncData
  f_CodeSetu_initu : Addr
  d_CodeSetu_initu : FuncData
  f_CodeSetu_callu : Addr
  d_CodeSetu_callu : FuncData
  f_CodeSet_followers : Addr
  d_CodeSet_followers : FuncData
  f_instruction_at : Addr
  d_instruction_at : FuncData
  f_explore : Addr
  d_explore : FuncData
  f_chain : Addr
  d_chain : FuncData
  f_Programu_initu : Addr
  d_Programu_initu : FuncData
  f_Programu_containsu : Addr
  d_Programu_containsu : FuncData
  f_Programu_getitemu : Addr
  d_Programu_getitemu : FuncData
  f_Programu_lenu : Addr
  d_Programu_lenu : FuncData
  f_Program_places : Addr
  d_Program_places : FuncData
  f_Program_followers : Addr
  d_Program_followers : FuncData
  f_Program_covers : Addr
  d_Program_covers : FuncData
  f_Program_way : Addr
  d_Program_way : FuncData
  f__law_pen : Addr
  d__law_pen : FuncData
  f__law_draw : Addr
  d__law_draw : FuncData
  f__law_forms : Addr
  d__law_forms : FuncData
  f__law_codeset : Addr
  d__law_codeset : FuncData
  f__law_byte : Addr
  d__law_byte : FuncData
  f__law_filled : Addr
  d__law_filled : FuncData
  f__law_places : Addr
  d__law_places : FuncData
  f__law_aimed : Addr
  d__law_aimed : FuncData
  f__law_laid : Addr
  d__law_laid : FuncData
  f__law_follow : Addr
  d__law_follow : FuncData
  f__law_reach : Addr
  d__law_reach : FuncData
  f__law_values : Addr
  d__law_values : FuncData
  f__law_roots : Addr
  d__law_roots : FuncData
  f__law_made : Addr
  d__law_made : FuncData
  f__law_all : Addr
  d__law_all : FuncData
  f__law_joined_right : Addr
  d__law_joined_right : FuncData
  f__law_bytes_right : Addr
  d__law_bytes_right : FuncData
  f__law_later_right : Addr
  d__law_later_right : FuncData
  f__law_ways_right : Addr
  d__law_ways_right : FuncData
  f_law : Addr
  d_law : FuncData
  C_NotWhole : Addr
  f_NotWholeu_initu : Addr
  d_NotWholeu_initu : FuncData
  C_BadAddress : Addr
  f_BadAddressu_initu : Addr
  d_BadAddressu_initu : FuncData
  a_FLOWS : Addr
structure Txt (K : PySem.W.Frag) (mg : Str → Option Value) (A : Ad) : Prop where
  g_Form : mg "Form" = some (.ref A.C_Form)
  g_CodeSet : mg "CodeSet" = some (.ref A.C_CodeSet)
  g_Program : mg "Program" = some (.ref A.C_Program)
  g_is_byte : mg "is_byte" = some (.ref A.f_is_byte)
  F_is_byte : Fun K "is_byte" "is_byte" s_is_byte A.f_is_byte A.d_is_byte
  b_is_byte : Binds K A.d_is_byte ["value"] []
  g_is_name : mg "is_name" = some (.ref A.f_is_name)
  F_is_name : Fun K "is_name" "is_name" s_is_name A.f_is_name A.d_is_name
  b_is_name : Binds K A.d_is_name ["value"] []
  F_Formu_initu : Fun K "__init__" "Form.__init__" s_Formu_initu A.f_Formu_initu A.d_Formu_initu
  b_Formu_initu : Binds K A.d_Formu_initu ["self", "name", "length", "flow"] []
  g_check_forms : mg "check_forms" = some (.ref A.f_check_forms)
  F_check_forms : Fun K "check_forms" "check_forms" s_check_forms A.f_check_forms A.d_check_forms
  b_check_forms : Binds K A.d_check_forms ["stop", "forms"] []
  F_CodeSetu_initu : Fun K "__init__" "CodeSet.__init__" s_CodeSetu_initu A.f_CodeSetu_initu A.d_CodeSetu_initu
  b_CodeSetu_initu : Binds K A.d_CodeSetu_initu ["self", "stop", "forms"] []
  F_CodeSetu_callu : Fun K "__call__" "CodeSet.__call__" s_CodeSetu_callu A.f_CodeSetu_callu A.d_CodeSetu_callu
  b_CodeSetu_callu : Binds K A.d_CodeSetu_callu ["self", "values", "at"] []
  F_CodeSet_followers : Fun K "followers" "CodeSet.followers" s_CodeSet_followers A.f_CodeSet_followers A.d_CodeSet_followers
  b_CodeSet_followers : Binds K A.d_CodeSet_followers ["self", "instruction", "place"] []
  g_instruction_at : mg "instruction_at" = some (.ref A.f_instruction_at)
  F_instruction_at : Fun K "instruction_at" "instruction_at" s_instruction_at A.f_instruction_at A.d_instruction_at
  b_instruction_at : Binds K A.d_instruction_at ["codes", "values", "place"] []
  g_explore : mg "explore" = some (.ref A.f_explore)
  F_explore : Fun K "explore" "explore" s_explore A.f_explore A.d_explore
  b_explore : Binds K A.d_explore ["codes", "values", "roots"] []
  g_chain : mg "chain" = some (.ref A.f_chain)
  F_chain : Fun K "chain" "chain" s_chain A.f_chain A.d_chain
  b_chain : Binds K A.d_chain ["before", "place"] []
  F_Programu_initu : Fun K "__init__" "Program.__init__" s_Programu_initu A.f_Programu_initu A.d_Programu_initu
  b_Programu_initu : Vc.BindV A.d_Programu_initu ["self", "codes", "values"] "roots"
  F_Programu_containsu : Fun K "__contains__" "Program.__contains__" s_Programu_containsu A.f_Programu_containsu A.d_Programu_containsu
  b_Programu_containsu : Binds K A.d_Programu_containsu ["self", "x"] []
  F_Programu_getitemu : Fun K "__getitem__" "Program.__getitem__" s_Programu_getitemu A.f_Programu_getitemu A.d_Programu_getitemu
  b_Programu_getitemu : Binds K A.d_Programu_getitemu ["self", "at"] []
  F_Programu_lenu : Fun K "__len__" "Program.__len__" s_Programu_lenu A.f_Programu_lenu A.d_Programu_lenu
  b_Programu_lenu : Binds K A.d_Programu_lenu ["self"] []
  F_Program_places : Fun K "places" "Program.places" s_Program_places A.f_Program_places A.d_Program_places
  b_Program_places : Binds K A.d_Program_places ["self"] []
  F_Program_followers : Fun K "followers" "Program.followers" s_Program_followers A.f_Program_followers A.d_Program_followers
  b_Program_followers : Binds K A.d_Program_followers ["self", "place"] []
  F_Program_covers : Fun K "covers" "Program.covers" s_Program_covers A.f_Program_covers A.d_Program_covers
  b_Program_covers : Binds K A.d_Program_covers ["self", "address"] []
  F_Program_way : Fun K "way" "Program.way" s_Program_way A.f_Program_way A.d_Program_way
  b_Program_way : Binds K A.d_Program_way ["self", "place"] []
  g__law_pen : mg "_law_pen" = some (.ref A.f__law_pen)
  F__law_pen : Fun K "_law_pen" "_law_pen" s__law_pen A.f__law_pen A.d__law_pen
  b__law_pen : Binds K A.d__law_pen ["_law_script", "_law_turned"] []
  g__law_draw : mg "_law_draw" = some (.ref A.f__law_draw)
  F__law_draw : Fun K "_law_draw" "_law_draw" s__law_draw A.f__law_draw A.d__law_draw
  b__law_draw : Binds K A.d__law_draw ["_law_pen_here", "_law_many"] []
  g__law_forms : mg "_law_forms" = some (.ref A.f__law_forms)
  F__law_forms : Fun K "_law_forms" "_law_forms" s__law_forms A.f__law_forms A.d__law_forms
  b__law_forms : Binds K A.d__law_forms ["_law_pen_here", "_law_most"] []
  g__law_codeset : mg "_law_codeset" = some (.ref A.f__law_codeset)
  F__law_codeset : Fun K "_law_codeset" "_law_codeset" s__law_codeset A.f__law_codeset A.d__law_codeset
  b__law_codeset : Binds K A.d__law_codeset ["_law_stop", "_law_forms_here"] []
  g__law_byte : mg "_law_byte" = some (.ref A.f__law_byte)
  F__law_byte : Fun K "_law_byte" "_law_byte" s__law_byte A.f__law_byte A.d__law_byte
  b__law_byte : Binds K A.d__law_byte ["_law_pen_here", "_law_stop", "_law_forms_here"] []
  g__law_filled : mg "_law_filled" = some (.ref A.f__law_filled)
  F__law_filled : Fun K "_law_filled" "_law_filled" s__law_filled A.f__law_filled A.d__law_filled
  b__law_filled : Binds K A.d__law_filled ["_law_pen_here", "_law_stop", "_law_forms_here", "_law_room"] []
  g__law_places : mg "_law_places" = some (.ref A.f__law_places)
  F__law_places : Fun K "_law_places" "_law_places" s__law_places A.f__law_places A.d__law_places
  b__law_places : Binds K A.d__law_places ["_law_forms_here", "_law_values_here"] []
  g__law_aimed : mg "_law_aimed" = some (.ref A.f__law_aimed)
  F__law_aimed : Fun K "_law_aimed" "_law_aimed" s__law_aimed A.f__law_aimed A.d__law_aimed
  b__law_aimed : Binds K A.d__law_aimed ["_law_pen_here", "_law_forms_here", "_law_values_here", "_law_places_here", "_law_goals", "_law_loose"] []
  g__law_laid : mg "_law_laid" = some (.ref A.f__law_laid)
  F__law_laid : Fun K "_law_laid" "_law_laid" s__law_laid A.f__law_laid A.d__law_laid
  b__law_laid : Binds K A.d__law_laid ["_law_pen_here", "_law_stop", "_law_forms_here", "_law_size", "_law_loose"] []
  g__law_follow : mg "_law_follow" = some (.ref A.f__law_follow)
  F__law_follow : Fun K "_law_follow" "_law_follow" s__law_follow A.f__law_follow A.d__law_follow
  b__law_follow : Binds K A.d__law_follow ["_law_forms_here", "_law_fetched", "_law_place"] []
  g__law_reach : mg "_law_reach" = some (.ref A.f__law_reach)
  F__law_reach : Fun K "_law_reach" "_law_reach" s__law_reach A.f__law_reach A.d__law_reach
  b__law_reach : Binds K A.d__law_reach ["_law_forms_here", "_law_values_here", "_law_roots_here"] []
  g__law_values : mg "_law_values" = some (.ref A.f__law_values)
  F__law_values : Fun K "_law_values" "_law_values" s__law_values A.f__law_values A.d__law_values
  b__law_values : Binds K A.d__law_values ["_law_pen_here", "_law_stop", "_law_forms_here"] []
  g__law_roots : mg "_law_roots" = some (.ref A.f__law_roots)
  F__law_roots : Fun K "_law_roots" "_law_roots" s__law_roots A.f__law_roots A.d__law_roots
  b__law_roots : Binds K A.d__law_roots ["_law_pen_here", "_law_forms_here", "_law_values_here"] []
  g__law_made : mg "_law_made" = some (.ref A.f__law_made)
  F__law_made : Fun K "_law_made" "_law_made" s__law_made A.f__law_made A.d__law_made
  b__law_made : Binds K A.d__law_made ["_law_coding", "_law_values_here", "_law_roots_here"] []
  g__law_all : mg "_law_all" = some (.ref A.f__law_all)
  F__law_all : Fun K "_law_all" "_law_all" s__law_all A.f__law_all A.d__law_all
  b__law_all : Binds K A.d__law_all ["_law_made_here", "_law_less"] []
  g__law_joined_right : mg "_law_joined_right" = some (.ref A.f__law_joined_right)
  F__law_joined_right : Fun K "_law_joined_right" "_law_joined_right" s__law_joined_right A.f__law_joined_right A.d__law_joined_right
  b__law_joined_right : Binds K A.d__law_joined_right ["_law_coding", "_law_values_here", "_law_one", "_law_other"] []
  g__law_bytes_right : mg "_law_bytes_right" = some (.ref A.f__law_bytes_right)
  F__law_bytes_right : Fun K "_law_bytes_right" "_law_bytes_right" s__law_bytes_right A.f__law_bytes_right A.d__law_bytes_right
  b__law_bytes_right : Binds K A.d__law_bytes_right ["_law_pen_here", "_law_coding", "_law_values_here", "_law_roots_here", "_law_made_here"] []
  g__law_later_right : mg "_law_later_right" = some (.ref A.f__law_later_right)
  F__law_later_right : Fun K "_law_later_right" "_law_later_right" s__law_later_right A.f__law_later_right A.d__law_later_right
  b__law_later_right : Binds K A.d__law_later_right ["_law_pen_here", "_law_coding", "_law_values_here", "_law_roots_here", "_law_made_here"] []
  g__law_ways_right : mg "_law_ways_right" = some (.ref A.f__law_ways_right)
  F__law_ways_right : Fun K "_law_ways_right" "_law_ways_right" s__law_ways_right A.f__law_ways_right A.d__law_ways_right
  b__law_ways_right : Binds K A.d__law_ways_right ["_law_pen_here", "_law_coding", "_law_values_here", "_law_made_here"] []
  g_law : mg "law" = some (.ref A.f_law)
  F_law : Fun K "law" "law" s_law A.f_law A.d_law
  b_law : Binds K A.d_law ["_law_script"] []
  cl_Form : Cls K A.C_Form
  mk_Form : Mk K A.C_Form A.f_Formu_initu
  no_Form_name : NoAttr K A.C_Form "name"
  no_Form_length : NoAttr K A.C_Form "length"
  no_Form_flow : NoAttr K A.C_Form "flow"
  cl_CodeSet : Cls K A.C_CodeSet
  mk_CodeSet : Mk K A.C_CodeSet A.f_CodeSetu_initu
  m_CodeSet_followers : Meth K A.C_CodeSet "followers" A.f_CodeSet_followers
  no_CodeSet_stop : NoAttr K A.C_CodeSet "stop"
  no_CodeSet_order : NoAttr K A.C_CodeSet "order"
  no_CodeSet_table : NoAttr K A.C_CodeSet "table"
  cl_Program : Cls K A.C_Program
  mk_Program : Mk K A.C_Program A.f_Programu_initu
  m_Program_places : Meth K A.C_Program "places" A.f_Program_places
  m_Program_followers : Meth K A.C_Program "followers" A.f_Program_followers
  m_Program_covers : Meth K A.C_Program "covers" A.f_Program_covers
  m_Program_way : Meth K A.C_Program "way" A.f_Program_way
  no_Program_roots : NoAttr K A.C_Program "roots"
  no_Program_laid : NoAttr K A.C_Program "laid"
  no_Program_spots : NoAttr K A.C_Program "spots"
  no_Program_leads : NoAttr K A.C_Program "leads"
  n_len : mg "len" = none
  n_abs : mg "abs" = none
  n_int : mg "int" = none
  n_list : mg "list" = none
  n_range : mg "range" = none
  n_isinstance : mg "isinstance" = none
  n_bool : mg "bool" = none
  n_str : mg "str" = none
  n_tuple : mg "tuple" = none
  n_all : mg "all" = none
  n_set : mg "set" = none
  n_sorted : mg "sorted" = none
  n_ValueError : mg "ValueError" = none
  n_min : mg "min" = none
  n_max : mg "max" = none
  g_LETTERS : ∃ t, mg "LETTERS" = some (.str "abcdefghijklmnopqrstuvwxyz" t)
  g_NotWhole : mg "NotWhole" = some (.ref A.C_NotWhole)
  ox_NotWhole : OexC K A.C_NotWhole
  i_NotWhole : PySem.W.findIn K (.ref A.C_NotWhole) "__init__" = some (some (.ref A.f_NotWholeu_initu))
  ti_NotWhole : PySem.W.typeIn K (.ref A.f_NotWholeu_initu) = some (.type "function")
  no_NotWhole_place : PySem.W.findIn K (.ref A.C_NotWhole) "place" = some none
  xf_NotWhole : XfC K A.C_NotWhole
  ec_NotWhole : ExcC K A.C_NotWhole
  F_NotWholeu_initu : Vc.FunS PySem.Challenge.pw_codestitch_k15_whole_a_program_by_its_ro K mg "__init__" "NotWhole.__init__" s_NotWholeu_initu A.f_NotWholeu_initu A.d_NotWholeu_initu A.C_NotWhole "self"
  b_NotWholeu_initu : Binds K A.d_NotWholeu_initu ["self", "place"] []
  g_BadAddress : mg "BadAddress" = some (.ref A.C_BadAddress)
  ox_BadAddress : OexC K A.C_BadAddress
  i_BadAddress : PySem.W.findIn K (.ref A.C_BadAddress) "__init__" = some (some (.ref A.f_BadAddressu_initu))
  ti_BadAddress : PySem.W.typeIn K (.ref A.f_BadAddressu_initu) = some (.type "function")
  no_BadAddress_at : PySem.W.findIn K (.ref A.C_BadAddress) "at" = some none
  xf_BadAddress : XfC K A.C_BadAddress
  ec_BadAddress : ExcC K A.C_BadAddress
  F_BadAddressu_initu : Vc.FunS PySem.Challenge.pw_codestitch_k15_whole_a_program_by_its_ro K mg "__init__" "BadAddress.__init__" s_BadAddressu_initu A.f_BadAddressu_initu A.d_BadAddressu_initu A.C_BadAddress "self"
  b_BadAddressu_initu : Binds K A.d_BadAddressu_initu ["self", "at"] []
  exm_NotWhole_NotWhole : PySem.W.exmOne K (.ref A.C_NotWhole) (.ref A.C_NotWhole) = some true
  sp_Program_Programu_containsu : Vc.SpM K A.C_Program A.f_Programu_containsu "__contains__"
  sp_Program_Programu_lenu : Vc.SpM K A.C_Program A.f_Programu_lenu "__len__"
  sp_Program_Programu_getitemu : Vc.SpM K A.C_Program A.f_Programu_getitemu "__getitem__"
  spf_Programu_getitemu : PySem.W.fnIn K A.f_Programu_getitemu = true
  co_CodeSet : StX.CallO K A.C_CodeSet A.f_CodeSetu_callu
  cr_Form : ClX.CRead K A.C_Form (.type "type")
  cr_CodeSet : ClX.CRead K A.C_CodeSet (.type "type")
  cv_FLOWS : ClX.CVal K A.C_Form (.type "type") "FLOWS" (.ref A.a_FLOWS) (.ref A.a_FLOWS)
  q_FLOWS : ∀ H, SqT K H A.a_FLOWS [.str "next", .str "jump", .str "test", .str "end"]
  cv_MOST : ∃ u, ClX.CVal K A.C_CodeSet (.type "type") "MOST_FORMS" (.int 16) u
end My
namespace My
open PySem PySem.Spec PyProof.Rows L2
theorem ok_NotWholeu_initu {w : World} {K : PySem.W.Frag} {mg : Str → Option Value} {base : Heap} {A : Ad} (T : Txt K mg A) : FnOk PySem.Challenge.pw_codestitch_k15_whole_a_program_by_its_ro w K mg base CX0 1 A.f_NotWholeu_initu A.d_NotWholeu_initu ["self", "place"] (Vc.spErr1 A.C_NotWhole "place") := by
  refine T.F_NotWholeu_initu.ok sc_NotWholeu_initu T.ox_NotWhole rfl rfl rfl (fun vs H Q E h => ?_) (fun X => pe_str) (fun _ _ _ => rfl) (fun _ _ _ => rfl) (fun _ _ _ => rfl) (fun _ _ _ => rfl) (fun cda cc Ar outer s H vs Q E h => ?_)
  · obtain ⟨_, _, rfl, _⟩ := h
    rfl
  · obtain ⟨a, h1, h2, h3⟩ := Vc.err_ends1 T.ox_NotWhole T.no_NotWhole_place h
    exact ⟨a, h1, h2, _, pss_one (ps_ost (pv 0) (pv 1)), h3⟩
theorem ok_BadAddressu_initu {w : World} {K : PySem.W.Frag} {mg : Str → Option Value} {base : Heap} {A : Ad} (T : Txt K mg A) : FnOk PySem.Challenge.pw_codestitch_k15_whole_a_program_by_its_ro w K mg base CX0 1 A.f_BadAddressu_initu A.d_BadAddressu_initu ["self", "at"] (Vc.spErr1 A.C_BadAddress "at") := by
  refine T.F_BadAddressu_initu.ok sc_BadAddressu_initu T.ox_BadAddress rfl rfl rfl (fun vs H Q E h => ?_) (fun X => pe_str) (fun _ _ _ => rfl) (fun _ _ _ => rfl) (fun _ _ _ => rfl) (fun _ _ _ => rfl) (fun cda cc Ar outer s H vs Q E h => ?_)
  · obtain ⟨_, _, rfl, _⟩ := h
    rfl
  · obtain ⟨a, h1, h2, h3⟩ := Vc.err_ends1 T.ox_BadAddress T.no_BadAddress_at h
    exact ⟨a, h1, h2, _, pss_one (ps_ost (pv 0) (pv 1)), h3⟩
end My
namespace My
open PySem PySem.Spec PyProof.Rows L2
/-! ### data of ints: laid out, equal -/
theorem lay_ints : ∀ ns : List Int, PyData.canLayAll0 (ns.map PyData.int) = true
  | [] => rfl
  | n :: r => by
    rw [List.map_cons, PyData.canLayAll0, lay_ints r]; rfl
theorem dep_ints : ∀ ns : List Int, PyData.depthAll (ns.map PyData.int) = 0
  | [] => rfl
  | n :: r => by
    rw [List.map_cons, PyData.depthAll, dep_ints r]; rfl
theorem shp_list (ns : List Int) : SeqAt.shaped (.list (ns.map PyData.int)) = true := by
  unfold SeqAt.shaped
  rw [PyData.canLay0, lay_ints, PyData.depth, dep_ints]; rfl
theorem shp_tup (ns : List Int) : SeqAt.shaped (.tuple (ns.map PyData.int)) = true := by
  unfold SeqAt.shaped
  rw [PyData.canLay0, lay_ints, PyData.depth, dep_ints]; rfl
theorem eqv_ints : ∀ ns ms : List Int, PyData.eqvAll (ns.map PyData.int) (ms.map PyData.int) = decide (ns = ms)
  | [], [] => rfl
  | [], _ :: _ => rfl
  | _ :: _, [] => rfl
  | n :: r, m :: q => by
    rw [List.map_cons, List.map_cons, PyData.eqvAll, eqv_ints r q, Bool.eq_iff_iff]
    show ((n == m) && decide (r = q)) = true ↔ _
    simp
theorem eqv_lists (ns ms : List Int) : PyData.eqv (.list (ns.map PyData.int)) (.list (ms.map PyData.int)) = decide (ns = ms) := by rw [PyData.eqv]; exact eqv_ints ns ms
theorem eqv_tups (ns ms : List Int) : PyData.eqv (.tuple (ns.map PyData.int)) (.tuple (ms.map PyData.int)) = decide (ns = ms) := by rw [PyData.eqv]; exact eqv_ints ns ms
theorem dp_ints {K : PySem.W.Frag} {H : Hp} : ∀ (ns : List Int), DpAll K H (ns.map V.int) (ns.map PyData.int)
  | [] => .nil
  | n :: r => .cons (.int n) (dp_ints r)
section
variable {K : PySem.W.Frag} {H : Hp} {Q : VK} {p q : Addr} {ns ms : List Int}
/-- two lists of ints compared -/
theorem go_neLs (e1 : SqL K H p (ns.map V.int)) (e2 : SqL K H q (ms.map V.int)) (h : Q (.bl (!decide (ns = ms))) H) : rNeD K (.ref p) (.ref q) H Q :=
  ⟨_, _, .lst e1 (dp_ints ns), .lst e2 (dp_ints ms), shp_list _, shp_list _, by rw [eqv_lists]; exact h⟩
theorem go_eqLs (e1 : SqL K H p (ns.map V.int)) (e2 : SqL K H q (ms.map V.int)) (h : Q (.bl (decide (ns = ms))) H) : rEqD K (.ref p) (.ref q) H Q :=
  ⟨_, _, .lst e1 (dp_ints ns), .lst e2 (dp_ints ms), shp_list _, shp_list _, by rw [eqv_lists]; exact h⟩
end

/-! ### flat values as data -/
def vD : V → PyData
  | .bl b => .bool b
  | .int i => .int i
  | .str z => .str z
  | _ => .none
def isAt : V → Bool
  | .non => true
  | .bl _ => true
  | .int _ => true
  | .str _ => true
  | _ => false
theorem dp_at {K : PySem.W.Frag} {H : Hp} : ∀ {x : V}, isAt x = true → Dp K H x (vD x)
  | .non, _ => .non
  | .bl b, _ => .bl b
  | .int i, _ => .int i
  | .str z, _ => .str z
theorem dp_ats {K : PySem.W.Frag} {H : Hp} : ∀ {xs : List V}, xs.all isAt = true → DpAll K H xs (xs.map vD)
  | [], _ => .nil
  | x :: r, h => by
    rw [List.all_cons, Bool.and_eq_true] at h
    exact .cons (dp_at h.1) (dp_ats h.2)

end My
namespace My
open PySem PySem.Spec PyProof.Rows L2
/-! ### the pen: what a script's draws come from -/
structure PenS (H : Hp) (b c : Addr) (ns : List Int) (a r : Int) : Prop where
  ob : H b = some (.lst [.ref c, .int a, .int r])
  cl : H c = some (.lst (ns.map V.int))
  len : ns.length ≤ 63
  a0 : 0 ≤ a
  r0 : 0 ≤ r
/-- at most n cells were drawn -/
def Pen (H : Hp) (b c : Addr) (n : Nat) : Prop := ∃ ns a r, PenS H b c ns a r ∧ a ≤ n
theorem Pen.ed {H H' : Hp} {b c : Addr} {n : Nat} {S : List Addr} (h : Pen H b c n) (e : Vc.Ed S H H') (hb : b ∉ S) (hc : c ∉ S) : Pen H' b c n := by
  obtain ⟨ns, a, r, B, l⟩ := h
  exact ⟨ns, a, r, ⟨e.keep _ _ hb B.ob, e.keep _ _ hc B.cl, B.len, B.a0, B.r0⟩, l⟩
theorem Pen.ed0 {H H' : Hp} {b c : Addr} {n : Nat} (e : Vc.Ed [] H H') (h : Pen H b c n) : Pen H' b c n := h.ed e (fun z => nomatch z) (fun z => nomatch z)
theorem Pen.ed1 {H H' : Hp} {b c p : Addr} {n : Nat} (e : Vc.Ed [p] H H') (hb : b ≠ p) (hc : c ≠ p) (h : Pen H b c n) : Pen H' b c n :=
  h.ed e (fun z => hb (List.mem_singleton.mp z)) (fun z => hc (List.mem_singleton.mp z))
theorem Pen.up {H : Hp} {b c : Addr} {n m : Nat} (h : Pen H b c n) (l : n ≤ m) : Pen H b c m := by
  obtain ⟨ns, a, r, B, l'⟩ := h
  exact ⟨ns, a, r, B, by omega⟩
theorem Pen.fb {H : Hp} {b c p : Addr} {n : Nat} (h : Pen H b c n) (q : H p = none) : b ≠ p ∧ c ≠ p := by
  obtain ⟨ns, a, r, B, _⟩ := h
  exact ⟨ne_of_none B.ob q, ne_of_none B.cl q⟩
theorem Pen.lst {H : Hp} {b c : Addr} {n : Nat} (h : Pen H b c n) : ∃ x a r, H b = some (.lst [.ref x, .int a, .int r]) := by
  obtain ⟨ns, a, r, B, _⟩ := h
  exact ⟨_, _, _, B.ob⟩
def LIM : Nat := 1000000
def spDraw : Sp := fun vs H Q _ => ∃ (b c : Addr) (n : Nat) (m : Int), vs = [.ref b, .int m] ∧ Pen H b c n ∧ n ≤ LIM ∧ 1 ≤ m ∧ m < 2 ^ 190 ∧
  ∀ i H', 0 ≤ i → i < m → Vc.Ed [b] H H' → Pen H' b c (n + 1) → Q (.int i) H'
theorem pen_ns {ns : List Int} {a : Int} (h : ns ≠ []) (h0 : 0 ≤ a) : ∃ x, atI (ns.map V.int) (a % (ns.length : Int)) = some (.int x) := by
  have l : 0 < ns.length := List.length_pos_iff.mpr h
  have e0 := Int.emod_nonneg a (show (ns.length : Int) ≠ 0 by omega)
  have e1 := Int.emod_lt_of_pos a (show (0 : Int) < ns.length by omega)
  refine ⟨ns[(a % (ns.length : Int)).toNat]'(by omega), at_of (j := (a % (ns.length : Int)).toNat) (by omega) ?_⟩
  rw [List.getElem?_map, List.getElem?_eq_getElem (by omega)]; rfl
section
variable {P : Program} {w : World} {K : PySem.W.Frag} {mg : Str → Option Value} {base : Heap} {A : Ad}
theorem ok__law_draw (T : Txt K mg A) : FnOk P w K mg base CX0 1 A.f__law_draw A.d__law_draw ["_law_pen_here", "_law_many"] spDraw := by
  refine T.F__law_draw.ok sc__law_draw (fun vs H Q E h => ?_) (fun cdv Ar outer s H vs Q E hr h => ?_)
  · obtain ⟨b, c, n, m, rfl, _⟩ := h
    rfl
  · obtain ⟨b, c, n, m, rfl, hB, nl, m1, m2, k⟩ := h
    have nl : n ≤ 1000000 := nl
    refine ⟨_, (pss_cons (ps_if (pt_cmpR op_gt (pe_ix ix_list (pv 0) pe_int (fun _ _ => rfl)) pe_int (nomark _)) (pss_cons (ps_set (i := 2) sc__law_draw.nd rfl (Or.inl rfl) (pe_op op_mod (pe_callTy call_int1 (by rfl) T.n_int (by decide +kernel) (pa_cons (pe_ix ix_list (pv 0) pe_int (fun _ _ => rfl)) pa_nil)) (pv 1))) (pss_cons (ps_asg (pe_op op_fdivW (pe_ix ix_list (pv 0) pe_int (fun _ _ => rfl)) (pv 1)) (pg_sub (pv 0) pe_int set_list)) (pss_one (ps_ret (pv 2))))) pss_nil) (pss_cons (ps_set (i := 3) sc__law_draw.nd rfl (Or.inl rfl) (pe_ix ix_list (pv 0) pe_int (fun _ _ => rfl))) (pss_cons (ps_asg (pe_op op_add (pv 3) pe_int) (pg_sub (pv 0) pe_int set_list)) (pss_cons (ps_set (i := 4) sc__law_draw.nd rfl (Or.inl rfl) (pe_op op_add (pe_op op_mulW pe_int (pv 3)) pe_int)) (Evl.pss_cut (ps_if (pt_cmpR (op_neD (by exact hr.units)) (pe_ix ix_list (pv 0) pe_int (fun _ _ => rfl)) (pe_lst pa_nil) (nomark _)) (pss_one (ps_set (i := 4) sc__law_draw.nd rfl (Or.inl rfl) (pe_ix ix_list (pe_ix ix_list (pv 0) pe_int (fun _ _ => rfl)) (pe_op op_mod (pe_callTy call_int1 (by rfl) T.n_int (by decide +kernel) (pa_cons (pv 3) pa_nil)) (pe_callB call_len_seq (by rfl) T.n_len (by decide +kernel) (pa_cons (pe_ix ix_list (pv 0) pe_int (fun _ _ => rfl)) pa_nil))) (fun _ _ => rfl)))) pss_nil) (pss_cons (ps_if (PW.pt (pw_and (pt_cmpR op_ge (pe_callB call_abs (by rfl) T.n_abs (by decide +kernel) (pa_cons (pv 4) pa_nil)) (pe_op op_pow pe_int pe_int) (nomark _)) (pw_and1 (pt_cmpR op_lt (pv 3) (pe_callB call_len_seq (by rfl) T.n_len (by decide +kernel) (pa_cons (pe_ix ix_list (pv 0) pe_int (fun _ _ => rfl)) pa_nil)) (nomark _))))) (pss_cons (ps_asg (pe_op op_fdivW (pe_callB call_abs (by rfl) T.n_abs (by decide +kernel) (pa_cons (pv 4) pa_nil)) (pv 1)) (pg_sub (pv 0) pe_int set_list)) (pss_one (ps_ret (pe_op op_mod (pe_callTy call_int1 (by rfl) T.n_int (by decide +kernel) (pa_cons (pe_callB call_abs (by rfl) T.n_abs (by decide +kernel) (pa_cons (pv 4) pa_nil)) pa_nil)) (pv 1))))) pss_nil) (pss_cons (ps_set (i := 5) sc__law_draw.nd rfl (Or.inl rfl) (pe_op op_mod (pe_callTy call_int1 (by rfl) T.n_int (by decide +kernel) (pa_cons (pe_op op_pow (pe_op op_add (pe_op op_add (pe_op op_mod (pe_callTy call_int1 (by rfl) T.n_int (by decide +kernel) (pa_cons (pv 4) pa_nil)) pe_int) (pe_op op_mulW pe_int (pv 3))) pe_int) pe_int) pa_nil)) pe_int)) (pss_cons (ps_set (i := 5) sc__law_draw.nd rfl (Or.inl rfl) (pe_op op_mod (pe_callTy call_int1 (by rfl) T.n_int (by decide +kernel) (pa_cons (pe_op op_pow (pe_op op_add (pe_op op_add (pv 5) (pe_op op_mulW (pe_op op_mulW pe_int (pv 3)) (pv 3))) pe_int) pe_int) pa_nil)) pe_int)) (pss_one (ps_ret (pe_op op_mod (pe_op op_fdivW (pe_op op_mod (pe_callTy call_int1 (by rfl) T.n_int (by decide +kernel) (pa_cons (pe_op op_add (pe_op op_mulW (pv 5) (pe_op op_add (pe_op op_mulW pe_int (pv 3)) pe_int)) pe_int) pa_nil)) pe_int) pe_int) (pv 1)))))))))))), ?_⟩
    obtain ⟨ns, a, r, B, al⟩ := hB
    obtain ⟨hb, hc, hl, ha, hr0⟩ := id B
    have nbc : b ≠ c := fun z => by rw [z, hc] at hb; cases ns with
      | nil => cases hb
      | cons x l => cases hb
    have i0 : atI [V.ref c, .int a, .int r] 0 = some (.ref c) := rfl
    have i1 : atI [V.ref c, .int a, .int r] 1 = some (.int a) := rfl
    have i2 : atI [V.ref c, .int a, .int r] 2 = some (.int r) := rfl
    walk_at "go"
    refine Vc.go_ite (fun h1 => ?_) (fun h1 => ?_)
    · walk_at "go"
      refine Vc.go_setL hb rfl ?_
      generalize hu : upd _ b _ = H1
      obtain ⟨e1, hb1⟩ := Vc.chg hu hb
      walk_at "go"
      exact k _ _ (Int.emod_nonneg _ (by omega)) (Int.emod_lt_of_pos _ (by omega)) e1 ⟨ns, a, _, ⟨hb1, e1.at1 nbc.symm hc, hl, ha, Int.ediv_nonneg hr0 (by omega)⟩, by omega⟩
    walk_at "go"
    refine Vc.go_setL hb rfl ?_
    generalize hu : upd _ b _ = H1
    obtain ⟨e1, hb1⟩ := Vc.chg hu hb
    have hb1 : H1 b = some (.lst [.ref c, .int (a + 1), .int r]) := hb1
    have hc1 := e1.at1 nbc.symm hc
    have j0 : atI [V.ref c, .int (a + 1), .int r] 0 = some (.ref c) := rfl
    have j1 : atI [V.ref c, .int (a + 1), .int r] 1 = some (.int (a + 1)) := rfl
    have fin : ∀ (i : Int) H', 0 ≤ i → i < m → Vc.Ed [] H1 H' → Q (.int i) H' := fun i H' i0 i1 e => k i H' i0 i1 (e1.ex e) ⟨ns, a + 1, r, ⟨e.at0 hb1, e.at0 hc1, hl, by omega, hr0⟩, by omega⟩
    walk_at "go"
    refine Evl.q_cut (M := fun σ H' => ∃ cell : Int, σ = [some (.ref b), some (.int m), none, some (.int a), some (.int cell), none] ∧ Vc.Ed [] H1 H') ?_ ?_
    · walk_at "go"
      intro q nq
      generalize hu2 : upd _ q _ = H2
      obtain ⟨e2, hq⟩ := Vc.alloc hu2 nq
      have hb2 := e2.at0 hb1
      have hc2 := e2.at0 hc1
      refine go_neLs (ms := []) (.of hc2) (.of hq) ?_
      walk_at "go"
      refine Vc.go_iten (fun h2 => ?_) (fun h2 => ?_)
      · have hlp : 0 < ns.length := List.length_pos_iff.mpr h2
        obtain ⟨x, hx⟩ := pen_ns (a := a) h2 ha
        walk_at "go"
        rw [List.length_map]
        walk_at "go"
        exact ⟨_, rfl, e2⟩
      · walk_at "go"
        exact ⟨_, rfl, e2⟩
    · rintro σ H2 ⟨cell, rfl, e2⟩
      have hb2 := e2.at0 hb1
      have hc2 := e2.at0 hc1
      walk_at "go"
      generalize hce : (if cell < 0 then -cell else cell) = cl
      have hc0 : 0 ≤ cl := by rw [← hce]; split <;> omega
      walk_at "go"
      have sq : 70001 * a * a ≤ 70001 * 1000000 * 1000000 := by
        have h1 : 70001 * a ≤ 70001 * 1000000 := by omega
        exact Int.mul_le_mul h1 (by omega) ha (by omega)
      have sq0 : 0 ≤ 70001 * a * a := Int.mul_nonneg (by omega) ha
      refine Vc.go_ite (fun h3 => ?_) (fun h3 => ?_)
      · walk_at "go"
        rw [List.length_map]
        refine Vc.go_ite (fun h4 => ?_) (fun h4 => ?_)
        · walk_at "go"
          refine Vc.go_setL hb2 rfl ?_
          generalize hu3 : upd _ b _ = H3
          obtain ⟨e3, hb3⟩ := Vc.chg hu3 hb2
          rw [hce] at hb3
          have hb3 : H3 b = some (.lst [.ref c, .int (a + 1), .int (cl / m)]) := hb3
          walk_at "go"
          exact k _ _ (Int.emod_nonneg _ (by omega)) (Int.emod_lt_of_pos _ (by omega)) ((e1.ex e2).one e3 (.inl (by simp))) ⟨ns, a + 1, _, ⟨hb3, e3.at1 nbc.symm hc2, hl, by omega, Int.ediv_nonneg hc0 (by omega)⟩, by omega⟩
        · walk_at "go"
          exact fin _ _ (Int.emod_nonneg _ (by omega)) (Int.emod_lt_of_pos _ (by omega)) e2
      · walk_at "go"
        exact fin _ _ (Int.emod_nonneg _ (by omega)) (Int.emod_lt_of_pos _ (by omega)) e2
end
section
variable {P : Program} {w : World} {K : PySem.W.Frag} {mg : Str → Option Value} {base : Heap} {A : Ad}
def spPen (K : PySem.W.Frag) : Sp := fun vs H Q _ => ∃ (p : Addr) (t : Bool) (ns : List Int), vs = [.ref p, .bl t] ∧ SqL K H p (ns.map V.int) ∧ ns.length ≤ 63 ∧
  ∀ b c H', Vc.Ed [] H H' → Pen H' b c 7 → H b = none → H c = none → Q (.ref b) H'
theorem cut_ns {ns : List Int} (h : ns.length ≤ 63) : cutV (ns.map V.int) none (some 63) = ns.map V.int := by
  have e := Vc.cut_take (ns.map V.int) 63
  rw [List.take_of_length_le (by rw [List.length_map]; exact h)] at e
  exact e
theorem ok__law_pen (T : Txt K mg A) : FnOk P w K mg base CX0 1 A.f__law_pen A.d__law_pen ["_law_script", "_law_turned"] (spPen K) := by
  refine T.F__law_pen.ok sc__law_pen (fun vs H Q E h => ?_) (fun cdv Ar outer s H vs Q E hr h => ?_)
  · obtain ⟨p, t, ns, rfl, _⟩ := h
    rfl
  · obtain ⟨p, t, ns, rfl, hS, hl, k⟩ := h
    refine ⟨_, (pss_cons (ps_set (i := 2) sc__law_pen.nd rfl (Or.inl rfl) (pe_callTy Vc.call_lstD (by rfl) T.n_list (by decide +kernel) (pa_cons (pe_slice sl_list (pv 0) po_none (po_some pe_int)) pa_nil))) (pss_cons (ps_if (pt_val (pv 1)) (pss_one (ps_set (i := 2) sc__law_pen.nd rfl (Or.inl rfl) (pe_revL (pv 2)))) pss_nil) (pss_one (ps_ret (pe_lst (pa_cons (pv 2) (pa_cons (pe_op op_mulW pe_int (pe_callTy call_int1 (by rfl) T.n_int (by decide +kernel) (pa_cons (pv 1) pa_nil))) (pa_cons pe_int pa_nil)))))))), ?_⟩
    walk_at "go"
    intro q nq
    generalize hu1 : upd _ q _ = H1
    obtain ⟨e1, hq⟩ := Vc.alloc hu1 nq
    walk_at "go"
    intro c nc
    generalize hu2 : upd _ c _ = H2
    obtain ⟨e2, hc⟩ := Vc.alloc hu2 nc
    rw [cut_ns hl] at hc
    cases t with
    | false =>
      walk_at "go"
      intro b nb
      generalize hu3 : upd _ b _ = H3
      obtain ⟨e3, hb⟩ := Vc.alloc hu3 nb
      exact k b c H3 (by walk_at "ed") ⟨ns, 0, 0, ⟨hb, e3.at0 hc, hl, by omega, by omega⟩, by omega⟩ (by walk_at "free") (by walk_at "free")
    | true =>
      walk_at "go"
      intro d nd
      generalize hu3 : upd _ d _ = H3
      obtain ⟨e3, hd⟩ := Vc.alloc hu3 nd
      rw [← List.map_reverse] at hd
      walk_at "go"
      intro b nb
      generalize hu4 : upd _ b _ = H4
      obtain ⟨e4, hb⟩ := Vc.alloc hu4 nb
      exact k b d H4 (by walk_at "ed") ⟨ns.reverse, 7, 0, ⟨hb, e4.at0 hd, by rw [List.length_reverse]; exact hl, by omega, by omega⟩, by omega⟩ (by walk_at "free") (by walk_at "free")
end

end My
namespace My
open PySem PySem.Spec PyProof.Rows L2
/-! ### bytes, names, forms, code sets -/
def LET : List Nat := [97, 98, 99, 100, 101, 102, 103, 104, 105, 106, 107, 108, 109, 110, 111, 112, 113, 114, 115, 116, 117, 118, 119, 120, 121, 122]
theorem letters_eq : ("abcdefghijklmnopqrstuvwxyz" : Str).cps.toList = LET := by decide +kernel
def spIsByte : Sp := fun vs H Q _ => ∃ n : Int, vs = [.int n] ∧ ∀ H', Vc.Ed [] H H' → Q (.bl (decide (0 ≤ n ∧ n ≤ 255))) H'
def spIsName : Sp := fun vs H Q _ => ∃ z : Str, vs = [.str z] ∧ 1 ≤ z.length ∧ z.length ≤ 8 ∧ (∀ c ∈ z.cps.toList, c ∈ LET) ∧ ∀ H', Vc.Ed [] H H' → Q (.bl true) H'
section
variable {P : Program} {w : World} {K : PySem.W.Frag} {mg : Str → Option Value} {base : Heap} {A : Ad}
theorem ok_is_byte (T : Txt K mg A) : FnOk P w K mg base CX0 1 A.f_is_byte A.d_is_byte ["value"] spIsByte := by
  refine T.F_is_byte.ok sc_is_byte (fun vs H Q E h => ?_) (fun cdv Ar outer s H vs Q E hr h => ?_)
  · obtain ⟨n, rfl, _⟩ := h
    rfl
  · obtain ⟨n, rfl, k⟩ := h
    refine ⟨_, (pss_one (ps_ret (pe_and (pe_callB call_isi (by rfl) T.n_isinstance (by decide +kernel) (pa_cons (pv 0) (pa_cons (pe_bltn (v := .ty "int") (by rfl) T.n_int (by decide +kernel) rfl) pa_nil))) (pe_and (pe_not (pe_callB call_isi (by rfl) T.n_isinstance (by decide +kernel) (pa_cons (pv 0) (pa_cons (pe_bltn (v := .ty "bool") (by rfl) T.n_bool (by decide +kernel) rfl) pa_nil)))) (pe_one (pe_chain op_le op_le pe_int (pv 0) pe_int)))))), ?_⟩
    walk_at "go"
    refine Vc.go_ite (fun h1 => ?_) (fun h1 => ?_)
    · walk_at "go"
      have e : decide (0 ≤ n ∧ n ≤ 255) = decide (n ≤ 255) := by rw [Bool.eq_iff_iff]; simp [h1]
      have := k H Vc.Ed.refl
      rw [e] at this
      exact this
    · have e : decide (0 ≤ n ∧ n ≤ 255) = false := decide_eq_false (by omega)
      have := k H Vc.Ed.refl
      rw [e] at this
      exact this
theorem ok_is_name (T : Txt K mg A) : FnOk P w K mg base CX0 1 A.f_is_name A.d_is_name ["value"] spIsName := by
  refine T.F_is_name.ok sc_is_name (fun vs H Q E h => ?_) (fun cdv Ar outer s H vs Q E hr h => ?_)
  · obtain ⟨n, rfl, _⟩ := h
    rfl
  · obtain ⟨z, rfl, z1, z2, zl, k⟩ := h
    obtain ⟨_, gc_LETTERS⟩ := T.g_LETTERS
    have lz : z.length ≤ 1000 := by omega
    refine ⟨_, (pss_one (ps_ret (pe_and (pe_callB call_isi (by rfl) T.n_isinstance (by decide +kernel) (pa_cons (pv 0) (pa_cons (pe_bltn (v := .ty "str") (by rfl) T.n_str (by decide +kernel) rfl) pa_nil))) (pe_and (pe_chain op_le op_le pe_int (pe_callB call_len_str (by rfl) T.n_len (by decide +kernel) (pa_cons (pv 0) pa_nil)) pe_int) (pe_one (pe_callB (cr_all rfl) (by rfl) T.n_all (by decide +kernel) (pa_cons (pe_lc (own := [("sign", 1)]) (g := gName 1) rfl sc_is_name.nd (pi_str (pv 0)) (blkOk_by (own := [("sign", 1)]) (N := ["value", "sign"]) (sc := defScope s_is_name) (by decide +kernel)) (fun _ _ _ _ _ => by exact (pg_name (i := 1) sc_is_name.nd rfl (Or.inl rfl))) (fun _ _ _ _ _ => by exact pts_nil) (fun _ _ _ _ _ => by (refine' Vc.blkE ?h ?q; (case h => exact (pe_cmpR op_in_sign (pv 1) (pe_glob (v := .str "abcdefghijklmnopqrstuvwxyz") (by rfl) gc_LETTERS ⟨_, rfl⟩) rfl)); (case q => first | exact rfl | (dsimp only; done) | (dsimp only; exact rfl))))) pa_nil))))))), ?_⟩
    walk_at "goo"
    refine Vc.lc_by walk_str (fun L i H' => Vc.Ed [] H H' ∧ H' L = some (.lst (List.replicate i (.bl true)))) (fun L H2 nL e hL => ⟨e, hL⟩) (fun _ _ _ _ _ _ => trivial) ?_ ?_
    · rintro L i x H1 H' nL hi ⟨e1, hL⟩ ⟨rfl, c, hc, rfl⟩
      have hcl : c ∈ z.cps.toList := by
        rw [Array.mem_toList_iff]
        exact Array.mem_of_getElem? hc
      walk_at "go"
      refine ⟨rfl, ?_⟩
      walk_at "go"
      refine ⟨_, hL, by rw [List.length_replicate]; exact small1000 (by have : z.cps.size = z.length := rfl; omega), ?_⟩
      rw [letters_eq, decide_eq_true (zl c hcl)]
      generalize hu : upd _ L _ = H2
      obtain ⟨e2, hL2⟩ := Vc.chg hu hL
      refine ⟨by walk_at "ed", ?_⟩
      rw [hL2, List.replicate_succ']
    · rintro L H' nL ⟨e1, hL⟩
      walk_at "go"
      refine ⟨L, List.replicate z.cps.size true, rfl, ?_, ?_⟩
      · rw [List.map_replicate]
        exact SqL.of hL
      · have : (List.replicate z.cps.size true).all id = true := by simp
        rw [this]
        exact k _ e1
end
theorem nodup_inl {l : List Int} (h : l.Nodup) : (l.map (fun b => (Sum.inl b : Key))).Nodup := by
  induction l with
  | nil => exact List.nodup_nil
  | cons a r ih =>
    rw [List.nodup_cons] at h
    rw [List.map_cons, List.nodup_cons]
    refine ⟨fun z => ?_, ih h.2⟩
    obtain ⟨b, hb, e⟩ := List.mem_map.mp z
    cases e
    exact h.1 hb
/-! ### a form -/
structure FD where
  byte : Int
  name : Str
  len : Int
  flow : Str
def Flow (x : Str) : Prop := x = "next" ∨ x = "jump" ∨ x = "test" ∨ x = "end"
structure FD.Ok (f : FD) : Prop where
  n1 : 1 ≤ f.name.length
  n8 : f.name.length ≤ 8
  nl : ∀ c ∈ f.name.cps.toList, c ∈ LET
  l1 : 1 ≤ f.len
  l4 : f.len ≤ 4
  fl : Flow f.flow
  two : f.flow = "jump" ∨ f.flow = "test" → 2 ≤ f.len
def formF (n : Str) (l : Int) (f : Str) : List (Str × V) := [("name", .str n), ("length", .int l), ("flow", .str f)]
def FormAt (A : Ad) (H : Hp) (p : Addr) (f : FD) : Prop := ∃ dx, H p = some (.ins A.C_Form dx (formF f.name f.len f.flow))
theorem form_name {n l f} : (formF n l f).lookup ("name" : Str) = some (.str n) := rfl
theorem form_length {n l f} : (formF n l f).lookup ("length" : Str) = some (.int l) := rfl
theorem form_flow {n l f} : (formF n l f).lookup ("flow" : Str) = some (.str f) := rfl
theorem form_put {n l f} : putF "flow" (.str f) (putF "length" (.int l) (putF "name" (.str n) [])) = formF n l f := rfl
theorem inV2 (x a b : Str) : inV (.str x) [.str a, .str b] = decide (x = a ∨ x = b) := by
  rw [Bool.eq_iff_iff, decide_eq_true_eq]
  show (List.any [V.str a, V.str b] fun y => eqV y (V.str x)) = true ↔ _
  simp only [List.any_cons, List.any_nil, Bool.or_false, Bool.or_eq_true, eqV, beq_iff_eq]
  constructor
  · rintro (e | e)
    · exact .inl e.symm
    · exact .inr e.symm
  · rintro (e | e)
    · exact .inl e.symm
    · exact .inr e.symm
def spForm (A : Ad) : Sp := fun vs H Q _ => ∃ (p dx : Addr) (f : FD), vs = [.ref p, .str f.name, .int f.len, .str f.flow] ∧ f.Ok ∧ H p = some (.ins A.C_Form dx []) ∧
  ∀ H', Vc.Ed [p] H H' → FormAt A H' p f → Q .non H'
section
variable {P : Program} {w : World} {K : PySem.W.Frag} {mg : Str → Option Value} {base : Heap} {A : Ad}
theorem ok_Formu_initu (T : Txt K mg A) : FnOk P w K mg base CX0 2 A.f_Formu_initu A.d_Formu_initu ["self", "name", "length", "flow"] (spForm A) := by
  have G_is_name := ok_is_name (P := P) (w := w) (base := base) T
  refine T.F_Formu_initu.ok sc_Formu_initu (fun vs H Q E h => ?_) (fun cdv Ar outer s H vs Q E hr h => ?_)
  · obtain ⟨p, dx, f, rfl, _⟩ := h
    rfl
  · obtain ⟨p, dx, f, rfl, ok, hp, k⟩ := h
    have cr := T.cr_Form
    have cv := T.cv_FLOWS
    have cl := T.cl_Form
    have no1 := T.no_Form_name
    have no2 := T.no_Form_length
    have no3 := T.no_Form_flow
    refine ⟨_, (pss_cons (ps_if (pt_not (pt_val (pe_call G_is_name (by exact hr.mono (by decide)) (by rfl) T.g_is_name T.F_is_name.kp T.b_is_name .nil pass0 (pa_cons (pv 1) pa_nil)))) (pss_one ps_never) pss_nil) (pss_cons (ps_set (i := 4) sc_Formu_initu.nd rfl (Or.inl rfl) (pe_op op_add pe_int (pe_callTy call_int1 (by rfl) T.n_int (by decide +kernel) (pa_cons (pe_cmpR op_in_seq (pv 3) (pe_tup (pa_cons pe_str (pa_cons pe_str pa_nil))) (by rfl)) pa_nil)))) (pss_cons (ps_if (PW.pt (pw_or (pt_not (pt_val (pe_callB call_isi (by rfl) T.n_isinstance (by decide +kernel) (pa_cons (pv 2) (pa_cons (pe_bltn (v := .ty "int") (by rfl) T.n_int (by decide +kernel) rfl) pa_nil))))) (pw_or (pt_val (pe_callB call_isi (by rfl) T.n_isinstance (by decide +kernel) (pa_cons (pv 2) (pa_cons (pe_bltn (v := .ty "bool") (by rfl) T.n_bool (by decide +kernel) rfl) pa_nil)))) (pw_or (pt_cmpR op_lt (pv 2) (pv 4) (nomark _)) (pw_or1 (pt_cmpR op_gt (pv 2) pe_int (nomark _))))))) (pss_one ps_never) pss_nil) (pss_cons (ps_if (pt_cmpR op_notIn_seq (pv 3) (ClX.pe_cval (pe_glob (v := .ref A.C_Form) (by rfl) T.g_Form rfl)) (by rfl)) (pss_one ps_never) pss_nil) (pss_cons (ps_fld (pv 0) (pv 1) rfl) (pss_cons (ps_fld (pv 0) (pv 2) rfl) (pss_one (ps_fld (pv 0) (pv 3) rfl)))))))), ?_⟩
    have qF := T.q_FLOWS
    walk_at "go"
    refine ⟨f.name, rfl, ok.n1, ok.n8, ok.nl, fun H1 e1 => ?_⟩
    walk_at "go"
    intro t nt
    generalize hu : upd _ t _ = H2
    obtain ⟨e2, ht⟩ := Vc.alloc hu nt
    walk_at "go"
    have hb : inV (.str f.flow) [.str "jump", .str "test"] = decide (f.flow = "jump" ∨ f.flow = "test") := inV2 _ _ _
    rw [hb]
    have lb : 1 + (if decide (f.flow = "jump" ∨ f.flow = "test") = true then (1 : Int) else 0) ≤ f.len := by
      split
      · next h => have := ok.two (of_decide_eq_true h); omega
      · have := ok.l1; omega
    generalize 1 + (if decide (f.flow = "jump" ∨ f.flow = "test") = true then (1 : Int) else 0) = m at lb
    have l4 := ok.l4
    walk_at "goo"
    have hf : inV (.str f.flow) [.str "next", .str "jump", .str "test", .str "end"] = true := by
      rcases ok.fl with e | e | e | e <;> rw [e] <;> decide
    rw [hf]
    walk_at "go"
    generalize hu3 : upd _ p _ = H3
    obtain ⟨e3, h3⟩ := Vc.chg hu3 (show H2 p = some (.ins A.C_Form dx []) by walk_at "hs")
    walk_at "go"
    generalize hu4 : upd _ p _ = H4
    obtain ⟨e4, h4⟩ := Vc.chg hu4 h3
    walk_at "go"
    generalize hu5 : upd _ p _ = H5
    obtain ⟨e5, h5⟩ := Vc.chg hu5 h4
    rw [form_put] at h5
    exact k H5 (by walk_at "ed") ⟨dx, h5⟩
end
/-! ### a code set -/
structure Valid (stop : Int) (fs : List FD) : Prop where
  n1 : 1 ≤ fs.length
  n16 : fs.length ≤ 16
  ok : ∀ f ∈ fs, f.Ok
  byt : ∀ f ∈ fs, 0 ≤ f.byte ∧ f.byte ≤ 255 ∧ f.byte ≠ stop
  ndb : (fs.map (·.byte)).Nodup
  ndn : (fs.map (·.name)).Nodup
  s0 : 0 ≤ stop
  s1 : stop ≤ 255
def kvsOf (items : List (FD × Addr)) : List (Key × V) := items.map fun p => (.inl p.1.byte, .ref p.2)
theorem kvsOf_len (items : List (FD × Addr)) : (kvsOf items).length = items.length := List.length_map _
theorem kvsOf_get {items : List (FD × Addr)} {i : Nat} {k : Key} {v : V} (h : (kvsOf items)[i]? = some (k, v)) : ∃ p, items[i]? = some p ∧ k = .inl p.1.byte ∧ v = .ref p.2 := by
  unfold kvsOf at h
  rw [List.getElem?_map] at h
  cases e : items[i]? with
  | none => rw [e] at h; cases h
  | some p => rw [e] at h; cases h; exact ⟨p, rfl, rfl, rfl⟩
/-- what a dict of different first bytes holds at one of them -/
theorem valV_mem {κ : Type} [DecidableEq κ] : ∀ {kvs : List (κ × V)} {k : κ} {v : V}, (kvs.map (·.1)).Nodup → (k, v) ∈ kvs → valV kvs k = some v
  | [], _, _, _, h => by cases h
  | (k', v') :: r, k, v, nd, h => by
    rw [List.map_cons, List.nodup_cons] at nd
    unfold valV
    rw [List.find?_cons]
    rcases List.mem_cons.mp h with e | h
    · cases e
      simp
    · have ne : k' ≠ k := fun e => nd.1 (by rw [e]; exact List.mem_map.mpr ⟨(k, v), h, rfl⟩)
      rw [decide_eq_false ne]
      exact valV_mem nd.2 h
theorem kvsOf_nd {items : List (FD × Addr)} (h : ((items.map (·.1)).map (·.byte)).Nodup) : ((kvsOf items).map (·.1)).Nodup := by
  have e : (kvsOf items).map (·.1) = ((items.map (·.1)).map (·.byte)).map (fun b => (Sum.inl b : Key)) := by
    unfold kvsOf
    simp [List.map_map, Function.comp_def]
  rw [e]
  exact nodup_inl h
theorem kvsOf_val {items : List (FD × Addr)} {p : FD × Addr} (h : ((items.map (·.1)).map (·.byte)).Nodup) (hp : p ∈ items) : valV (kvsOf items) (.inl p.1.byte) = some (.ref p.2) :=
  valV_mem (kvsOf_nd h) (List.mem_map.mpr ⟨p, hp, rfl⟩)
structure MadeAt (A : Ad) (H : Hp) (d : Addr) (items : List (FD × Addr)) : Prop where
  ob : H d = some (.dK (kvsOf items))
  fm : ∀ p ∈ items, FormAt A H p.2 p.1
theorem FormAt.ed {A : Ad} {H H' : Hp} {p : Addr} {f : FD} {S : List Addr} (h : FormAt A H p f) (e : Vc.Ed S H H') (n : p ∉ S) : FormAt A H' p f := by
  obtain ⟨dx, h⟩ := h
  exact ⟨dx, e.keep _ _ n h⟩
theorem FormAt.ed1 {A : Ad} {H H' : Hp} {p q : Addr} {f : FD} (h : FormAt A H p f) (e : Vc.Ed [q] H H') {o : HO} (hq : H q = some o) (k : ∀ C dx fs, o ≠ .ins C dx fs) : FormAt A H' p f := by
  obtain ⟨dx, h⟩ := h
  exact ⟨dx, e.at1 (ne_of h hq fun z => k _ _ _ z.symm) h⟩
theorem FormAt.ed0 {A : Ad} {H H' : Hp} {p : Addr} {f : FD} (e : Vc.Ed [] H H') (h : FormAt A H p f) : FormAt A H' p f := h.ed e (fun z => nomatch z)
def spCheck (A : Ad) : Sp := fun vs H Q _ => ∃ (d : Addr) (stop : Int) (items : List (FD × Addr)), vs = [.int stop, .ref d] ∧ MadeAt A H d items ∧ Valid stop (items.map (·.1)) ∧ ∀ H', Vc.Ed [] H H' → Q .non H'
section
variable {P : Program} {w : World} {K : PySem.W.Frag} {mg : Str → Option Value} {base : Heap} {A : Ad}
theorem ok_check_forms (T : Txt K mg A) : FnOk P w K mg base CX0 2 A.f_check_forms A.d_check_forms ["stop", "forms"] (spCheck A) := by
  have G_is_byte := ok_is_byte (P := P) (w := w) (base := base) T
  refine T.F_check_forms.ok sc_check_forms (fun vs H Q E h => ?_) (fun cdv Ar outer s H vs Q E hr h => ?_)
  · obtain ⟨d, stop, items, rfl, _⟩ := h
    rfl
  · obtain ⟨d, stop, items, rfl, M, Va, k⟩ := h
    have hu := hu_of hr
    have cr := T.cr_CodeSet
    obtain ⟨uM, cv⟩ := T.cv_MOST
    have cl := T.cl_Form
    have no1 := T.no_Form_name
    have hd := M.ob
    have v1 := Va.n1
    have v16 := Va.n16
    rw [List.length_map] at v1 v16
    have kl := kvsOf_len items
    refine ⟨_, (pss_cons (ps_if (PW.pt (pw_or (pt_cmpR op_lt (pe_callB call_lenD (by rfl) T.n_len (by decide +kernel) (pa_cons (pv 1) pa_nil)) pe_int (nomark _)) (pw_or1 (pt_cmpR op_gt (pe_callB call_lenD (by rfl) T.n_len (by decide +kernel) (pa_cons (pv 1) pa_nil)) (ClX.pe_cval (pe_glob (v := .ref A.C_CodeSet) (by rfl) T.g_CodeSet rfl)) (nomark _))))) (pss_one ps_never) pss_nil) (pss_cons (ps_lock (ps_setLc (i := 2) (own := [("byte", 3)]) (g := gName 3) rfl sc_check_forms.nd rfl rfl (sw_true rfl rfl rfl (by decide +kernel)) (pi_keys (pv 1)) (blkOk_by (own := [("byte", 3)]) (N := ["stop", "forms", "names", "byte"]) (sc := defScope s_check_forms) (by decide +kernel)) (fun _ _ _ _ _ => by exact (pg_name (i := 3) sc_check_forms.nd rfl (Or.inl rfl))) (fun _ _ _ _ _ => by exact pts_nil) (fun _ _ _ _ _ => by (refine' Vc.blkE ?h ?q; (case h => exact (pe_fld (pe_dget (by exact hu) (pv 1) (pv 3) (fun _ _ => rfl)) rfl)); (case q => first | exact rfl | (dsimp only; done) | (dsimp only; exact rfl)))))) (pss_cons (ps_if (pt_cmpR op_lt (Setn.pe_lenSetN rfl (by rfl) T.n_len (by rfl) T.n_set (pv 2)) (pe_callB call_len_seq (by rfl) T.n_len (by decide +kernel) (pa_cons (pv 2) pa_nil)) (nomark _)) (pss_one ps_never) pss_nil) (pss_one (ps_lock (ps_for PassesOwn.never rfl (pi_keys (pv 1)) (pg_name (i := 3) sc_check_forms.nd rfl (Or.inl rfl)) (pss_one (ps_if (PW.pt (pw_or (pt_not (pt_val (pe_call G_is_byte (by exact hr.mono (by decide)) (by rfl) T.g_is_byte T.F_is_byte.kp T.b_is_byte .nil pass0 (pa_cons (pv 3) pa_nil)))) (pw_or1 (pt_cmpR op_eq (pv 3) (pv 0) (nomark _))))) (pss_one ps_never) pss_nil)))))))), ?_⟩
    walk_at "goo"
    refine Vc.lockA_keys rfl hd [] (fun H1 L i H' => Vc.Ed [] H1 H' ∧ H' L = some (.lst ((items.take i).map fun p => .str p.1.name))) (fun _ _ _ _ h => h.1) (fun H1 od L H2 e1 h1 nL e2 hL => ⟨e2, hL⟩) ?_ ?_
    · rintro H1 od L i k' v H' e1 nL h1 hk ⟨e2, hL⟩
      obtain ⟨p, hp, rfl, rfl⟩ := kvsOf_get hk
      have hm := List.mem_of_getElem? hp
      have hi : i < items.length := (List.getElem?_eq_some_iff.mp hp).1
      have hv := kvsOf_val Va.ndb hm
      have hF := ((M.fm p hm).ed1 e1 hd (fun _ _ _ => by intro z; cases z)).ed e2 (fun z => nomatch z)
      obtain ⟨dx, hF⟩ := hF
      change gName 3 (V.int p.1.byte) _ _ _
      walk_at "go"
      refine ⟨rfl, ?_⟩
      walk_at "go"
      refine ⟨_, hL, by rw [List.length_map, List.length_take]; exact small1000 (by omega), ?_⟩
      generalize hu2 : upd _ L _ = H3
      obtain ⟨e3, hL3⟩ := Vc.chg hu2 hL
      refine ⟨e2.one e3 (.inr nL), ?_⟩
      rw [List.take_add_one, hp, List.map_append]
      exact hL3
    · rintro H1 L H' H2 nL ⟨e2, hL⟩ e hd2 k2
      have hLd : L ≠ d := fun z => by rw [z, hd] at nL; cases nL
      have hL2 := k2 L _ hLd hL
      have eq : List.map (fun p : FD × Addr => V.str p.1.name) (List.take (kvsOf items).length items) = ((items.map (·.1)).map (·.name)).map V.str := by
        rw [kvsOf_len, List.take_of_length_le (Nat.le_refl _)]
        simp [List.map_map, Function.comp_def]
      rw [eq] at hL2
      have hSq : SqL K H2 L (((items.map (·.1)).map (·.name)).map V.str) := .of hL2
      walk_at "go"
      refine Vc.go_lenSetC hSq (by rw [List.length_map, List.length_map]; omega) ?_
      rw [Setn.cn_nd Va.ndn]
      walk_at "go"
      simp only [List.length_map]
      walk_at "goo"
      refine Vc.lock_keys rfl hd2 [] (fun H1 i σ H' => ∃ y, σ = [some (.int stop), some (.ref d), some (.ref L), y] ∧ Vc.Ed [] H1 H') (fun _ _ _ _ h => h.choose_spec.2) (fun H1 od _ _ => ⟨none, rfl, .refl⟩) ?_ ?_
      · rintro H1 od i k' v σ' H' _ _ h1 hk ⟨y, rfl, e2⟩
        obtain ⟨p, hp, rfl, rfl⟩ := kvsOf_get hk
        have hm := List.mem_of_getElem? hp
        obtain ⟨b0, b1, b2⟩ := Va.byt p.1 (List.mem_map.mpr ⟨p, hm, rfl⟩)
        change gName 3 (V.int p.1.byte) _ _ _
        walk_at "go"
        refine ⟨p.1.byte, rfl, fun H4 e4 => ?_⟩
        rw [decide_eq_true ⟨b0, b1⟩]
        walk_at "goo"
        exact ⟨_, rfl, by walk_at "ed"⟩
      · rintro H1 σ' H' H3 _ ⟨y, rfl, e2⟩ e3 _ _
        exact k _ (by walk_at "ed")
end

end My
namespace My
open PySem PySem.Spec PyProof.Rows L2
/-! ### forms drawn -/
structure TupsAt (H : Hp) (f : Addr) (its : List (FD × Addr)) : Prop where
  ob : H f = some (.dK (kvsOf its))
  tp : ∀ p ∈ its, H p.2 = some (.tup [.str p.1.name, .int p.1.len, .str p.1.flow])
theorem TupsAt.ed {H H' : Hp} {f : Addr} {its : List (FD × Addr)} {S : List Addr} (h : TupsAt H f its) (e : Vc.Ed S H H') (n : f ∉ S) : TupsAt H' f its :=
  ⟨e.keep _ _ n h.ob, fun p hp => e.tup _ _ (h.tp p hp)⟩
theorem TupsAt.ed0 {H H' : Hp} {f : Addr} {its : List (FD × Addr)} (e : Vc.Ed [] H H') (h : TupsAt H f its) : TupsAt H' f its := h.ed e (fun z => nomatch z)
theorem TupsAt.ed1 {H H' : Hp} {f q : Addr} {its : List (FD × Addr)} (e : Vc.Ed [q] H H') (n : f ≠ q) (h : TupsAt H f its) : TupsAt H' f its := h.ed e (fun z => n (List.mem_singleton.mp z))
theorem at_ints {ns : List Int} {i : Int} (h0 : 0 ≤ i) (h1 : i < ns.length) : ∃ n, n ∈ ns ∧ atI (ns.map V.int) i = some (.int n) := by
  refine ⟨ns[i.toNat]'(by omega), List.getElem_mem _, at_of (j := i.toNat) (by omega) ?_⟩
  rw [List.getElem?_map, List.getElem?_eq_getElem (by omega)]; rfl
/-! ### the forms drawn -/
theorem kvs_some {its : List (FD × Addr)} {x : Int} (h : (valV (kvsOf its) (.inl x)).isSome = true) : ∃ p ∈ its, p.1.byte = x := by
  unfold valV at h
  rw [Option.isSome_map] at h
  obtain ⟨kv, e⟩ := Option.isSome_iff_exists.mp h
  have h1 := List.mem_of_find?_eq_some e
  have h2 := List.find?_some e
  have h2 : kv.1 = Sum.inl x := of_decide_eq_true h2
  obtain ⟨p, hp, rfl⟩ := List.mem_map.mp h1
  exact ⟨p, hp, Sum.inl.inj h2⟩
theorem kvs_none {its : List (FD × Addr)} {x : Int} (h : valV (kvsOf its) (.inl x) = none) : ∀ p ∈ its, p.1.byte ≠ x := by
  intro p hp e
  unfold valV at h
  rw [Option.map_eq_none_iff, List.find?_eq_none] at h
  exact h (.inl p.1.byte, .ref p.2) (List.mem_map.mpr ⟨p, hp, rfl⟩) (decide_eq_true (congrArg Sum.inl e))
theorem free_nat : ∀ (n : Nat) (l : List Int), l.length < n → ∃ v : Nat, v < n ∧ (v : Int) ∉ l
  | 0, _, h => absurd h (Nat.not_lt_zero _)
  | n + 1, l, h => by
    by_cases hn : (n : Int) ∈ l
    · obtain ⟨v, hv, hm⟩ := free_nat n (l.filter fun x => !decide (x = n)) (by
        have := List.length_filter_lt_length_iff_exists (l := l) (p := fun x => !decide (x = (n : Int)))
        have := this.mpr ⟨n, hn, by simp⟩
        omega)
      refine ⟨v, by omega, fun z => hm (List.mem_filter.mpr ⟨z, by simp; omega⟩)⟩
    · exact ⟨n, by omega, hn⟩
theorem cutS_take (z : Str) (k : Nat) : cutS z none (some (k : Int)) = ⟨(z.cps.toList.take k).toArray⟩ := by
  unfold cutS
  have e : z.length = z.cps.toList.length := rfl
  rw [e, HT.sIx_nat, HT.sIx_none, List.drop_zero, Nat.sub_zero]
  rcases Nat.le_total k z.cps.toList.length with h | h
  · rw [Nat.min_eq_left h]
  · rw [Nat.min_eq_right h, List.take_length, List.take_of_length_le h]
theorem cutS_drop (z : Str) (k : Nat) : cutS z (some (k : Int)) none = ⟨(z.cps.toList.drop k).toArray⟩ := by
  unfold cutS
  have e : z.length = z.cps.toList.length := rfl
  rw [e, HT.sIx_nat, HT.sIx_none]
  rcases Nat.le_total k z.cps.toList.length with h | h
  · rw [Nat.min_eq_left h, List.take_of_length_le (by rw [List.length_drop]; omega)]
  · rw [Nat.min_eq_right h, List.drop_of_length_le h, List.drop_length, List.take_nil]
def nmOf (cs : List Nat) (s : Nat) (j : Nat) : Str := ⟨(cs.take s ++ (LET.getD j 0 :: cs.drop s)).toArray⟩
theorem nm_eq {cs : List Nat} {s j : Nat} : cutS ⟨cs.toArray⟩ none (some (s : Int)) ++ ⟨#[LET.getD j 0]⟩ ++ cutS ⟨cs.toArray⟩ (some (s : Int)) none = nmOf cs s j := by
  rw [cutS_take, cutS_drop]
  show Str.mk ((_ ++ _) ++ _) = Str.mk _
  refine congrArg Str.mk ?_
  simp
theorem nm_inj {cs : List Nat} {s i j : Nat} (h : nmOf cs s i = nmOf cs s j) : LET.getD i 0 = LET.getD j 0 := by
  unfold nmOf at h
  have h1 := congrArg Array.toList (Str.mk.inj h)
  have h2 := List.append_cancel_left h1
  exact (List.cons.inj h2).1
theorem let_inj {i j : Nat} (hi : i < 26) (hj : j < 26) (h : LET.getD i 0 = LET.getD j 0) : i = j := by
  have a : ∀ i : Fin 26, ∀ j : Fin 26, LET.getD i.1 0 = LET.getD j.1 0 → i = j := by decide +kernel
  exact congrArg Fin.val (a ⟨i, hi⟩ ⟨j, hj⟩ h)
theorem let_mem {j : Nat} (hj : j < 26) : LET.getD j 0 ∈ LET := by
  have a : ∀ i : Fin 26, LET.getD i.1 0 ∈ LET := by decide +kernel
  exact a ⟨j, hj⟩
theorem nm_nodup {cs : List Nat} {s n : Nat} (hn : n ≤ 26) : ((List.range n).map (nmOf cs s)).Nodup := by
  refine List.Pairwise.map _ ?_ (List.Pairwise.and_mem.mp List.nodup_range)
  intro a b ⟨ha, hb, ne⟩ e
  rw [List.mem_range] at ha hb
  exact ne (let_inj (by omega) (by omega) (nm_inj e))
theorem nm_len {cs : List Nat} {s j : Nat} : (nmOf cs s j).length = cs.length + 1 := by
  show (Str.cps _).size = _
  unfold nmOf
  simp only [List.size_toArray, List.length_append, List.length_cons, List.length_take, List.length_drop]
  omega
theorem nm_let {cs : List Nat} {s j : Nat} (hc : ∀ c ∈ cs, c ∈ LET) (hj : j < 26) : ∀ c ∈ (nmOf cs s j).cps.toList, c ∈ LET := by
  intro c hm
  unfold nmOf at hm
  rcases List.mem_append.mp hm with h | h
  · exact hc c (List.mem_of_mem_take h)
  · rcases List.mem_cons.mp h with h | h
    · rw [h]; exact let_mem hj
    · exact hc c (List.mem_of_mem_drop h)
theorem let_at {i : Int} (h0 : 0 ≤ i) (h1 : i < 26) : atI ("abcdefghijklmnopqrstuvwxyz" : Str).cps.toList i = some (LET.getD i.toNat 0) := by
  rw [letters_eq]
  have a : ∀ i : Fin 26, atI LET (i.1 : Int) = some (LET.getD i.1 0) := by decide +kernel
  have := a ⟨i.toNat, by omega⟩
  rwa [show ((⟨i.toNat, by omega⟩ : Fin 26).1 : Int) = i by show (i.toNat : Int) = i; omega] at this
theorem joinL_nil : ∀ (ps : List (List Nat)), TL.joinL [] ps = ps.flatten
  | [] => rfl
  | [p] => by show p = _; simp
  | p :: q :: r => by
    show p ++ ([] ++ TL.joinL [] (q :: r)) = _
    rw [joinL_nil (q :: r)]; simp
theorem join_one (cs : List Nat) : Txt.join "" (cs.map fun c => (⟨#[c]⟩ : Str)) = ⟨cs.toArray⟩ := by
  refine TL.ext_tl ?_
  rw [congrArg TL.tl (TL.join_eq _ _), TL.tl_join]
  have e : TL.tl ("" : Str) = [] := by decide +kernel
  rw [e, joinL_nil, List.map_map]
  show (cs.map fun c => [c]).flatten = cs
  induction cs with
  | nil => rfl
  | cons c r ih => rw [List.map_cons, List.flatten_cons, ih]; rfl
/-- what is drawn so far -/
structure Drawn (stop : Int) (cs : List Nat) (s : Nat) (its : List (FD × Addr)) : Prop where
  ok : ∀ p ∈ its, p.1.Ok
  byt : ∀ p ∈ its, 0 ≤ p.1.byte ∧ p.1.byte ≤ 255 ∧ p.1.byte ≠ stop
  ndb : ((its.map (·.1)).map (·.byte)).Nodup
  nms : (its.map (·.1)).map (·.name) = (List.range its.length).map (nmOf cs s)
theorem kvsOf_put {its : List (FD × Addr)} {f : FD} {a : Addr} (h : valV (kvsOf its) (.inl f.byte) = none) : putK (kvsOf its) (.inl f.byte) (.ref a) = kvsOf (its ++ [(f, a)]) := by
  rw [putK_new _ h]
  unfold kvsOf
  rw [List.map_append]; rfl
theorem Drawn.put {stop : Int} {cs : List Nat} {s : Nat} {its : List (FD × Addr)} {f : FD} {a : Addr} (h : Drawn stop cs s its) (ok : f.Ok) (b : 0 ≤ f.byte ∧ f.byte ≤ 255 ∧ f.byte ≠ stop) (hn : valV (kvsOf its) (.inl f.byte) = none) (hm : f.name = nmOf cs s its.length) : Drawn stop cs s (its ++ [(f, a)]) where
  ok := fun p hp => by
    rcases List.mem_append.mp hp with hp | hp
    · exact h.ok p hp
    · rw [List.mem_singleton.mp hp]; exact ok
  byt := fun p hp => by
    rcases List.mem_append.mp hp with hp | hp
    · exact h.byt p hp
    · rw [List.mem_singleton.mp hp]; exact b
  ndb := by
    rw [List.map_append, List.map_append, List.nodup_append]
    refine ⟨h.ndb, by simp, fun x hx y hy e => ?_⟩
    obtain ⟨f', hf', rfl⟩ := List.mem_map.mp hx
    obtain ⟨p, hp, rfl⟩ := List.mem_map.mp hf'
    have hy : y = f.byte := by simpa using hy
    exact kvs_none hn p hp (e.trans hy)
  nms := by
    rw [List.map_append, List.map_append, h.nms, List.length_append, List.length_singleton, List.range_succ, List.map_append]
    simp [hm]

end My
namespace My
open PySem PySem.Spec PyProof.Rows L2
/-! ### the forms drawn by the pen -/
def endNext (j : Nat) : Str := if j = 0 then "end" else "next"
/-- the first is one byte long and ends, the second is one byte long and goes on -/
def Gen (its : List (FD × Addr)) : Prop := ∀ (j : Nat) (p : FD × Addr), its[j]? = some p → j < 2 → p.1.len = 1 ∧ p.1.flow = endNext j
theorem Gen.put {its : List (FD × Addr)} {q : FD × Addr} (h : Gen its) (k : its.length < 2 → q.1.len = 1 ∧ q.1.flow = endNext its.length) : Gen (its ++ [q]) := by
  intro j p hj h2
  rcases Nat.lt_trichotomy j its.length with l | l | l
  · rw [List.getElem?_append_left l] at hj
    exact h j p hj h2
  · subst l
    rw [List.getElem?_append_right (Nat.le_refl _), Nat.sub_self] at hj
    injection hj with hj
    rw [← hj]; exact k h2
  · rw [List.getElem?_append_right (by omega)] at hj
    have : ([q] : List (FD × Addr))[j - its.length]? = none := List.getElem?_eq_none (by simp; omega)
    rw [this] at hj; cases hj
theorem TupsAt.pen {H H' : Hp} {f b c : Addr} {n : Nat} {its : List (FD × Addr)} (e : Vc.Ed [b] H H') (B : Pen H b c n) (h : TupsAt H f its) : TupsAt H' f its := by
  refine h.ed1 e (fun z => ?_)
  obtain ⟨x, a, r, hb⟩ := B.lst
  have := h.ob; rw [z, hb] at this; cases this
def spGForms : Sp := fun vs H Q _ => ∃ (b c : Addr) (n : Nat) (most : Int), vs = [.ref b, .int most] ∧ Pen H b c n ∧ n + 60 ≤ LIM ∧ 0 ≤ most ∧ most ≤ 14 ∧
  ∀ t f its stop H', Vc.Ed [b] H H' → Pen H' b c (n + 60) → H f = none → H' t = some (.tup [.int stop, .ref f]) → TupsAt H' f its → 2 ≤ its.length → Valid stop (its.map (·.1)) → Gen its → Q (.ref t) H'
section
variable {P : Program} {w : World} {K : PySem.W.Frag} {mg : Str → Option Value} {base : Heap} {A : Ad}
theorem ok__law_forms (T : Txt K mg A) : FnOk P w K mg base CX0 2 A.f__law_forms A.d__law_forms ["_law_pen_here", "_law_most"] spGForms := by
  have G__law_draw := ok__law_draw (P := P) (w := w) (base := base) T
  refine T.F__law_forms.ok sc__law_forms (fun vs H Q E h => ?_) (fun cdv Ar outer s H vs Q E hr h => ?_)
  · obtain ⟨b, c, n, most, rfl, _⟩ := h
    rfl
  · obtain ⟨b, c, n, most, rfl, hB, nl, m0, m1, k⟩ := h
    have hu := hu_of hr
    have l26 : ("abcdefghijklmnopqrstuvwxyz" : Str).length ≤ 1000 := by decide +kernel
    have nl : n + 60 ≤ 1000000 := nl
    have nL : ∀ m : Nat, m ≤ n + 60 → m ≤ LIM := fun m h => by show m ≤ 1000000; omega
    refine ⟨_, (pss_cons (ps_set (i := 2) sc__law_forms.nd rfl (Or.inr rfl) pe_str) (pss_cons (ps_set (i := 3) sc__law_forms.nd rfl (Or.inl rfl) (pe_join pe_str (pe_lc (own := [("_law_k", 7)]) (g := gName 7) rfl sc__law_forms.nd (pi_range1 (by rfl) T.n_range (pa_cons (pe_call G__law_draw (by exact hr.mono (by decide)) (by rfl) T.g__law_draw T.F__law_draw.kp T.b__law_draw .nil pass0 (pa_cons (pv 0) (pa_cons pe_int pa_nil))) pa_nil)) (blkOk_by (own := [("_law_k", 7)]) (N := ["_law_pen_here", "_law_most", "_law_letters", "_law_rest", "_law_spot", "_law_stop", "_law_forms_here", "_law_k", "_law_byte_here", "_law_flow", "_law_length"]) (sc := defScope s__law_forms) (by decide +kernel)) (fun _ _ _ _ _ => by exact (pg_name (i := 7) sc__law_forms.nd rfl (Or.inl rfl))) (fun _ _ _ _ _ => by exact pts_nil) (fun _ _ _ _ _ => by (refine' Vc.blkE ?h ?q; (case h => exact (pe_ix ix_str (pv 2) (pe_call G__law_draw (by exact hr.mono (by decide)) (by rfl) T.g__law_draw T.F__law_draw.kp T.b__law_draw .nil pass0 (pa_cons (pv 0) (pa_cons pe_int pa_nil))) (fun _ _ => rfl))); (case q => first | exact rfl | (dsimp only; done) | (dsimp only; exact rfl))))))) (pss_cons (ps_set (i := 4) sc__law_forms.nd rfl (Or.inl rfl) (pe_call G__law_draw (by exact hr.mono (by decide)) (by rfl) T.g__law_draw T.F__law_draw.kp T.b__law_draw .nil pass0 (pa_cons (pv 0) (pa_cons (pe_op op_add (pe_callB call_len_str (by rfl) T.n_len (by decide +kernel) (pa_cons (pv 3) pa_nil)) pe_int) pa_nil)))) (pss_cons (ps_set (i := 5) sc__law_forms.nd rfl (Or.inl rfl) (pe_call G__law_draw (by exact hr.mono (by decide)) (by rfl) T.g__law_draw T.F__law_draw.kp T.b__law_draw .nil pass0 (pa_cons (pv 0) (pa_cons pe_int pa_nil)))) (pss_cons (ps_set (i := 6) sc__law_forms.nd rfl (Or.inl rfl) pe_dnewK) (pss_cons (ps_for PassesOwn.never rfl (pi_range1 (by rfl) T.n_range (pa_cons (pe_op op_add pe_int (pe_call G__law_draw (by exact hr.mono (by decide)) (by rfl) T.g__law_draw T.F__law_draw.kp T.b__law_draw .nil pass0 (pa_cons (pv 0) (pa_cons (pe_op op_add (pv 1) pe_int) pa_nil)))) pa_nil)) (pg_name (i := 7) sc__law_forms.nd rfl (Or.inl rfl)) (pss_cons (ps_set (i := 8) sc__law_forms.nd rfl (Or.inl rfl) (pe_call G__law_draw (by exact hr.mono (by decide)) (by rfl) T.g__law_draw T.F__law_draw.kp T.b__law_draw .nil pass0 (pa_cons (pv 0) (pa_cons pe_int pa_nil)))) (pss_cons (ps_while PassesOwn.never (PW.pt (pw_or (pt_cmpR op_eq (pv 8) (pv 5) (nomark _)) (pw_or1 (pt_cmp (pc_din (by exact hu) (pv 8) (pv 6)))))) (pss_one (ps_set (i := 8) sc__law_forms.nd rfl (Or.inl rfl) (pe_op op_mod (pe_callTy call_int1 (by rfl) T.n_int (by decide +kernel) (pa_cons (pe_op op_add (pv 8) pe_int) pa_nil)) pe_int)))) (pss_cons (ps_set (i := 9) sc__law_forms.nd rfl (Or.inl rfl) (pe_ix ix_list (pe_lst (pa_cons pe_str (pa_cons pe_str (pa_cons pe_str (pa_cons pe_str (pa_cons pe_str (pa_cons pe_str pa_nil))))))) (pe_call G__law_draw (by exact hr.mono (by decide)) (by rfl) T.g__law_draw T.F__law_draw.kp T.b__law_draw .nil pass0 (pa_cons (pv 0) (pa_cons pe_int pa_nil))) (fun _ _ => rfl))) (pss_cons (ps_set (i := 10) sc__law_forms.nd rfl (Or.inl rfl) (pe_op op_add pe_int (pe_call G__law_draw (by exact hr.mono (by decide)) (by rfl) T.g__law_draw T.F__law_draw.kp T.b__law_draw .nil pass0 (pa_cons (pv 0) (pa_cons pe_int pa_nil))))) (Evl.pss_cut (ps_if (PW.pt (pw_and (pt_cmpR op_eq (pv 10) pe_int (nomark _)) (pw_and1 (pt_cmpR op_in_seq (pv 9) (pe_tup (pa_cons pe_str (pa_cons pe_str pa_nil))) (by rfl))))) (pss_one (ps_set (i := 10) sc__law_forms.nd rfl (Or.inl rfl) pe_int)) pss_nil) (Evl.pss_cut (ps_if (pt_cmpR op_lt (pv 7) pe_int (nomark _)) (pss_cons (ps_set (i := 10) sc__law_forms.nd rfl (Or.inl rfl) pe_int) (pss_one (ps_set (i := 9) sc__law_forms.nd rfl (Or.inl rfl) (pe_ix ix_list (pe_lst (pa_cons pe_str (pa_cons pe_str pa_nil))) (pv 7) (fun _ _ => rfl))))) pss_nil) (pss_one (ps_dput (by exact hu) (pv 6) (pv 8) (pe_tup (pa_cons (pe_op op_add_str (pe_op op_add_str (pe_slice sl_str (pv 3) po_none (po_some (pv 4))) (pe_ix ix_str (pv 2) (pv 7) (fun _ _ => rfl))) (pe_slice sl_str (pv 3) (po_some (pv 4)) po_none)) (pa_cons (pv 10) (pa_cons (pv 9) pa_nil)))) rfl))))))))) (pss_one (ps_ret (pe_tup (pa_cons (pv 5) (pa_cons (pv 6) pa_nil))))))))))), ?_⟩
    walk_at "go"
    refine ⟨b, c, _, 8, rfl, hB, nL _ (by omega), by omega, by omega, fun r H1 r0 r1 e1 hB1 => ?_⟩
    walk_at "go"
    refine ⟨by omega, by omega, Vc.lc_by walk_range (fun L i H' => Vc.Ed [b] H H' ∧ Pen H' b c (n + 1 + i) ∧ ∃ cs : List Nat, cs.length = i ∧ (∀ c ∈ cs, c ∈ LET) ∧ H' L = some (.lst (cs.map fun c => .str ⟨#[c]⟩))) (fun L H2 nL e2 hL => ⟨by walk_at "ed", hB1.ed0 e2, [], rfl, (by intro c h; cases h), hL⟩) (fun _ _ _ _ _ _ => trivial) ?_ ?_⟩
    · rintro L i x H2 H3 nfL hi ⟨e2, hB2, cs, lc, hc, hL⟩ ⟨rfl, rfl⟩
      walk_at "go"
      refine ⟨rfl, ?_⟩
      walk_at "go"
      refine ⟨b, c, _, 26, rfl, hB2, nL _ (by omega), by omega, by omega, fun v H4 v0 v1 e4 hB4 => ?_⟩
      have hv := let_at v0 v1
      walk_at "go"
      have nb := hB1.fb nfL
      have nL0 := e1.dom _ nfL
      have hL4 := e4.at1 nb.1.symm hL
      refine ⟨_, hL4, by rw [List.length_map]; exact small1000 (by omega), ?_⟩
      generalize hu5 : upd _ L _ = H5
      obtain ⟨e5, hL5⟩ := Vc.chg hu5 hL4
      refine ⟨by walk_at "ed", (hB4.ed1 e5 nb.1 nb.2).up (by omega), cs ++ [LET.getD v.toNat 0], by rw [List.length_append, lc]; rfl, fun c' hc' => ?_, by rw [List.map_append]; exact hL5⟩
      rcases List.mem_append.mp hc' with h | h
      · exact hc c' h
      · rw [List.mem_singleton.mp h]; exact let_mem (by omega)
    · rintro L H2 nfL ⟨e2, hB2, cs, lc, hc, hL⟩
      walk_at "go"
      have hL' : SqL K H2 L ((cs.map fun c => (⟨#[c]⟩ : Str)).map V.str) := by rw [List.map_map]; exact .of hL
      refine Vc.go_join hL' ?_ ?_
      · have e0 : ("" : Str).length = 0 := by decide +kernel
        have e1 : (List.map (fun x : Str => x.length) (List.map (fun c => { cps := #[c] }) cs)).sum = cs.length := by
          clear hL hc lc hL'
          induction cs with
          | nil => rfl
          | cons c r ih =>
            rw [List.map_cons, List.map_cons, List.sum_cons, ih, List.length_cons]
            show 1 + r.length = r.length + 1
            omega
        rw [e0, e1]
        omega
      rw [join_one]
      have zl : (⟨cs.toArray⟩ : Str).length = cs.length := by show cs.toArray.size = _; simp
      have zl1 : (⟨cs.toArray⟩ : Str).length ≤ 1000 := by omega
      walk_at "go"
      rw [zl]
      refine ⟨b, c, _, _, rfl, hB2, nL _ (by omega), by omega, by omega, fun sp H3 p0 p1 e3 hB3 => ?_⟩
      walk_at "go"
      refine ⟨b, c, _, 256, rfl, hB3, nL _ (by omega), by omega, by omega, fun stop H3a s0 s1 e3a hB3a => ?_⟩
      walk_at "go"
      intro f nf
      generalize hu4 : upd _ f _ = H4
      obtain ⟨e4, hf4⟩ := Vc.alloc hu4 nf
      walk_at "go"
      refine ⟨b, c, _, _, rfl, hB3a.ed0 e4, nL _ (by omega), by omega, by omega, fun cnt H5 n0 n1 e5 hB5 => ?_⟩
      have nfb := (hB3a.fb nf).1.symm
      have nfc := (hB3a.fb nf).2.symm
      have nf0 : H f = none := by walk_at "free"
      have ee : Vc.Ed [b] H H5 := by walk_at "ed"
      have hf5 := e5.at1 nfb hf4
      walk_at "go"
      obtain ⟨s, rfl⟩ : ∃ s : Nat, sp = (s : Int) := ⟨sp.toNat, by omega⟩
      have cl7 : cs.length ≤ 7 := by omega
      have hB5 := hB5.up (m := n + 12) (by omega)
      clear hB1 hB2 hB3 hB3a e1 e2 e3 e3a e4 e5 hf4 hL hL'
      refine ⟨by omega, by omega, for_range (lo := 0) (fun i σ H' => ∃ y7 y8 y9 y10 its, σ = [some (.ref b), some (.int most), some (.str "abcdefghijklmnopqrstuvwxyz"), some (.str ⟨cs.toArray⟩), some (.int (s : Int)), some (.int stop), some (.ref f), y7, y8, y9, y10] ∧ Vc.Ed [b] H H' ∧ Pen H' b c (n + 12 + 3 * i) ∧ TupsAt H' f its ∧ Drawn stop cs s its ∧ Gen its ∧ its.length = i) ⟨none, none, none, none, [], rfl, ee, hB5, ⟨hf5, (by intro p h; cases h)⟩, ⟨(by intro p h; cases h), (by intro p h; cases h), (by simp), rfl⟩, (by intro j p h; cases h), rfl⟩ ?_ ?_⟩
      · rintro i σ H6 hi ⟨y7, y8, y9, y10, its, rfl, e6, hB6, hT6, hD, hG, li⟩
        have hi : i < 16 := by omega
        walk_at "go"
        refine ⟨b, c, _, 256, rfl, hB6, nL _ (by omega), by omega, by omega, fun byte H7 b0 b1 e7 hB7 => ?_⟩
        have hT7 := hT6.ed1 e7 nfb
        walk_at "go"
        obtain ⟨v, v256, hv⟩ := free_nat 256 (stop :: (its.map (·.1)).map (·.byte)) (by simp; omega)
        refine ⟨fun m σ H' => ∃ byte : Int, σ = [some (.ref b), some (.int most), some (.str "abcdefghijklmnopqrstuvwxyz"), some (.str ⟨cs.toArray⟩), some (.int (s : Int)), some (.int stop), some (.ref f), some (.int (0 + (i : Int))), some (.int byte), y9, y10] ∧ 0 ≤ byte ∧ byte < 256 ∧ H' = H7 ∧ m = (((v : Int) - byte) % 256).toNat, ⟨_, byte, rfl, b0, b1, rfl, rfl⟩, ?_⟩
        rintro m σ H' ⟨byte, rfl, b0, b1, rfl, rfl⟩
        have hd7 := hT7.ob
        walk_at "go"
        refine Vc.go_ite (fun h1 => ?_) (fun h1 => ?_)
        · have ne : byte ≠ v := fun z => hv (List.mem_cons.mpr (.inl (z.symm.trans h1)))
          walk_at "go"
          refine ⟨fun σ' H'' => ∃ byte' : Int, σ' = [some (.ref b), some (.int most), some (.str "abcdefghijklmnopqrstuvwxyz"), some (.str ⟨cs.toArray⟩), some (.int (s : Int)), some (.int stop), some (.ref f), some (.int (0 + (i : Int))), some (.int byte'), y9, y10] ∧ 0 ≤ byte' ∧ byte' < 256 ∧ H'' = H' ∧ (((v : Int) - byte') % 256).toNat < (((v : Int) - byte) % 256).toNat, ?_, ?_⟩
          · rintro σ' H'' ⟨byte', e1, e2, e3, e4, e5⟩
            exact ⟨_, e5, byte', e1, e2, e3, e4, rfl⟩
          · walk_at "go"
            exact ⟨_, rfl, by omega, by omega, rfl, by omega⟩
        walk_at "go"
        refine Vc.go_iteb (fun h2 => ?_) (fun h2 => ?_)
        · have ne : byte ≠ v := fun z => hv (List.mem_cons_of_mem _ (by
            obtain ⟨p, hp, e⟩ := kvs_some h2
            exact List.mem_map.mpr ⟨p.1, List.mem_map.mpr ⟨p, hp, rfl⟩, e.trans z⟩))
          walk_at "go"
          refine ⟨fun σ' H'' => ∃ byte' : Int, σ' = [some (.ref b), some (.int most), some (.str "abcdefghijklmnopqrstuvwxyz"), some (.str ⟨cs.toArray⟩), some (.int (s : Int)), some (.int stop), some (.ref f), some (.int (0 + (i : Int))), some (.int byte'), y9, y10] ∧ 0 ≤ byte' ∧ byte' < 256 ∧ H'' = H' ∧ (((v : Int) - byte') % 256).toNat < (((v : Int) - byte) % 256).toNat, ?_, ?_⟩
          · rintro σ' H'' ⟨byte', e1, e2, e3, e4, e5⟩
            exact ⟨_, e5, byte', e1, e2, e3, e4, rfl⟩
          · walk_at "go"
            exact ⟨_, rfl, by omega, by omega, rfl, by omega⟩
        have hn : valV (kvsOf its) (.inl byte) = none := Option.not_isSome_iff_eq_none.mp (by rw [h2]; decide)
        clear hv v256 h2 hT6 hB6 hd7
        walk_at "go"
        intro M nM
        generalize hu8 : upd _ M _ = H8
        obtain ⟨e8, hM⟩ := Vc.alloc hu8 nM
        have nMb := (hB7.fb nM).1.symm
        walk_at "go"
        refine ⟨b, c, _, 6, rfl, hB7.ed0 e8, nL _ (by omega), by omega, by omega, fun fi H9 f0 f1 e9 hB9 => ?_⟩
        obtain ⟨fl, hfl, hfa⟩ : ∃ fl, Flow fl ∧ atI [V.str "next", .str "jump", .str "test", .str "next", .str "end", .str "test"] fi = some (.str fl) := by
          have : fi = 0 ∨ fi = 1 ∨ fi = 2 ∨ fi = 3 ∨ fi = 4 ∨ fi = 5 := by omega
          rcases this with e | e | e | e | e | e <;> subst e
          · exact ⟨"next", .inl rfl, rfl⟩
          · exact ⟨"jump", .inr (.inl rfl), rfl⟩
          · exact ⟨"test", .inr (.inr (.inl rfl)), rfl⟩
          · exact ⟨"next", .inl rfl, rfl⟩
          · exact ⟨"end", .inr (.inr (.inr rfl)), rfl⟩
          · exact ⟨"test", .inr (.inr (.inl rfl)), rfl⟩
        have hM9 := e9.at1 nMb hM
        walk_at "go"
        refine ⟨b, c, _, 4, rfl, hB9, nL _ (by omega), by omega, by omega, fun li0 H10 l0 l1 e10 hB10 => ?_⟩
        have hT10 := ((hT7.ed0 e8).ed1 e9 nfb).ed1 e10 nfb
        have e10' : Vc.Ed [b] H H10 := by walk_at "ed"
        have hB10 := hB10.up (m := n + 12 + 3 * (i + 1)) (by omega)
        clear hM hM9 e8 e9 e10 e6 e7 hT7 hB7 hB9 nMb nM hu8
        walk_at "go"
        refine Evl.q_cut (M := fun σ' H' => ∃ (len : Int) (fl : Str), σ' = [some (.ref b), some (.int most), some (.str "abcdefghijklmnopqrstuvwxyz"), some (.str ⟨cs.toArray⟩), some (.int (s : Int)), some (.int stop), some (.ref f), some (.int (0 + (i : Int))), some (.int byte), some (.str fl), some (.int len)] ∧ Vc.Ed [] H10 H' ∧ 1 ≤ len ∧ len ≤ 4 ∧ Flow fl ∧ (fl = "jump" ∨ fl = "test" → 2 ≤ len)) ?_ ?_
        · walk_at "go"
          refine Vc.go_ite (fun h3 => ?_) (fun h3 => ?_)
          · walk_at "go"
            intro M2 nM2
            generalize hu11 : upd _ M2 _ = H11
            obtain ⟨e11, hM2⟩ := Vc.alloc hu11 nM2
            walk_at "go"
            rw [inV2]
            refine Vc.go_ite (fun h4 => ?_) (fun h4 => ?_)
            · walk_at "go"
              exact ⟨_, _, rfl, e11, by omega, by omega, hfl, fun _ => by omega⟩
            · walk_at "go"
              exact ⟨_, _, rfl, e11, by omega, by omega, hfl, fun h => (h4 h).elim⟩
          · walk_at "go"
            exact ⟨_, _, rfl, Vc.Ed.refl, by omega, by omega, hfl, fun _ => by omega⟩
        rintro σ' H11 ⟨len, fl, rfl, e11, l1, l4, hfl, tw⟩
        refine Evl.q_cut (M := fun σ' H' => ∃ (len : Int) (fl : Str), σ' = [some (.ref b), some (.int most), some (.str "abcdefghijklmnopqrstuvwxyz"), some (.str ⟨cs.toArray⟩), some (.int (s : Int)), some (.int stop), some (.ref f), some (.int (0 + (i : Int))), some (.int byte), some (.str fl), some (.int len)] ∧ Vc.Ed [] H10 H' ∧ 1 ≤ len ∧ len ≤ 4 ∧ Flow fl ∧ (fl = "jump" ∨ fl = "test" → 2 ≤ len) ∧ (i < 2 → len = 1 ∧ fl = endNext i)) ?_ ?_
        · walk_at "go"
          refine Vc.go_ite (fun h3 => ?_) (fun h3 => ?_)
          · walk_at "go"
            intro M2 nM2
            generalize hu12 : upd _ M2 _ = H12
            obtain ⟨e12, hM2⟩ := Vc.alloc hu12 nM2
            have ha : atI [V.str "end", .str "next"] (0 + (i : Int)) = some (.str (endNext i)) := by
              have : i = 0 ∨ i = 1 := by omega
              rcases this with e | e <;> subst e <;> rfl
            walk_at "go"
            have hen : endNext i = "end" ∨ endNext i = "next" := by
              have : i = 0 ∨ i = 1 := by omega
              rcases this with e | e <;> subst e
              · exact .inl rfl
              · exact .inr rfl
            refine ⟨_, _, rfl, by walk_at "ed", by omega, by omega, ?_, fun h => ?_, fun _ => ⟨rfl, rfl⟩⟩
            · rcases hen with e | e <;> rw [e]
              · exact .inr (.inr (.inr rfl))
              · exact .inl rfl
            · exfalso; rcases hen with e | e <;> rw [e] at h <;> rcases h with h | h <;> exact absurd h (by decide)
          · walk_at "go"
            exact ⟨_, _, rfl, e11, l1, l4, hfl, tw, fun h => by omega⟩
        clear e11 l1 l4 hfl tw hfa
        rintro σ' H12 ⟨len, fl, rfl, e12, l1, l4, hfl, tw, hen⟩
        have hT12 := hT10.ed0 e12
        have hB12 := hB10.ed0 e12
        have zt : (cutS ⟨cs.toArray⟩ none (some (s : Int))).length ≤ 7 := Nat.le_trans (cutS_length _ _ _) (by omega)
        have zd : (cutS ⟨cs.toArray⟩ (some (s : Int)) none).length ≤ 7 := Nat.le_trans (cutS_length _ _ _) (by omega)
        have ha : atI ("abcdefghijklmnopqrstuvwxyz" : Str).cps.toList (0 + (i : Int)) = some (LET.getD i 0) := by
          have := let_at (i := 0 + (i : Int)) (by omega) (by omega)
          rwa [show (0 + (i : Int)).toNat = i by omega] at this
        have z1 : (cutS ⟨cs.toArray⟩ none (some (s : Int))).length + (⟨#[LET.getD i 0]⟩ : Str).length ≤ 1000 := by
          have : (⟨#[LET.getD i 0]⟩ : Str).length = 1 := rfl
          omega
        have z2 : (cutS ⟨cs.toArray⟩ none (some (s : Int)) ++ (⟨#[LET.getD i 0]⟩ : Str)).length + (cutS ⟨cs.toArray⟩ (some (s : Int)) none).length ≤ 1000 := by
          have : (cutS ⟨cs.toArray⟩ none (some (s : Int)) ++ (⟨#[LET.getD i 0]⟩ : Str)).length = (cutS ⟨cs.toArray⟩ none (some (s : Int))).length + 1 := by
            show (_ ++ _ : Array Nat).size = _
            rw [Array.size_append]; rfl
          omega
        have kl : (kvsOf its).length ≤ 1000 := by rw [kvsOf_len]; omega
        have enm := nm_eq (cs := cs) (s := s) (j := i)
        have e12' : Vc.Ed [b] H H12 := by walk_at "ed"
        clear e12 hT10 hB10 e10'
        walk_at "go"
        intro tp ntp
        generalize hu13 : upd _ tp _ = H13
        obtain ⟨e13, ht13⟩ := Vc.alloc hu13 ntp
        have hT13 := hT12.ed0 e13
        have hf13 : H13 f = some (.dK (kvsOf its)) := hT13.ob
        walk_at "go"
        generalize hu14 : upd _ f _ = H14
        obtain ⟨e14, hf14⟩ := Vc.chg hu14 hf13
        rw [enm] at ht13
        rw [kvsOf_put (f := ⟨byte, nmOf cs s i, len, fl⟩) hn] at hf14
        have hB13 : Pen H13 b c _ := hB12.ed0 e13
        have nb' : b ≠ f := fun z => nfb z.symm
        have nc' : c ≠ f := fun z => nfc z.symm
        refine ⟨_, _, _, _, its ++ [(⟨byte, nmOf cs s i, len, fl⟩, tp)], rfl, (by walk_at "ed"), hB13.ed1 e14 nb' nc', ⟨hf14, fun p hp => ?_⟩, hD.put ⟨by rw [nm_len]; omega, by rw [nm_len]; omega, nm_let hc (by omega), l1, l4, hfl, tw⟩ ⟨b0, by show byte ≤ 255; omega, h1⟩ hn (by rw [li]), hG.put (fun h => by rw [li] at h ⊢; exact hen h), by rw [List.length_append, li]; rfl⟩
        refine e14.tup _ _ ?_
        rcases List.mem_append.mp hp with hp | hp
        · exact hT13.tp p hp
        · rw [List.mem_singleton.mp hp]; exact ht13
      · rintro σ H6 ⟨y7, y8, y9, y10, its, rfl, e6, hB6, hT6, hD, hG, li⟩
        have l16 : its.length ≤ 16 := by omega
        have l2 : 2 ≤ its.length := by omega
        clear hB5 hf5
        walk_at "go"
        intro t nt
        generalize hu7 : upd _ t _ = H7
        obtain ⟨e7, ht⟩ := Vc.alloc hu7 nt
        refine k t f its stop H7 (by walk_at "ed") ((hB6.ed0 e7).up (by omega)) nf0 ht (hT6.ed0 e7) l2 ⟨by rw [List.length_map]; omega, by rw [List.length_map]; exact l16, ?_, ?_, hD.ndb, ?_, s0, by omega⟩ hG
        · intro f' hf'
          obtain ⟨p, hp, rfl⟩ := List.mem_map.mp hf'
          exact hD.ok p hp
        · intro f' hf'
          obtain ⟨p, hp, rfl⟩ := List.mem_map.mp hf'
          exact hD.byt p hp
        · rw [hD.nms]; exact nm_nodup (by omega)
end

end My
namespace My
open PySem PySem.Spec PyProof.Rows L2
/-! ### a byte drawn; values drawn by the forms -/
theorem forms_at {its : List (FD × Addr)} {i : Int} (h0 : 0 ≤ i) (h1 : i < its.length) : ∃ p ∈ its, atI ((kvsOf its).map fun kv => kV kv.1) i = some (.int p.1.byte) := by
  refine ⟨its[i.toNat]'(by omega), List.getElem_mem _, at_of (j := i.toNat) (by omega) ?_⟩
  rw [List.getElem?_map]
  unfold kvsOf
  rw [List.getElem?_map, List.getElem?_eq_getElem (by omega)]; rfl
theorem ne_form {its : List (FD × Addr)} {H : Hp} {f b c : Addr} {n : Nat} (B : Pen H b c n) (h : TupsAt H f its) : f ≠ b := fun z => by
  obtain ⟨x, a, r, hb⟩ := B.lst
  have := h.ob; rw [z, hb] at this; cases this
def spByte : Sp := fun vs H Q _ => ∃ (b c : Addr) (n : Nat) (f : Addr) (its : List (FD × Addr)) (stop : Int), vs = [.ref b, .int stop, .ref f] ∧ Pen H b c n ∧ n + 3 ≤ LIM ∧ TupsAt H f its ∧ Valid stop (its.map (·.1)) ∧
  ∀ (v : Int) (H' : Hp), 0 ≤ v → v ≤ 255 → Vc.Ed [b] H H' → Pen H' b c (n + 3) → Q (.int v) H'
section
variable {P : Program} {w : World} {K : PySem.W.Frag} {mg : Str → Option Value} {base : Heap} {A : Ad}
theorem ok__law_byte (T : Txt K mg A) : FnOk P w K mg base CX0 2 A.f__law_byte A.d__law_byte ["_law_pen_here", "_law_stop", "_law_forms_here"] spByte := by
  have G__law_draw := ok__law_draw (P := P) (w := w) (base := base) T
  refine T.F__law_byte.ok sc__law_byte (fun vs H Q E h => ?_) (fun cdv Ar outer s H vs Q E hr h => ?_)
  · obtain ⟨b, c, n, f, its, stop, rfl, _⟩ := h
    rfl
  · obtain ⟨b, c, n, f, its, stop, rfl, hB, nl, hT, Va, k⟩ := h
    have nL : ∀ m : Nat, m ≤ n + 3 → m ≤ LIM := fun m h => by omega
    have l1 := Va.n1
    have l16 := Va.n16
    rw [List.length_map] at l1 l16
    have kl : (kvsOf its).length ≤ 16 := by rw [kvsOf_len]; exact l16
    have hf := hT.ob
    refine ⟨_, (pss_cons (ps_set (i := 3) sc__law_byte.nd rfl (Or.inl rfl) (pe_callTy (call_list_dK rfl) (by rfl) T.n_list (by decide +kernel) (pa_cons (pv 2) pa_nil))) (pss_one (ps_ret (pe_ix ix_list (pe_lst (pa_cons (pe_call G__law_draw (by exact hr.mono (by decide)) (by rfl) T.g__law_draw T.F__law_draw.kp T.b__law_draw .nil pass0 (pa_cons (pv 0) (pa_cons pe_int pa_nil))) (pa_cons (pv 1) (pa_cons (pe_ix ix_list (pv 3) (pe_call G__law_draw (by exact hr.mono (by decide)) (by rfl) T.g__law_draw T.F__law_draw.kp T.b__law_draw .nil pass0 (pa_cons (pv 0) (pa_cons (pe_callB call_len_seq (by rfl) T.n_len (by decide +kernel) (pa_cons (pv 3) pa_nil)) pa_nil))) (fun _ _ => rfl)) pa_nil)))) (pe_call G__law_draw (by exact hr.mono (by decide)) (by rfl) T.g__law_draw T.F__law_draw.kp T.b__law_draw .nil pass0 (pa_cons (pv 0) (pa_cons pe_int pa_nil))) (fun _ _ => rfl))))), ?_⟩
    walk_at "go"
    intro L nfL
    generalize hu1 : upd _ L _ = H1
    obtain ⟨e1, hL⟩ := Vc.alloc hu1 nfL
    have nb := (hB.fb nfL).1.symm
    walk_at "go"
    refine ⟨b, c, _, 256, rfl, hB.ed0 e1, nL _ (by omega), by omega, by omega, fun v H2 v0 v1 e2 hB2 => ?_⟩
    have hL2 := e2.at1 nb hL
    walk_at "go"
    rw [List.length_map, kvsOf_len]
    refine ⟨b, c, _, _, rfl, hB2, nL _ (by omega), by omega, by omega, fun i H3 i0 i1 e3 hB3 => ?_⟩
    have hL3 := e3.at1 nb hL2
    obtain ⟨p, hp, hi⟩ := forms_at i0 i1
    walk_at "go"
    intro M nM
    generalize hu4 : upd _ M _ = H4
    obtain ⟨e4, hM⟩ := Vc.alloc hu4 nM
    have nbM := (hB3.fb nM).1.symm
    walk_at "go"
    refine ⟨b, c, _, 3, rfl, hB3.ed0 e4, nL _ (by omega), by omega, by omega, fun j H5 j0 j1 e5 hB5 => ?_⟩
    have hM5 := e5.at1 nbM hM
    have hb := Va.byt p.1 (List.mem_map.mpr ⟨p, hp, rfl⟩)
    obtain ⟨y, y0, y1, hy⟩ : ∃ y : Int, 0 ≤ y ∧ y ≤ 255 ∧ atI [V.int v, .int stop, .int p.1.byte] j = some (.int y) := by
      have : j = 0 ∨ j = 1 ∨ j = 2 := by omega
      have s0 := Va.s0
      have s1 := Va.s1
      rcases this with e | e | e <;> subst e
      · exact ⟨v, v0, by omega, rfl⟩
      · exact ⟨stop, s0, s1, rfl⟩
      · exact ⟨_, hb.1, hb.2.1, rfl⟩
    walk_at "go"
    exact k y H5 y0 y1 (by walk_at "ed") hB5
end

end My
namespace My
open PySem PySem.Spec PyProof.Rows L2
/-! ### values filled: instruction after instruction -/
inductive Seg (fs : List FD) : List Int → Prop
  | nil : Seg fs []
  | cons {f : FD} {r t : List Int} (hf : f ∈ fs) (hl : ((r.length : Int) + 1) = f.len) (hr : ∀ x ∈ r, 0 ≤ x ∧ x ≤ 255) (ht : Seg fs t) : Seg fs (f.byte :: (r ++ t))
theorem Seg.app {fs : List FD} {a b : List Int} (h : Seg fs a) (k : Seg fs b) : Seg fs (a ++ b) := by
  induction h with
  | nil => exact k
  | cons hf hl hr _ ih => rw [List.cons_append, List.append_assoc]; exact .cons hf hl hr ih
theorem Seg.one {fs : List FD} {f : FD} {r : List Int} (hf : f ∈ fs) (hl : ((r.length : Int) + 1) = f.len) (hr : ∀ x ∈ r, 0 ≤ x ∧ x ≤ 255) : Seg fs (f.byte :: r) := by
  have := Seg.cons hf hl hr .nil
  rwa [List.append_nil] at this
theorem Seg.byt {fs : List FD} {a : List Int} (hb : ∀ f ∈ fs, 0 ≤ f.byte ∧ f.byte ≤ 255) (h : Seg fs a) : ∀ x ∈ a, 0 ≤ x ∧ x ≤ 255 := by
  induction h with
  | nil => intro x h; cases h
  | cons hf hl hr _ ih =>
    intro x hx
    rcases List.mem_cons.mp hx with e | hx
    · rw [e]; exact hb _ hf
    · rcases List.mem_append.mp hx with hx | hx
      · exact hr x hx
      · exact ih x hx
theorem keys_ints (its : List (FD × Addr)) : ((kvsOf its).map fun kv => kV kv.1) = (its.map fun p => p.1.byte).map V.int := by
  unfold kvsOf
  rw [List.map_map, List.map_map]; rfl
theorem Gen.two {its : List (FD × Addr)} (h : Gen its) (l : 2 ≤ its.length) : ∃ p q, its[0]? = some p ∧ its[1]? = some q ∧ p.1.len = 1 ∧ p.1.flow = ("end" : Str) ∧ q.1.len = 1 ∧ q.1.flow = ("next" : Str) := by
  have h0 := List.getElem?_eq_getElem (l := its) (i := 0) (by omega)
  have h1 := List.getElem?_eq_getElem (l := its) (i := 1) (by omega)
  exact ⟨_, _, h0, h1, (h 0 _ h0 (by omega)).1, (h 0 _ h0 (by omega)).2, (h 1 _ h1 (by omega)).1, (h 1 _ h1 (by omega)).2⟩
def byts (its : List (FD × Addr)) : List V := (its.map fun p => p.1.byte).map V.int
theorem byts_len {its : List (FD × Addr)} : (byts its).length = its.length := by unfold byts; rw [List.length_map, List.length_map]
theorem byts_at {its : List (FD × Addr)} {i : Nat} {v : V} (h : (byts its)[i]? = some v) : ∃ p, its[i]? = some p ∧ v = .int p.1.byte := by
  unfold byts at h
  rw [List.map_map, List.getElem?_map] at h
  cases e : its[i]? with
  | none => rw [e] at h; cases h
  | some p => rw [e] at h; injection h with h; exact ⟨p, rfl, h.symm⟩
theorem byts_put {its : List (FD × Addr)} {p : FD × Addr} : byts its ++ [.int p.1.byte] = byts (its ++ [p]) := by
  unfold byts; rw [List.map_append, List.map_append]; rfl
theorem byts_ix {its : List (FD × Addr)} {i : Int} (h0 : 0 ≤ i) (h1 : i < its.length) : ∃ p ∈ its, atI (byts its) i = some (.int p.1.byte) := by
  refine ⟨its[i.toNat]'(by omega), List.getElem_mem _, at_of (j := i.toNat) (by omega) ?_⟩
  unfold byts
  rw [List.getElem?_map, List.getElem?_map, List.getElem?_eq_getElem (by omega)]; rfl
def spFilled : Sp := fun vs H Q _ => ∃ (b c : Addr) (n : Nat) (f : Addr) (its : List (FD × Addr)) (stop room : Int), vs = [.ref b, .int stop, .ref f, .int room] ∧ Pen H b c n ∧ n + 800 ≤ LIM ∧ TupsAt H f its ∧ Valid stop (its.map (·.1)) ∧ Gen its ∧ 2 ≤ its.length ∧ 0 ≤ room ∧ room ≤ 23 ∧
  ∀ (L : Addr) (vals : List Int) (H' : Hp), H L = none → Vc.Ed [b] H H' → Pen H' b c (n + 800) → H' L = some (.lst (vals.map V.int)) → (vals.length : Int) = room → Seg (its.map (·.1)) vals → Q (.ref L) H'
section
variable {P : Program} {w : World} {K : PySem.W.Frag} {mg : Str → Option Value} {base : Heap} {A : Ad}
theorem ok__law_filled (T : Txt K mg A) : FnOk P w K mg base CX0 3 A.f__law_filled A.d__law_filled ["_law_pen_here", "_law_stop", "_law_forms_here", "_law_room"] spFilled := by
  have G__law_draw := ok__law_draw (P := P) (w := w) (base := base) T
  have G__law_byte := ok__law_byte (P := P) (w := w) (base := base) T
  refine T.F__law_filled.ok sc__law_filled (fun vs H Q E h => ?_) (fun cdv Ar outer s H vs Q E hr h => ?_)
  · obtain ⟨b, c, n, f, its, stop, room, rfl, _⟩ := h
    rfl
  · obtain ⟨b, c, n, f, its, stop, room, rfl, hB, nl, hT, Va, hG, l2, r0, r1, k⟩ := h
    have nL : ∀ m : Nat, m ≤ n + 800 → m ≤ LIM := fun m h => by omega
    have hu := hu_of hr
    have l16 := Va.n16
    rw [List.length_map] at l16
    have kl : (kvsOf its).length ≤ 16 := by rw [kvsOf_len]; exact l16
    have nfb := ne_form hB hT
    obtain ⟨p0, q0, hp0, hq0, p0l, p0f, q0l, q0f⟩ := hG.two l2
    refine ⟨_, (pss_cons (ps_set (i := 4) sc__law_filled.nd rfl (Or.inr rfl) (pe_lst pa_nil)) (pss_cons (ps_while PassesOwn.never (pt_cmpR op_lt (pe_callB call_len_seq (by rfl) T.n_len (by decide +kernel) (pa_cons (pv 4) pa_nil)) (pv 3) (nomark _)) (pss_cons (ps_setLc (i := 5) (own := [("_law_byte_here", 6)]) (g := gName 6) rfl sc__law_filled.nd rfl rfl (sw_true rfl rfl rfl (by decide +kernel)) (pi_list (pe_callTy (call_list_dK rfl) (by rfl) T.n_list (by decide +kernel) (pa_cons (pv 2) pa_nil))) (blkOk_by (own := [("_law_byte_here", 6)]) (N := ["_law_pen_here", "_law_stop", "_law_forms_here", "_law_room", "_law_found", "_law_some", "_law_byte_here", "_law_k"]) (sc := defScope s__law_filled) (by decide +kernel)) (fun _ _ _ _ _ => by exact (pg_name (i := 6) sc__law_filled.nd rfl (Or.inl rfl))) (fun _ _ _ _ _ => by (refine' Vc.blkT ?h ?q; (case h => exact pts_one (pt_cmpR op_le (pe_ix ix_tup (pe_dget (by exact hu) (pv 2) (pv 6) (fun _ _ => rfl)) pe_int (fun _ _ => rfl)) (pe_op op_sub (pv 3) (pe_callB call_len_seq (by rfl) T.n_len (by decide +kernel) (pa_cons (pv 4) pa_nil))) (nomark _))); (case q => first | exact rfl | (dsimp only; done) | (dsimp only; exact rfl)))) (fun _ _ _ _ _ => by (refine' Vc.blkE ?h ?q; (case h => exact (pv 6)); (case q => first | exact rfl | (dsimp only; done) | (dsimp only; exact rfl))))) (pss_cons (ps_setLc (i := 5) (own := [("_law_byte_here", 6)]) (g := gName 6) rfl sc__law_filled.nd rfl rfl (sw_true rfl rfl rfl (by decide +kernel)) (pi_list (pv 5)) (blkOk_by (own := [("_law_byte_here", 6)]) (N := ["_law_pen_here", "_law_stop", "_law_forms_here", "_law_room", "_law_found", "_law_some", "_law_byte_here", "_law_k"]) (sc := defScope s__law_filled) (by decide +kernel)) (fun _ _ _ _ _ => by exact (pg_name (i := 6) sc__law_filled.nd rfl (Or.inl rfl))) (fun _ _ _ _ _ => by (refine' Vc.blkT ?h ?q; (case h => exact pts_one (PW.pt (pw_or (pt_cmpR op_ne (pe_ix ix_tup (pe_dget (by exact hu) (pv 2) (pv 6) (fun _ _ => rfl)) pe_int (fun _ _ => rfl)) pe_str (nomark _)) (pw_or1 (pt_cmpR op_eq (pe_call G__law_draw (by exact hr.mono (by decide)) (by rfl) T.g__law_draw T.F__law_draw.kp T.b__law_draw .nil pass0 (pa_cons (pv 0) (pa_cons pe_int pa_nil))) pe_int (nomark _)))))); (case q => first | exact rfl | (dsimp only; done) | (dsimp only; exact rfl)))) (fun _ _ _ _ _ => by (refine' Vc.blkE ?h ?q; (case h => exact (pv 6)); (case q => first | exact rfl | (dsimp only; done) | (dsimp only; exact rfl))))) (pss_cons (ps_set (i := 6) sc__law_filled.nd rfl (Or.inl rfl) (pe_ix ix_list (pv 5) (pe_call G__law_draw (by exact hr.mono (by decide)) (by rfl) T.g__law_draw T.F__law_draw.kp T.b__law_draw .nil pass0 (pa_cons (pv 0) (pa_cons (pe_callB call_len_seq (by rfl) T.n_len (by decide +kernel) (pa_cons (pv 5) pa_nil)) pa_nil))) (fun _ _ => rfl))) (pss_one (ps_set (i := 4) sc__law_filled.nd rfl (Or.inr rfl) (pe_op op_cat (pe_op op_cat (pv 4) (pe_lst (pa_cons (pv 6) pa_nil))) (pe_lc (own := [("_law_k", 7)]) (g := gName 7) rfl sc__law_filled.nd (pi_range1 (by rfl) T.n_range (pa_cons (pe_op op_sub (pe_ix ix_tup (pe_dget (by exact hu) (pv 2) (pv 6) (fun _ _ => rfl)) pe_int (fun _ _ => rfl)) pe_int) pa_nil)) (blkOk_by (own := [("_law_k", 7)]) (N := ["_law_pen_here", "_law_stop", "_law_forms_here", "_law_room", "_law_found", "_law_some", "_law_byte_here", "_law_k"]) (sc := defScope s__law_filled) (by decide +kernel)) (fun _ _ _ _ _ => by exact (pg_name (i := 7) sc__law_filled.nd rfl (Or.inl rfl))) (fun _ _ _ _ _ => by exact pts_nil) (fun _ _ _ _ _ => by (refine' Vc.blkE ?h ?q; (case h => exact (pe_call G__law_byte (by exact hr.mono (by decide)) (by rfl) T.g__law_byte T.F__law_byte.kp T.b__law_byte .nil pass0 (pa_cons (pv 0) (pa_cons (pv 1) (pa_cons (pv 2) pa_nil))))); (case q => first | exact rfl | (dsimp only; done) | (dsimp only; exact rfl)))))))))))) (pss_one (ps_ret (pv 4))))), ?_⟩
    walk_at "go"
    intro L nfL
    generalize hu1 : upd _ L _ = H1
    obtain ⟨e1, hL⟩ := Vc.alloc hu1 nfL
    walk_at "go"
    refine ⟨fun m σ H' => ∃ L vals y5 y6 y7, σ = [some (.ref b), some (.int stop), some (.ref f), some (.int room), some (.ref L), y5, y6, y7] ∧ H L = none ∧ Vc.Ed [b] H H' ∧ Pen H' b c (n + 30 * vals.length) ∧ H' L = some (.lst (vals.map V.int)) ∧ (vals.length : Int) ≤ room ∧ Seg (its.map (·.1)) vals ∧ m = room.toNat - vals.length, ⟨_, L, [], none, none, none, rfl, nfL, by walk_at "ed", (hB.ed0 e1).up (Nat.le_add_right _ _), hL, r0, .nil, rfl⟩, ?_⟩
    rintro m σ H2 ⟨L, vals, y5, y6, y7, rfl, nL2, e2, hB2, hL2, lr, hS, rfl⟩
    clear hL e1 hu1 nfL
    have nLb := (hB.fb nL2).1.symm
    have hT2 := hT.ed1 e2 nfb
    have hf2 := hT2.ob
    walk_at "go"
    rw [List.length_map]
    refine Vc.go_ite (fun h1 => ?_) (fun h1 => ?_)
    rotate_left
    · walk_at "go"
      exact k L vals H2 nL2 e2 (hB2.up (by omega)) hL2 (by omega) hS
    walk_at "go"
    refine ⟨fun σ' H' => ∃ L' vals' y5 y6 y7, σ' = [some (.ref b), some (.int stop), some (.ref f), some (.int room), some (.ref L'), y5, y6, y7] ∧ H L' = none ∧ Vc.Ed [b] H H' ∧ Pen H' b c (n + 30 * vals'.length) ∧ H' L' = some (.lst (vals'.map V.int)) ∧ (vals'.length : Int) ≤ room ∧ Seg (its.map (·.1)) vals' ∧ vals.length < vals'.length, ?_, ?_⟩
    · rintro σ' H' ⟨L', vals', y5, y6, y7, rfl, a1, a2, a3, a4, a5, a6, a7⟩
      exact ⟨_, by omega, L', vals', y5, y6, y7, rfl, a1, a2, a3, a4, a5, a6, rfl⟩
    walk_at "go"
    intro M0 nM0
    generalize hu3 : upd _ M0 _ = H3
    obtain ⟨e3, hM0⟩ := Vc.alloc hu3 nM0
    rw [keys_ints] at hM0
    have hM0 : H3 M0 = some (.lst (byts its)) := hM0
    have hL3 := e3.at0 hL2
    have hT3 := hT2.ed0 e3
    have hB3 := hB2.ed0 e3
    have e3' : Vc.Ed [b] H H3 := by walk_at "ed"
    clear hT2 hf2
    walk_at "go"
    refine ⟨⟨_, .of hM0⟩, Vc.lc_by walk_list (fun D i H' => Vc.Ed [] H3 H' ∧ ∃ sel, H' D = some (.lst (byts sel)) ∧ sel.length ≤ i ∧ (∀ p ∈ sel, p ∈ its ∧ p.1.len ≤ room - vals.length) ∧ (2 ≤ i → q0 ∈ sel)) (fun D H4 nD e4 hD => ⟨e4, [], hD, Nat.le_refl _, (by intro p h; cases h), fun h => by omega⟩) (fun D i H4 _ _ p => .of (p.1.at0 hM0)) ?_ ?_⟩
    · rintro D i v H4 H5 nD hi ⟨e4, sel, hD, sl, hs, hq⟩ ⟨rfl, hx⟩
      obtain ⟨p, hpi, rfl⟩ := byts_at hx
      have hp : p ∈ its := List.mem_of_getElem? hpi
      have hv := kvsOf_val Va.ndb hp
      have ht := e4.at0 (hT3.tp p hp)
      have hf5 := e4.at0 hT3.ob
      have hL5 := e4.at0 hL3
      rw [byts_len] at hi
      walk_at "go"
      refine ⟨rfl, ?_⟩
      walk_at "go"
      rw [List.length_map]
      refine Vc.go_ite (fun g => ?_) (fun g => ?_)
      · walk_at "go"
        refine ⟨_, hD, by rw [byts_len]; exact small1000 (by omega), ?_⟩
        generalize hu6 : upd _ D _ = H6
        obtain ⟨e6, hD6⟩ := Vc.chg hu6 hD
        rw [byts_put] at hD6
        refine ⟨by walk_at "ed", sel ++ [p], hD6, by rw [List.length_append]; exact Nat.succ_le_succ sl, fun p' hp' => ?_, fun h => ?_⟩
        · rcases List.mem_append.mp hp' with h | h
          · exact hs p' h
          · rw [List.mem_singleton.mp h]; exact ⟨hp, g⟩
        · by_cases h2 : 2 ≤ i
          · exact List.mem_append_left _ (hq h2)
          · have : i = 1 := by omega
            subst this
            rw [hpi] at hq0
            injection hq0 with hq0
            rw [hq0]; exact List.mem_append_right _ (List.mem_singleton.mpr rfl)
      · refine ⟨e4, sel, hD, by omega, hs, fun h => ?_⟩
        by_cases h2 : 2 ≤ i
        · exact hq h2
        · have : i = 1 := by omega
          subst this
          rw [hpi] at hq0
          injection hq0 with hq0
          rw [hq0] at g; exact (g (by omega)).elim
    · rintro D H4 nD ⟨e4, sel, hD, sl, hs, hq⟩
      rw [byts_len] at sl hq
      have hq := hq l2
      have hT4 := hT3.ed0 e4
      have hB4 := hB3.ed0 e4
      have hL4 := e4.at0 hL3
      have e4' : Vc.Ed [b] H H4 := by walk_at "ed"
      have nDb := (hB3.fb nD).1.symm
      clear hM0 hu3 nM0 hT3 hL3 hB3 e3 e4 e3'
      walk_at "go"
      refine ⟨⟨_, .of hD⟩, Vc.lc_by walk_list (fun D' i H' => Vc.Ed [b] H4 H' ∧ Pen H' b c (n + 30 * vals.length + i) ∧ ∃ sel2, H' D' = some (.lst (byts sel2)) ∧ sel2.length ≤ i ∧ (∀ p ∈ sel2, p ∈ sel) ∧ (q0 ∈ sel.take i → q0 ∈ sel2)) (fun D' H5 nD' e5 hD' => ⟨by walk_at "ed", hB4.ed0 e5, [], hD', Nat.le_refl _, (by intro p h; cases h), fun h => by cases h⟩) (fun D' i H5 _ _ p => .of (p.1.at1 nDb hD)) ?_ ?_⟩
      · rintro D' i v H5 H6 nD' hi ⟨e5, hB5, sel2, hD', sl2, hs2, hq2⟩ ⟨rfl, hx⟩
        obtain ⟨p, hpi, rfl⟩ := byts_at hx
        have hp' : p ∈ sel := List.mem_of_getElem? hpi
        have hp := (hs p hp').1
        have hv := kvsOf_val Va.ndb hp
        have hT5 := hT4.ed1 e5 nfb
        have ht := hT5.tp p hp
        have hf5 := hT5.ob
        have nDb' := (hB4.fb nD').1.symm
        rw [byts_len] at hi
        have tk : q0 ∈ sel.take (i + 1) → q0 ∈ sel2 ∨ q0 = p := by
          rw [List.take_add_one, hpi]
          intro h
          rcases List.mem_append.mp h with h | h
          · exact .inl (hq2 h)
          · exact .inr (List.mem_singleton.mp h)
        have add : ∀ H9 m, Vc.Ed [b] H6 H9 → Pen H9 b c m → m ≤ n + 30 * vals.length + (i + 1) → H9 D' = some (.lst (byts sel2)) → ∃ acc, H9 D' = some (.lst acc) ∧ acc.length < sizeLine ∧ (Vc.Ed [b] H4 (upd H9 D' (.lst (acc ++ [.int p.1.byte]))) ∧ Pen (upd H9 D' (.lst (acc ++ [.int p.1.byte]))) b c (n + 30 * vals.length + (i + 1)) ∧ ∃ sel3, upd H9 D' (.lst (acc ++ [.int p.1.byte])) D' = some (.lst (byts sel3)) ∧ sel3.length ≤ i + 1 ∧ (∀ p ∈ sel3, p ∈ sel) ∧ (q0 ∈ sel.take (i + 1) → q0 ∈ sel3)) := by
          intro H9 m e9 hB9 lm hD9
          refine ⟨_, hD9, by rw [byts_len]; exact small1000 (by omega), ?_⟩
          generalize hu7 : upd _ D' _ = H7
          obtain ⟨e7, hD7⟩ := Vc.chg hu7 hD9
          rw [byts_put] at hD7
          refine ⟨by walk_at "ed", (hB9.ed1 e7 nDb'.symm (hB4.fb nD').2).up lm, sel2 ++ [p], hD7, by rw [List.length_append]; exact Nat.succ_le_succ sl2, fun p' hp'' => ?_, fun h => ?_⟩
          · rcases List.mem_append.mp hp'' with h | h
            · exact hs2 p' h
            · rw [List.mem_singleton.mp h]; exact hp'
          · rcases tk h with h | h
            · exact List.mem_append_left _ h
            · rw [h]; exact List.mem_append_right _ (List.mem_singleton.mpr rfl)
        walk_at "go"
        refine ⟨rfl, ?_⟩
        walk_at "go"
        refine Vc.go_iten (fun g => ?_) (fun g => ?_)
        · walk_at "go"
          exact add H6 _ .refl hB5 (by omega) hD'
        · walk_at "go"
          refine ⟨b, c, _, 4, rfl, hB5, nL _ (by omega), by omega, by omega, fun v H7 v0 v1 e7 hB7 => ?_⟩
          walk_at "go"
          refine Vc.go_ite (fun g2 => ?_) (fun g2 => ?_)
          · walk_at "go"
            exact add H7 _ e7 hB7 (by omega) (e7.at1 nDb' hD')
          · refine ⟨by walk_at "ed", hB7.up (by omega), sel2, e7.at1 nDb' hD', by omega, hs2, fun h => ?_⟩
            rcases tk h with h | h
            · exact h
            · exfalso; rw [h, g] at q0f; exact absurd q0f (by decide)
      · rintro D' H5 nD' ⟨e5, hB5, sel2, hD', sl2, hs2, hq2⟩
        rw [byts_len] at sl2 hq2 hB5
        have hq2 := hq2 (by rw [List.take_length]; exact hq)
        have sp : 1 ≤ sel2.length := List.length_pos_of_mem hq2
        have e5' : Vc.Ed [b] H H5 := by walk_at "ed"
        have hL5 := e5.at1 nLb hL4
        have hT5 := hT4.ed1 e5 nfb
        have hB5 := hB5.up (m := n + 30 * vals.length + 16) (by omega)
        have nDb' := (hB4.fb nD').1.symm
        clear e5 hL4 hT4 hB4 e4' hD nD hB2 e2 hL2
        walk_at "go"
        rw [byts_len]
        refine ⟨b, c, _, _, rfl, hB5, nL _ (by omega), by omega, by omega, fun i H6 i0 i1 e6 hB6 => ?_⟩
        obtain ⟨p, hp2, hpv⟩ := byts_ix i0 i1
        have hD6 := e6.at1 nDb' hD'
        have hL6 := e6.at1 nLb hL5
        have hT6 := hT5.ed1 e6 nfb
        have e6' : Vc.Ed [b] H H6 := by walk_at "ed"
        clear hT5 hL5
        walk_at "go"
        intro M nM
        generalize hu7 : upd _ M _ = H7
        obtain ⟨e7, hM⟩ := Vc.alloc hu7 nM
        have hL7 := e7.at0 hL6
        walk_at "go"
        refine Vc.go_cat hL7 hM (by rw [List.length_map]; show _ + 1 ≤ 1000; omega) fun R nR => ?_
        generalize hu8 : upd _ R _ = H8
        obtain ⟨e8, hR⟩ := Vc.alloc hu8 nR
        have hT8 := (hT6.ed0 e7).ed0 e8
        obtain ⟨hp, hpl⟩ := hs p (hs2 p hp2)
        have ok := Va.ok p.1 (List.mem_map.mpr ⟨p, hp, rfl⟩)
        have ok1 := ok.l1
        have ok4 := ok.l4
        have hv := kvsOf_val Va.ndb hp
        have hf8 := hT8.ob
        have ht8 := hT8.tp p hp
        have hB7 := hB6.ed0 e7
        have nRb := (hB7.fb nR).1.symm
        have hB8 := hB7.ed0 e8
        have e8' : Vc.Ed [b] H H8 := by walk_at "ed"
        have hR : H8 R = some (.lst ((vals ++ [p.1.byte]).map V.int)) := by rw [List.map_append]; exact hR
        clear hT6 hL6 hL7 hM e7 e8 hD6 hD' hB7
        walk_at "go"
        refine ⟨by omega, by omega, Vc.lc_by walk_range (fun X i H' => Vc.Ed [b] H8 H' ∧ Pen H' b c (n + 30 * vals.length + 17 + 3 * i) ∧ ∃ rs : List Int, rs.length = i ∧ (∀ x ∈ rs, 0 ≤ x ∧ x ≤ 255) ∧ H' X = some (.lst (rs.map V.int))) (fun X H9 nX e9 hX => ⟨by walk_at "ed", hB8.ed0 e9, [], rfl, (by intro x h; cases h), hX⟩) (fun _ _ _ _ _ _ => trivial) ?_ ?_⟩
        · rintro X i x H9 H10 nX hi ⟨e9, hB9, rs, lrs, hrs, hX⟩ ⟨rfl, rfl⟩
          walk_at "go"
          refine ⟨rfl, ?_⟩
          walk_at "go"
          refine ⟨b, c, _, f, its, stop, rfl, hB9, nL _ (by omega), hT8.ed1 e9 nfb, Va, fun v H11 v0 v1 e11 hB11 => ?_⟩
          have nXb := hB8.fb nX
          have hX11 := e11.at1 nXb.1.symm hX
          walk_at "go"
          refine ⟨_, hX11, by rw [List.length_map]; exact small1000 (by omega), ?_⟩
          generalize hu12 : upd _ X _ = H12
          obtain ⟨e12, hX12⟩ := Vc.chg hu12 hX11
          refine ⟨by walk_at "ed", (hB11.ed1 e12 nXb.1 nXb.2).up (by omega), rs ++ [v], by rw [List.length_append, lrs]; rfl, fun x hx => ?_, by rw [List.map_append]; exact hX12⟩
          rcases List.mem_append.mp hx with h | h
          · exact hrs x h
          · rw [List.mem_singleton.mp h]; exact ⟨v0, v1⟩
        · rintro X H9 nX ⟨e9, hB9, rs, lrs, hrs, hX⟩
          have hR9 := e9.at1 nRb hR
          walk_at "go"
          refine Vc.go_cat hR9 hX (by rw [List.length_map, List.length_map, List.length_append]; show _ + 1 + _ ≤ 1000; omega) fun R2 nR2 => ?_
          generalize hu10 : upd _ R2 _ = H10
          obtain ⟨e10, hR2⟩ := Vc.alloc hu10 nR2
          walk_at "go"
          refine ⟨R2, vals ++ (p.1.byte :: rs), _, _, _, rfl, ?_, by walk_at "ed", (hB9.ed0 e10).up ?_, ?_, ?_, hS.app (.one (List.mem_map.mpr ⟨p, hp, rfl⟩) (by omega) hrs), ?_⟩
          · have : H8 R2 = none := by walk_at "free"
            walk_at "free"
          · rw [List.length_append, List.length_cons]; omega
          · rw [hR2, ← List.map_append, List.append_assoc]; rfl
          · rw [List.length_append, List.length_cons]; omega
          · rw [List.length_append, List.length_cons]; omega
end

end My
namespace My
open PySem PySem.Spec PyProof.Rows L2
/-! ### places; goals aimed at; values laid -/
/-- the values, instruction by instruction, and where each begins -/
inductive Tile (fs : List FD) : Int → List Int → List Int → Prop
  | nil {off : Int} : Tile fs off [] []
  | cons {off : Int} {f : FD} {r t ps : List Int} (hf : f ∈ fs) (hl : ((r.length : Int) + 1) = f.len) (hr : ∀ x ∈ r, 0 ≤ x ∧ x ≤ 255) (ht : Tile fs (off + f.len) t ps) : Tile fs off (f.byte :: (r ++ t)) (off :: ps)
theorem Tile.seg {fs : List FD} {off : Int} {vals ps : List Int} (h : Tile fs off vals ps) : Seg fs vals := by
  induction h with
  | nil => exact .nil
  | cons hf hl hr _ ih => exact .cons hf hl hr ih
theorem Tile.ge {fs : List FD} (pos : ∀ f ∈ fs, 1 ≤ f.len) {off : Int} {vals ps : List Int} (h : Tile fs off vals ps) : ∀ p ∈ ps, off ≤ p := by
  induction h with
  | nil => intro p h; cases h
  | cons hf _ _ _ ih =>
    intro p hp
    rcases List.mem_cons.mp hp with e | hp
    · rw [e]; exact Int.le_refl _
    · have := ih p hp
      have := pos _ hf
      omega
/-- other values that begin alike -/
theorem Tile.like {fs : List FD} (pos : ∀ f ∈ fs, 1 ≤ f.len) {off : Int} {vals ps : List Int} (h : Tile fs off vals ps) : ∀ ws : List Int, ws.length = vals.length → (∀ x ∈ ws, 0 ≤ x ∧ x ≤ 255) → (∀ p ∈ ps, ws[(p - off).toNat]? = vals[(p - off).toNat]?) → Tile fs off ws ps := by
  induction h with
  | nil =>
    intro ws hl _ _
    rw [List.eq_nil_of_length_eq_zero hl]; exact .nil
  | @cons off f r t ps hf hl hr ht ih =>
    intro ws wl wb wp
    have h0 := wp off List.mem_cons_self
    rw [show (off - off).toNat = 0 by omega] at h0
    cases ws with
    | nil => cases h0
    | cons a rest =>
      have ea : a = f.byte := by injection h0
      subst ea
      have rl : rest.length = r.length + t.length := by
        rw [List.length_cons, List.length_cons, List.length_append] at wl
        omega
      have es : f.byte :: rest = f.byte :: (rest.take r.length ++ rest.drop r.length) := by rw [List.take_append_drop]
      rw [es]
      refine .cons hf (by rw [List.length_take, rl, Nat.min_eq_left (by omega)]; exact hl) (fun x hx => wb x (List.mem_cons_of_mem _ (List.mem_of_mem_take hx))) (ih _ (by rw [List.length_drop]; omega) (fun x hx => wb x (List.mem_cons_of_mem _ (List.mem_of_mem_drop hx))) fun p hp => ?_)
      have hge := ht.ge pos p hp
      have := wp p (List.mem_cons_of_mem _ hp)
      have e : (p - off).toNat = (p - (off + f.len)).toNat + r.length + 1 := by omega
      rw [e, List.getElem?_cons_succ, List.getElem?_cons_succ, List.getElem?_append_right (by omega), Nat.add_sub_cancel] at this
      rw [List.getElem?_drop, Nat.add_comm]; exact this
/-- where the instructions of the values begin -/
structure Places (fs : List FD) (vals ps : List Int) : Prop where
  at_ : ∀ p ∈ ps, 0 ≤ p ∧ ∃ f ∈ fs, vals[p.toNat]? = some f.byte ∧ p + f.len ≤ vals.length ∧ ∀ q ∈ ps, q ≤ p ∨ p + f.len ≤ q
  len : ps.length ≤ vals.length
  ne : 0 < vals.length → 0 < ps.length
  tile : Tile fs 0 vals ps
theorem Seg.inv {fs : List FD} {a : List Int} (h : Seg fs a) (l : 0 < a.length) : ∃ f r t, f ∈ fs ∧ a = f.byte :: (r ++ t) ∧ ((r.length : Int) + 1) = f.len ∧ Seg fs t ∧ ∀ x ∈ r, 0 ≤ x ∧ x ≤ 255 := by
  cases h with
  | nil => exact absurd l (Nat.lt_irrefl _)
  | cons hf hl hr ht => exact ⟨_, _, _, hf, rfl, hl, ht, hr⟩
theorem Pen.ne_ints {H : Hp} {b c v : Addr} {n : Nat} {ns : List Int} (B : Pen H b c n) (h : H v = some (.lst (ns.map V.int))) : v ≠ b := fun z => by
  obtain ⟨x, a, r, hb⟩ := B.lst
  rw [z, hb] at h
  cases ns with
  | nil => cases h
  | cons y l => cases h
def spPlaces (K : PySem.W.Frag) : Sp := fun vs H Q _ => ∃ (f v : Addr) (its : List (FD × Addr)) (stop : Int) (vals : List Int), vs = [.ref f, .ref v] ∧ TupsAt H f its ∧ Valid stop (its.map (·.1)) ∧ SqL K H v (vals.map V.int) ∧ Seg (its.map (·.1)) vals ∧ vals.length ≤ 24 ∧
  ∀ (L : Addr) (ps : List Int) (H' : Hp), H L = none → Vc.Ed [] H H' → H' L = some (.lst (ps.map V.int)) → Places (its.map (·.1)) vals ps → Q (.ref L) H'
section
variable {P : Program} {w : World} {K : PySem.W.Frag} {mg : Str → Option Value} {base : Heap} {A : Ad}
theorem ok__law_places (T : Txt K mg A) : FnOk P w K mg base CX0 1 A.f__law_places A.d__law_places ["_law_forms_here", "_law_values_here"] (spPlaces K) := by
  refine T.F__law_places.ok sc__law_places (fun vs H Q E h => ?_) (fun cdv Ar outer s H vs Q E hr h => ?_)
  · obtain ⟨f, v, its, stop, vals, rfl, _⟩ := h
    rfl
  · obtain ⟨f, v, its, stop, vals, rfl, hT, Va, hV, hS, l24, k⟩ := h
    have hu := hu_of hr
    refine ⟨_, (pss_cons (ps_set (i := 2) sc__law_places.nd rfl (Or.inl rfl) (pe_lst pa_nil)) (pss_cons (ps_set (i := 3) sc__law_places.nd rfl (Or.inl rfl) pe_int) (pss_cons (ps_while PassesOwn.never (pt_cmpR op_lt (pv 3) (pe_callB call_len_seq (by rfl) T.n_len (by decide +kernel) (pa_cons (pv 1) pa_nil)) (nomark _)) (pss_cons (ps_expr (pe_bm PySem.F.plainAttrs_list PySem.F.slot_list_append PySem.F.type_list_append mt_append (pv 2) (pa_cons (pv 3) pa_nil))) (pss_one (ps_set (i := 3) sc__law_places.nd rfl (Or.inl rfl) (pe_op op_add (pv 3) (pe_ix ix_tup (pe_dget (by exact hu) (pv 0) (pe_ix ix_list (pv 1) (pv 3) (fun _ _ => rfl)) (fun _ _ => rfl)) pe_int (fun _ _ => rfl))))))) (pss_one (ps_ret (pv 2)))))), ?_⟩
    walk_at "go"
    intro L nL
    generalize hu1 : upd _ L _ = H1
    obtain ⟨e1, hL⟩ := Vc.alloc hu1 nL
    walk_at "go"
    refine ⟨fun m σ H' => ∃ (ps pre suf : List Int), σ = [some (.ref f), some (.ref v), some (.ref L), some (.int pre.length)] ∧ Vc.Ed [] H H' ∧ H' L = some (.lst (ps.map V.int)) ∧ vals = pre ++ suf ∧ Seg (its.map (·.1)) suf ∧ (∀ p ∈ ps, 0 ≤ p ∧ ∃ f ∈ its.map (·.1), vals[p.toNat]? = some f.byte ∧ p + f.len ≤ pre.length ∧ ∀ q ∈ ps, q ≤ p ∨ p + f.len ≤ q) ∧ ps.length ≤ pre.length ∧ (0 < pre.length → 0 < ps.length) ∧ (∀ ps2, Tile (its.map (·.1)) pre.length suf ps2 → Tile (its.map (·.1)) 0 vals (ps ++ ps2)) ∧ m = suf.length, ⟨_, [], [], vals, rfl, e1, hL, rfl, hS, (by intro p h; cases h), Nat.le_refl _, (fun h => h), (fun _ h => h), rfl⟩, ?_⟩
    rintro m σ H2 ⟨ps, pre, suf, rfl, e2, hL2, hv, hS2, hP, pl, pn, hti, rfl⟩
    have hl : vals.length = pre.length + suf.length := by rw [hv, List.length_append]
    have hV2 := Vc.Ed.sql0 e2 hV
    walk_at "go"
    rw [List.length_map]
    refine Vc.go_ite (fun h1 => ?_) (fun h1 => ?_)
    rotate_left
    · walk_at "go"
      have sn : suf = [] := List.eq_nil_of_length_eq_zero (by omega)
      refine k L ps H2 nL e2 hL2 ⟨fun p hp => ?_, by omega, fun h => pn (by omega), by have := hti [] (by rw [sn]; exact .nil); rwa [List.append_nil] at this⟩
      obtain ⟨a, f', hf', b1, b2, b3⟩ := hP p hp
      exact ⟨a, f', hf', b1, by omega, b3⟩
    obtain ⟨f', r, t, hf', es, hl', hS3, hrb⟩ := hS2.inv (by omega)
    have hsl : suf.length = 1 + r.length + t.length := by rw [es, List.length_cons, List.length_append]; omega
    obtain ⟨p, hp, rfl⟩ := List.mem_map.mp hf'
    have hat : vals[pre.length]? = some p.1.byte := by rw [hv, es, List.getElem?_append_right (Nat.le_refl _), Nat.sub_self]; rfl
    have ha : atI (vals.map V.int) (pre.length : Int) = some (.int p.1.byte) := at_of (j := pre.length) rfl (by rw [List.getElem?_map, hat]; rfl)
    have hvv := kvsOf_val Va.ndb hp
    walk_at "go"
    refine ⟨fun σ' H' => ∃ (ps pre' suf' : List Int), σ' = [some (.ref f), some (.ref v), some (.ref L), some (.int (pre'.length : Nat))] ∧ Vc.Ed [] H H' ∧ H' L = some (.lst (ps.map V.int)) ∧ vals = pre' ++ suf' ∧ Seg (its.map (·.1)) suf' ∧ (∀ p ∈ ps, 0 ≤ p ∧ ∃ f ∈ its.map (·.1), vals[p.toNat]? = some f.byte ∧ p + f.len ≤ pre'.length ∧ ∀ q ∈ ps, q ≤ p ∨ p + f.len ≤ q) ∧ ps.length ≤ pre'.length ∧ (0 < pre'.length → 0 < ps.length) ∧ (∀ ps2, Tile (its.map (·.1)) pre'.length suf' ps2 → Tile (its.map (·.1)) 0 vals (ps ++ ps2)) ∧ suf'.length < suf.length, ?_, ?_⟩
    · rintro σ' H' ⟨ps', pre', suf', rfl, a1, a2, a3, a4, a5, a6, a7, a9, a8⟩
      exact ⟨_, a8, ps', pre', suf', rfl, a1, a2, a3, a4, a5, a6, a7, a9, rfl⟩
    walk_at "go"
    generalize hu3 : upd _ L _ = H3
    obtain ⟨e3, hL3⟩ := Vc.chg hu3 hL2
    have e3' : Vc.Ed [] H H3 := by walk_at "ed"
    have hV3 := Vc.Ed.sql0 e3' hV
    have hT3 := hT.ed0 e3'
    have hf3 := hT3.ob
    have ht3 := hT3.tp p hp
    clear e2 hL2 e3
    walk_at "go"
    have ok := Va.ok p.1 (List.mem_map.mpr ⟨p, hp, rfl⟩)
    have ok1 := ok.l1
    have ok4 := ok.l4
    walk_at "go"
    have epl : (pre.length : Int) + p.1.len = ((pre ++ p.1.byte :: r).length : Nat) := by rw [List.length_append, List.length_cons]; omega
    rw [epl]
    refine ⟨ps ++ [(pre.length : Int)], pre ++ p.1.byte :: r, t, rfl, e3', by rw [List.map_append]; exact hL3, by rw [hv, es]; simp, hS3, fun q hq => ?_, by simp only [List.length_append, List.length_cons, List.length_nil]; omega, fun _ => by simp only [List.length_append, List.length_cons, List.length_nil]; omega, fun ps2 h2 => ?_, by omega⟩
    rotate_left
    · rw [← epl] at h2
      have := hti ((pre.length : Int) :: ps2) (by rw [es]; exact .cons hf' hl' hrb h2)
      rw [List.append_assoc]; exact this
    rcases List.mem_append.mp hq with h | h
    · obtain ⟨a, g, hg, b1, b2, b3⟩ := hP q h
      refine ⟨a, g, hg, b1, by omega, fun x hx => ?_⟩
      rcases List.mem_append.mp hx with h | h
      · exact b3 x h
      · rw [List.mem_singleton.mp h]; exact .inr b2
    · rw [List.mem_singleton.mp h]
      refine ⟨by omega, p.1, List.mem_map.mpr ⟨p, hp, rfl⟩, by rw [Int.toNat_natCast]; exact hat, by omega, fun x hx => ?_⟩
      rcases List.mem_append.mp hx with h | h
      · obtain ⟨a, g, hg, b1, b2, b3⟩ := hP x h
        have := (Va.ok g hg).l1
        exact .inl (by omega)
      · rw [List.mem_singleton.mp h]; exact .inl (Int.le_refl _)
def spAimed (K : PySem.W.Frag) : Sp := fun vs H Q _ => ∃ (b c : Addr) (n : Nat) (f v P g : Addr) (its : List (FD × Addr)) (stop : Int) (vals ps qs gs : List Int) (lo : Bool), vs = [.ref b, .ref f, .ref v, .ref P, .ref g, .bl lo] ∧ Pen H b c n ∧ n + 80 ≤ LIM ∧ TupsAt H f its ∧ Valid stop (its.map (·.1)) ∧
  H v = some (.lst (vals.map V.int)) ∧ H P = some (.lst (ps.map V.int)) ∧ H g = some (.lst (gs.map V.int)) ∧ Places (its.map (·.1)) vals qs ∧ (∀ p ∈ ps, p ∈ qs) ∧ ps.length ≤ 24 ∧ vals.length ≤ 24 ∧ (∀ x ∈ vals, 0 ≤ x ∧ x ≤ 255) ∧ 0 < gs.length ∧ gs.length ≤ 1000 ∧ (∀ x ∈ gs, -1000 ≤ x ∧ x ≤ 1000) ∧
  ∀ (L : Addr) (ws : List Int) (H' : Hp), H L = none → Vc.Ed [b] H H' → Pen H' b c (n + 80) → H' L = some (.lst (ws.map V.int)) → ws.length = vals.length → (∀ x ∈ ws, 0 ≤ x ∧ x ≤ 255) → Tile (its.map (·.1)) 0 ws qs → Q (.ref L) H'
theorem ok__law_aimed (T : Txt K mg A) : FnOk P w K mg base CX0 2 A.f__law_aimed A.d__law_aimed ["_law_pen_here", "_law_forms_here", "_law_values_here", "_law_places_here", "_law_goals", "_law_loose"] (spAimed K) := by
  have G__law_draw := ok__law_draw (P := P) (w := w) (base := base) T
  refine T.F__law_aimed.ok sc__law_aimed (fun vs H Q E h => ?_) (fun cdv Ar outer s H vs Q E hr h => ?_)
  · obtain ⟨b, c, n, f, v, P, g, its, stop, vals, ps, qs, gs, lo, rfl, _⟩ := h
    rfl
  · obtain ⟨b, c, n, f, v, P, g, its, stop, vals, ps, qs, gs, lo, rfl, hB, nl, hT, Va, hV, hP, hG, pl, sub, pl24, l24, hby, g0, g1, hgs, k⟩ := h
    have nL : ∀ m : Nat, m ≤ n + 80 → m ≤ LIM := fun m h => by omega
    have hu := hu_of hr
    have nfb := ne_form hB hT
    have nvb := hB.ne_ints hV
    have nPb := hB.ne_ints hP
    have ngb := hB.ne_ints hG
    refine ⟨_, (pss_cons (ps_set (i := 6) sc__law_aimed.nd rfl (Or.inl rfl) (pe_callTy Vc.call_lstD (by rfl) T.n_list (by decide +kernel) (pa_cons (pv 2) pa_nil))) (pss_cons (ps_for PassesOwn.never rfl (pi_list (pv 3)) (pg_name (i := 7) sc__law_aimed.nd rfl (Or.inl rfl)) (pss_cons (ps_set (i := 8) sc__law_aimed.nd rfl (Or.inl rfl) (pe_op op_add (pv 7) (pe_ix ix_tup (pe_dget (by exact hu) (pv 1) (pe_ix ix_list (pv 6) (pv 7) (fun _ _ => rfl)) (fun _ _ => rfl)) pe_int (fun _ _ => rfl)))) (pss_one (ps_if (pt_cmpR op_in_seq (pe_ix ix_tup (pe_dget (by exact hu) (pv 1) (pe_ix ix_list (pv 6) (pv 7) (fun _ _ => rfl)) (fun _ _ => rfl)) pe_int (fun _ _ => rfl)) (pe_tup (pa_cons pe_str (pa_cons pe_str pa_nil))) (by rfl)) (pss_cons (ps_set (i := 9) sc__law_aimed.nd rfl (Or.inl rfl) (pe_ix ix_list (pv 4) (pe_call G__law_draw (by exact hr.mono (by decide)) (by rfl) T.g__law_draw T.F__law_draw.kp T.b__law_draw .nil pass0 (pa_cons (pv 0) (pa_cons (pe_callB call_len_seq (by rfl) T.n_len (by decide +kernel) (pa_cons (pv 4) pa_nil)) pa_nil))) (fun _ _ => rfl))) (Evl.pss_cut (ps_if (PW.pt (pw_and (pt_val (pv 5)) (pw_and1 (pt_cmpR op_eq (pe_call G__law_draw (by exact hr.mono (by decide)) (by rfl) T.g__law_draw T.F__law_draw.kp T.b__law_draw .nil pass0 (pa_cons (pv 0) (pa_cons pe_int pa_nil))) pe_int (nomark _))))) (pss_one (ps_set (i := 9) sc__law_aimed.nd rfl (Or.inl rfl) (pe_call G__law_draw (by exact hr.mono (by decide)) (by rfl) T.g__law_draw T.F__law_draw.kp T.b__law_draw .nil pass0 (pa_cons (pv 0) (pa_cons (pe_callB call_len_seq (by rfl) T.n_len (by decide +kernel) (pa_cons (pv 2) pa_nil)) pa_nil))))) pss_nil) (pss_one (ps_asg (pe_op op_mod (pe_callTy call_int1 (by rfl) T.n_int (by decide +kernel) (pa_cons (pe_op op_sub (pv 9) (pv 8)) pa_nil)) pe_int) (pg_sub (pv 6) (pe_op op_sub (pv 8) pe_int) set_list))))) pss_nil)))) (pss_one (ps_ret (pv 6))))), ?_⟩
    walk_at "go"
    intro L nfL
    generalize hu1 : upd _ L _ = H1
    obtain ⟨e1, hL⟩ := Vc.alloc hu1 nfL
    have nLb := (hB.fb nfL).1.symm
    have nLc := (hB.fb nfL).2.symm
    have hP1 := e1.at0 hP
    walk_at "go"
    refine ⟨⟨_, .of hP1⟩, for_list (xs := ps.map V.int) (fun i σ H' => ∃ (ws : List Int) (y7 y8 y9 : Option V), σ = [some (.ref b), some (.ref f), some (.ref v), some (.ref P), some (.ref g), some (.bl lo), some (.ref L), y7, y8, y9] ∧ Vc.Ed [b] H H' ∧ Pen H' b c (n + 3 * i) ∧ H' L = some (.lst (ws.map V.int)) ∧ ws.length = vals.length ∧ (∀ x ∈ ws, 0 ≤ x ∧ x ≤ 255) ∧ ∀ p ∈ qs, ws[p.toNat]? = vals[p.toNat]?) ⟨vals, none, none, none, rfl, by walk_at "ed", hB.ed0 e1, hL, rfl, hby, fun _ _ => rfl⟩ ?_ ?_ ?_⟩
    · rintro i σ H' _ ⟨_, _, _, _, _, e, _⟩
      exact .of (e.at1 nPb hP)
    · rintro i sp σ H2 hi ⟨ws, y7, y8, y9, rfl, e2, hB2, hL2, wl, wb, wp⟩
      rw [List.getElem?_map] at hi
      obtain ⟨p, hpi, rfl⟩ := Option.map_eq_some_iff.mp hi
      have hp : p ∈ qs := sub p (List.mem_of_getElem? hpi)
      have hip : i < ps.length := (List.getElem?_eq_some_iff.mp hpi).1
      obtain ⟨p0, f', hf', hat, hle, hq⟩ := pl.at_ p hp
      obtain ⟨q, hqi, rfl⟩ := List.mem_map.mp hf'
      have ok := Va.ok q.1 hf'
      have ok1 := ok.l1
      have ok4 := ok.l4
      have hat2 : atI (ws.map V.int) p = some (.int q.1.byte) := at_of (j := p.toNat) (by omega) (by rw [List.getElem?_map, wp p hp, hat]; rfl)
      have hv := kvsOf_val Va.ndb hqi
      have hT2 := hT.ed1 e2 nfb
      have hf2 := hT2.ob
      have ht2 := hT2.tp q hqi
      walk_at "go"
      intro M nM
      generalize hu3 : upd _ M _ = H3
      obtain ⟨e3, hM⟩ := Vc.alloc hu3 nM
      have hB3 := hB2.ed0 e3
      have hL3 := e3.at0 hL2
      have e3' : Vc.Ed [b] H H3 := by walk_at "ed"
      have hT3 := hT2.ed0 e3
      walk_at "go"
      rw [inV2]
      clear hM hu3 nM e2 hT2 hf2 ht2 hL2 hB2 hL e1 hu1 hP1 e3
      refine Vc.go_ite (fun h1 => ?_) (fun h1 => ?_)
      rotate_left
      · walk_at "go"
        exact ⟨ws, _, _, _, rfl, e3', hB3.up (by omega), hL3, wl, wb, wp⟩
      have two := ok.two h1
      have hG3 := e3'.at1 ngb hG
      walk_at "go"
      rw [List.length_map]
      refine ⟨b, c, _, _, rfl, hB3, nL _ (by omega), by omega, by omega, fun j H4 j0 j1 e4 hB4 => ?_⟩
      obtain ⟨x, hx, hxa⟩ := at_ints j0 j1
      have hx := hgs x hx
      have hL4 := e4.at1 nLb hL3
      have hG4 := e4.at1 ngb hG3
      have e4' : Vc.Ed [b] H H4 := by walk_at "ed"
      have hV4 := e4'.at1 nvb hV
      clear hL3 hG3 e4 e3' hT3 hB3
      walk_at "go"
      refine Evl.q_cut (M := fun σ' H' => ∃ y : Int, σ' = [some (.ref b), some (.ref f), some (.ref v), some (.ref P), some (.ref g), some (.bl lo), some (.ref L), some (.int p), some (.int (p + q.1.len)), some (.int y)] ∧ Vc.Ed [b] H4 H' ∧ Pen H' b c (n + 3 * i + 3) ∧ -1000 ≤ y ∧ y ≤ 1000) ?_ ?_
      · walk_at "go"
        have rest : ∀ H5, Vc.Ed [b] H4 H5 → Pen H5 b c (n + 3 * i + 3) → ∃ y : Int, [some (V.ref b), some (.ref f), some (.ref v), some (.ref P), some (.ref g), some (.bl lo), some (.ref L), some (.int p), some (.int (p + q.1.len)), some (.int x)] = [some (.ref b), some (.ref f), some (.ref v), some (.ref P), some (.ref g), some (.bl lo), some (.ref L), some (.int p), some (.int (p + q.1.len)), some (.int y)] ∧ Vc.Ed [b] H4 H5 ∧ Pen H5 b c (n + 3 * i + 3) ∧ -1000 ≤ y ∧ y ≤ 1000 := fun H5 e5 hB5 => ⟨x, rfl, e5, hB5, hx.1, hx.2⟩
        refine Vc.go_iteb (fun h2 => ?_) (fun h2 => ?_)
        rotate_left
        · walk_at "go"
          exact rest H4 .refl (hB4.up (by omega))
        walk_at "go"
        refine ⟨b, c, _, 4, rfl, hB4, nL _ (by omega), by omega, by omega, fun j H5 j0 j1 e5 hB5 => ?_⟩
        walk_at "go"
        refine Vc.go_ite (fun h3 => ?_) (fun h3 => ?_)
        rotate_left
        · walk_at "go"
          exact rest H5 e5 (hB5.up (by omega))
        have hV5 := e5.at1 nvb hV4
        walk_at "go"
        rw [List.length_map]
        have vp : 0 < vals.length := by omega
        refine ⟨b, c, _, _, rfl, hB5, nL _ (by omega), by omega, by omega, fun j H6 j0 j1 e6 hB6 => ?_⟩
        walk_at "go"
        exact ⟨j, rfl, by walk_at "ed", hB6, by omega, by omega⟩
      rintro σ' H5 ⟨y, rfl, e5, hB5, y0, y1⟩
      have hL5 := e5.at1 nLb hL4
      have e5' : Vc.Ed [b] H H5 := by walk_at "ed"
      clear hL4 hG4 hV4 e5 hB4
      walk_at "go"
      refine Vc.go_setL hL5 (j := (p + q.1.len - 1).toNat) ?_ ?_
      · unfold ixN
        rw [List.length_map, if_pos (by omega), if_pos (by omega)]
      generalize hu6 : upd _ L _ = H6
      obtain ⟨e6, hL6⟩ := Vc.chg hu6 hL5
      rw [show ∀ z : Int, (ws.map V.int).set (p + q.1.len - 1).toNat (.int z) = (ws.set (p + q.1.len - 1).toNat z).map V.int from fun z => (List.map_set ..).symm] at hL6
      walk_at "go"
      refine ⟨_, _, _, _, rfl, by walk_at "ed", (hB5.ed1 e6 nLb.symm nLc.symm).up (by omega), hL6, by rw [List.length_set]; exact wl, fun z hz => ?_, fun p' hp' => ?_⟩
      · rcases List.mem_or_eq_of_mem_set hz with h | h
        · exact wb z h
        · rw [h]; exact ⟨Int.emod_nonneg _ (by omega), by have := Int.emod_lt_of_pos (y - (p + q.1.len)) (show (0 : Int) < 256 by omega); omega⟩
      · rw [List.getElem?_set_ne, wp p' hp']
        have := hq p' hp'
        have := (pl.at_ p' hp').1
        omega
    · rintro σ H2 ⟨ws, y7, y8, y9, rfl, e2, hB2, hL2, wl, wb, wp⟩
      walk_at "go"
      exact k L ws H2 nfL e2 (hB2.up (by rw [List.length_map]; omega)) hL2 wl wb (pl.tile.like (fun f hf => (Va.ok f hf).l1) ws wl wb fun p hp => by rw [Int.sub_zero]; exact wp p hp)
end

end My
namespace My
open PySem PySem.Spec PyProof.Rows L2
/-! ### values laid -/
def spLaid : Sp := fun vs H Q _ => ∃ (b c : Addr) (n : Nat) (f : Addr) (its : List (FD × Addr)) (stop size : Int) (lo : Bool), vs = [.ref b, .int stop, .ref f, .int size, .bl lo] ∧ Pen H b c n ∧ n + 900 ≤ LIM ∧ TupsAt H f its ∧ Valid stop (its.map (·.1)) ∧ Gen its ∧ 2 ≤ its.length ∧ 1 ≤ size ∧ size ≤ 24 ∧
  ∀ (L : Addr) (ws : List Int) (H' : Hp), H L = none → Vc.Ed [b] H H' → Pen H' b c (n + 900) → H' L = some (.lst (ws.map V.int)) → (ws.length : Int) = size → (∀ x ∈ ws, 0 ≤ x ∧ x ≤ 255) → Seg (its.map (·.1)) ws → Q (.ref L) H'
section
variable {P : Program} {w : World} {K : PySem.W.Frag} {mg : Str → Option Value} {base : Heap} {A : Ad}
theorem ok__law_laid (T : Txt K mg A) : FnOk P w K mg base CX0 4 A.f__law_laid A.d__law_laid ["_law_pen_here", "_law_stop", "_law_forms_here", "_law_size", "_law_loose"] spLaid := by
  have G__law_filled := ok__law_filled (P := P) (w := w) (base := base) T
  have G__law_places := ok__law_places (P := P) (w := w) (base := base) T
  have G__law_aimed := ok__law_aimed (P := P) (w := w) (base := base) T
  refine T.F__law_laid.ok sc__law_laid (fun vs H Q E h => ?_) (fun cdv Ar outer s H vs Q E hr h => ?_)
  · obtain ⟨b, c, n, f, its, stop, size, lo, rfl, _⟩ := h
    rfl
  · obtain ⟨b, c, n, f, its, stop, size, lo, rfl, hB, nl, hT, Va, hG, l2, s0, s1, k⟩ := h
    have nL : ∀ m : Nat, m ≤ n + 900 → m ≤ LIM := fun m h => by omega
    have hu := hu_of hr
    have nfb := ne_form hB hT
    have l16 := Va.n16
    rw [List.length_map] at l16
    have kl : (kvsOf its).length ≤ 16 := by rw [kvsOf_len]; exact l16
    obtain ⟨p0, q0, hp0, hq0, p0l, p0f, q0l, q0f⟩ := hG.two l2
    refine ⟨_, (pss_cons (ps_set (i := 5) sc__law_laid.nd rfl (Or.inl rfl) (pe_op op_cat (pe_call G__law_filled (by exact hr.mono (by decide)) (by rfl) T.g__law_filled T.F__law_filled.kp T.b__law_filled .nil pass0 (pa_cons (pv 0) (pa_cons (pv 1) (pa_cons (pv 2) (pa_cons (pe_op op_sub (pv 3) pe_int) pa_nil))))) (pe_slice sl_list (pe_callTy (call_list_dK rfl) (by rfl) T.n_list (by decide +kernel) (pa_cons (pv 2) pa_nil)) po_none (po_some pe_int)))) (pss_cons (ps_set (i := 6) sc__law_laid.nd rfl (Or.inl rfl) (pe_call G__law_places (by exact hr.mono (by decide)) (by rfl) T.g__law_places T.F__law_places.kp T.b__law_places .nil pass0 (pa_cons (pv 2) (pa_cons (pv 5) pa_nil)))) (pss_one (ps_ret (pe_call G__law_aimed (by exact hr.mono (by decide)) (by rfl) T.g__law_aimed T.F__law_aimed.kp T.b__law_aimed .nil pass0 (pa_cons (pv 0) (pa_cons (pv 2) (pa_cons (pv 5) (pa_cons (pv 6) (pa_cons (pv 6) (pa_cons (pv 4) pa_nil))))))))))), ?_⟩
    walk_at "go"
    refine ⟨b, c, _, f, its, stop, _, rfl, hB, nL _ (by omega), hT, Va, hG, l2, by omega, by omega, fun L vals H1 nL1 e1 hB1 hL1 lv hS => ?_⟩
    have hT1 := hT.ed1 e1 nfb
    have hf1 := hT1.ob
    walk_at "go"
    intro M nM
    generalize hu2 : upd _ M _ = H2
    obtain ⟨e2, hM⟩ := Vc.alloc hu2 nM
    rw [keys_ints] at hM
    walk_at "go"
    intro S nS
    generalize hu3 : upd _ S _ = H3
    obtain ⟨e3, hS3⟩ := Vc.alloc hu3 nS
    have ct : cutV ((its.map fun p => p.1.byte).map V.int) none (some 1) = [V.int p0.1.byte] := by
      refine (Vc.cut_take _ 1).trans ?_
      cases its with
      | nil => cases hp0
      | cons x r => injection hp0 with hp0; rw [← hp0]; rfl
    rw [ct] at hS3
    have hL3 := e3.at0 (e2.at0 hL1)
    have hB3 := (hB1.ed0 e2).ed0 e3
    have hT3 := (hT1.ed0 e2).ed0 e3
    have e3' : Vc.Ed [b] H H3 := by walk_at "ed"
    clear hM hT1 hf1 hL1 e1 e2 e3 hB1
    walk_at "go"
    refine Vc.go_cat hL3 hS3 (by rw [List.length_map]; show _ + 1 ≤ 1000; omega) fun R nR => ?_
    generalize hu4 : upd _ R _ = H4
    obtain ⟨e4, hR⟩ := Vc.alloc hu4 nR
    have hR : H4 R = some (.lst ((vals ++ [p0.1.byte]).map V.int)) := by rw [List.map_append]; exact hR
    have hp0m : p0.1 ∈ its.map (·.1) := List.mem_map.mpr ⟨p0, List.mem_of_getElem? hp0, rfl⟩
    have hSv : Seg (its.map (·.1)) (vals ++ [p0.1.byte]) := hS.app (.one hp0m (by rw [p0l]; rfl) (by intro x h; cases h))
    have lv2 : (vals ++ [p0.1.byte]).length = vals.length + 1 := by rw [List.length_append]; rfl
    have hT4 := hT3.ed0 e4
    have hB4 := hB3.ed0 e4
    walk_at "go"
    refine ⟨f, R, its, stop, vals ++ [p0.1.byte], rfl, hT4, Va, .of hR, hSv, by omega, fun Z ps H5 nZ e5 hZ hP => ?_⟩
    have hR5 := e5.at0 hR
    walk_at "go"
    refine ⟨b, c, _, f, R, Z, Z, its, stop, vals ++ [p0.1.byte], ps, ps, ps, lo, rfl, hB4.ed0 e5, nL _ (by omega), hT4.ed0 e5, Va, hR5, hZ, hZ, hP, (fun _ h => h), by have := hP.len; omega, by omega, hSv.byt (fun x hx => ⟨(Va.byt x hx).1, (Va.byt x hx).2.1⟩), hP.ne (by omega), by have := hP.len; omega, fun x hx => ?_, fun X ws H6 nX e6 hB6 hX wl wb hti => ?_⟩
    · obtain ⟨a, f', hf', _, b2, _⟩ := hP.at_ x hx
      have := (Va.ok f' hf').l1
      omega
    · refine k X ws H6 ?_ (by walk_at "ed") (hB6.up (by omega)) hX (by omega) wb hti.seg
      walk_at "free"
end

end My
namespace My
open PySem PySem.Spec PyProof.Rows L2
/-! ### values drawn -/
def spValues : Sp := fun vs H Q _ => ∃ (b c : Addr) (n : Nat) (f : Addr) (its : List (FD × Addr)) (stop : Int), vs = [.ref b, .int stop, .ref f] ∧ Pen H b c n ∧ n + 1000 ≤ LIM ∧ TupsAt H f its ∧ Valid stop (its.map (·.1)) ∧ Gen its ∧ 2 ≤ its.length ∧
  ∀ (L : Addr) (ws : List Int) (H' : Hp), H L = none → Vc.Ed [b] H H' → Pen H' b c (n + 1000) → H' L = some (.lst (ws.map V.int)) → 1 ≤ ws.length → ws.length ≤ 24 → (∀ x ∈ ws, 0 ≤ x ∧ x ≤ 255) → Q (.ref L) H'
section
variable {P : Program} {w : World} {K : PySem.W.Frag} {mg : Str → Option Value} {base : Heap} {A : Ad}
theorem ok__law_values (T : Txt K mg A) : FnOk P w K mg base CX0 5 A.f__law_values A.d__law_values ["_law_pen_here", "_law_stop", "_law_forms_here"] spValues := by
  have G__law_draw := ok__law_draw (P := P) (w := w) (base := base) T
  have G__law_byte := ok__law_byte (P := P) (w := w) (base := base) T
  have G__law_laid := ok__law_laid (P := P) (w := w) (base := base) T
  refine T.F__law_values.ok sc__law_values (fun vs H Q E h => ?_) (fun cdv Ar outer s H vs Q E hr h => ?_)
  · obtain ⟨b, c, n, f, its, stop, rfl, _⟩ := h
    rfl
  · obtain ⟨b, c, n, f, its, stop, rfl, hB, nl, hT, Va, hG, l2, k⟩ := h
    have nL : ∀ m : Nat, m ≤ n + 1000 → m ≤ LIM := fun m h => by omega
    have hu := hu_of hr
    have nfb := ne_form hB hT
    refine ⟨_, (pss_cons (ps_set (i := 3) sc__law_values.nd rfl (Or.inl rfl) (pe_ix ix_list (pe_lst (pa_cons (pe_op op_add pe_int (pe_call G__law_draw (by exact hr.mono (by decide)) (by rfl) T.g__law_draw T.F__law_draw.kp T.b__law_draw .nil pass0 (pa_cons (pv 0) (pa_cons pe_int pa_nil)))) (pa_cons pe_int (pa_cons (pe_op op_add pe_int (pe_call G__law_draw (by exact hr.mono (by decide)) (by rfl) T.g__law_draw T.F__law_draw.kp T.b__law_draw .nil pass0 (pa_cons (pv 0) (pa_cons pe_int pa_nil)))) pa_nil)))) (pe_call G__law_draw (by exact hr.mono (by decide)) (by rfl) T.g__law_draw T.F__law_draw.kp T.b__law_draw .nil pass0 (pa_cons (pv 0) (pa_cons pe_int pa_nil))) (fun _ _ => rfl))) (pss_cons (ps_set (i := 4) sc__law_values.nd rfl (Or.inl rfl) (pe_call G__law_draw (by exact hr.mono (by decide)) (by rfl) T.g__law_draw T.F__law_draw.kp T.b__law_draw .nil pass0 (pa_cons (pv 0) (pa_cons pe_int pa_nil)))) (pss_cons (ps_if (pt_cmpR op_eq (pv 4) pe_int (nomark _)) (pss_one (ps_ret (pe_lc (own := [("_law_k", 6)]) (g := gName 6) rfl sc__law_values.nd (pi_range1 (by rfl) T.n_range (pa_cons (pv 3) pa_nil)) (blkOk_by (own := [("_law_k", 6)]) (N := ["_law_pen_here", "_law_stop", "_law_forms_here", "_law_size", "_law_way", "_law_found", "_law_k"]) (sc := defScope s__law_values) (by decide +kernel)) (fun _ _ _ _ _ => by exact (pg_name (i := 6) sc__law_values.nd rfl (Or.inl rfl))) (fun _ _ _ _ _ => by exact pts_nil) (fun _ _ _ _ _ => by (refine' Vc.blkE ?h ?q; (case h => exact (pe_call G__law_byte (by exact hr.mono (by decide)) (by rfl) T.g__law_byte T.F__law_byte.kp T.b__law_byte .nil pass0 (pa_cons (pv 0) (pa_cons (pv 1) (pa_cons (pv 2) pa_nil))))); (case q => first | exact rfl | (dsimp only; done) | (dsimp only; exact rfl))))))) pss_nil) (pss_cons (ps_set (i := 5) sc__law_values.nd rfl (Or.inl rfl) (pe_call G__law_laid (by exact hr.mono (by decide)) (by rfl) T.g__law_laid T.F__law_laid.kp T.b__law_laid .nil pass0 (pa_cons (pv 0) (pa_cons (pv 1) (pa_cons (pv 2) (pa_cons (pv 3) (pa_cons (pe_cmpR op_eq (pe_call G__law_draw (by exact hr.mono (by decide)) (by rfl) T.g__law_draw T.F__law_draw.kp T.b__law_draw .nil pass0 (pa_cons (pv 0) (pa_cons pe_int pa_nil))) pe_int (nomark _)) pa_nil))))))) (pss_cons (ps_for PassesOwn.never rfl (pi_range1 (by rfl) T.n_range (pa_cons (pe_ix ix_list (pe_lst (pa_cons pe_int (pa_cons pe_int (pa_cons (pe_op op_add pe_int (pe_call G__law_draw (by exact hr.mono (by decide)) (by rfl) T.g__law_draw T.F__law_draw.kp T.b__law_draw .nil pass0 (pa_cons (pv 0) (pa_cons pe_int pa_nil)))) pa_nil)))) (pe_op op_sub (pv 4) pe_int) (fun _ _ => rfl)) pa_nil)) (pg_name (i := 6) sc__law_values.nd rfl (Or.inl rfl)) (pss_one (ps_asg (pe_call G__law_byte (by exact hr.mono (by decide)) (by rfl) T.g__law_byte T.F__law_byte.kp T.b__law_byte .nil pass0 (pa_cons (pv 0) (pa_cons (pv 1) (pa_cons (pv 2) pa_nil)))) (pg_sub (pv 5) (pe_call G__law_draw (by exact hr.mono (by decide)) (by rfl) T.g__law_draw T.F__law_draw.kp T.b__law_draw .nil pass0 (pa_cons (pv 0) (pa_cons (pv 3) pa_nil))) set_list)))) (pss_one (ps_ret (pv 5)))))))), ?_⟩
    walk_at "go"
    refine ⟨b, c, _, 24, rfl, hB, nL _ (by omega), by omega, by omega, fun i1 H1 a0 a1 e1 hB1 => ?_⟩
    walk_at "go"
    refine ⟨b, c, _, 8, rfl, hB1, nL _ (by omega), by omega, by omega, fun i2 H2 b0 b1 e2 hB2 => ?_⟩
    walk_at "go"
    intro M nM
    generalize hu3 : upd _ M _ = H3
    obtain ⟨e3, hM⟩ := Vc.alloc hu3 nM
    have nMb := (hB2.fb nM).1.symm
    walk_at "go"
    refine ⟨b, c, _, 3, rfl, hB2.ed0 e3, nL _ (by omega), by omega, by omega, fun i3 H4 c0 c1 e4 hB4 => ?_⟩
    have hM4 := e4.at1 nMb hM
    obtain ⟨size, z1, z24, hsz⟩ : ∃ z : Int, 1 ≤ z ∧ z ≤ 24 ∧ atI [V.int (1 + i1), .int 24, .int (2 + i2)] i3 = some (.int z) := by
      have : i3 = 0 ∨ i3 = 1 ∨ i3 = 2 := by omega
      rcases this with e | e | e <;> subst e
      · exact ⟨1 + i1, by omega, by omega, rfl⟩
      · exact ⟨24, by omega, by omega, rfl⟩
      · exact ⟨2 + i2, by omega, by omega, rfl⟩
    walk_at "go"
    refine ⟨b, c, _, 4, rfl, hB4, nL _ (by omega), by omega, by omega, fun way H5 w0 w1 e5 hB5 => ?_⟩
    have e5' : Vc.Ed [b] H H5 := by walk_at "ed"
    have hB5 := hB5.up (m := n + 4) (by omega)
    clear hM hM4 e1 e2 e3 e4 e5 hB1 hB2 hB4 hsz nM hu3
    have hT5 := hT.ed1 e5' nfb
    walk_at "go"
    refine Vc.go_ite (fun h1 => ?_) (fun h1 => ?_)
    · walk_at "go"
      refine ⟨by omega, by omega, Vc.lc_by walk_range (fun X i H' => Vc.Ed [b] H5 H' ∧ Pen H' b c (n + 4 + 3 * i) ∧ ∃ rs : List Int, rs.length = i ∧ (∀ x ∈ rs, 0 ≤ x ∧ x ≤ 255) ∧ H' X = some (.lst (rs.map V.int))) (fun X H9 nX e9 hX => ⟨by walk_at "ed", hB5.ed0 e9, [], rfl, (by intro x h; cases h), hX⟩) (fun _ _ _ _ _ _ => trivial) ?_ ?_⟩
      · rintro X i x H9 H10 nX hi ⟨e9, hB9, rs, lrs, hrs, hX⟩ ⟨rfl, rfl⟩
        walk_at "go"
        refine ⟨rfl, ?_⟩
        walk_at "go"
        refine ⟨b, c, _, f, its, stop, rfl, hB9, nL _ (by omega), hT5.ed1 e9 nfb, Va, fun v H11 v0 v1 e11 hB11 => ?_⟩
        have nXb := hB5.fb nX
        have hX11 := e11.at1 nXb.1.symm hX
        walk_at "go"
        refine ⟨_, hX11, by rw [List.length_map]; exact small1000 (by omega), ?_⟩
        generalize hu12 : upd _ X _ = H12
        obtain ⟨e12, hX12⟩ := Vc.chg hu12 hX11
        refine ⟨by walk_at "ed", (hB11.ed1 e12 nXb.1 nXb.2).up (by omega), rs ++ [v], by rw [List.length_append, lrs]; rfl, fun x hx => ?_, by rw [List.map_append]; exact hX12⟩
        rcases List.mem_append.mp hx with h | h
        · exact hrs x h
        · rw [List.mem_singleton.mp h]; exact ⟨v0, v1⟩
      · rintro X H9 nX ⟨e9, hB9, rs, lrs, hrs, hX⟩
        walk_at "go"
        exact k X rs H9 (by walk_at "free") (by walk_at "ed") (hB9.up (by omega)) hX (by omega) (by omega) hrs
    walk_at "go"
    refine ⟨b, c, _, 2, rfl, hB5, nL _ (by omega), by omega, by omega, fun i6 H6 d0 d1 e6 hB6 => ?_⟩
    walk_at "go"
    have e6' : Vc.Ed [b] H H6 := by walk_at "ed"
    have hT6 := hT.ed1 e6' nfb
    refine ⟨b, c, _, f, its, stop, size, _, rfl, hB6, nL _ (by omega), hT6, Va, hG, l2, z1, z24, fun L ws H7 nL7 e7 hB7 hL7 wl wb _ => ?_⟩
    have e7' : Vc.Ed [b] H H7 := by walk_at "ed"
    have nL0 : H L = none := e6'.dom _ nL7
    clear e5' e6 e6' e7 hT5 hT6 hB5 hB6
    walk_at "go"
    refine ⟨b, c, _, 3, rfl, hB7, nL _ (by omega), by omega, by omega, fun i8 H8 g0 g1 e8 hB8 => ?_⟩
    have nLb := hB.fb nL0
    have hL8 := e8.at1 nLb.1.symm hL7
    have e8' : Vc.Ed [b] H H8 := by walk_at "ed"
    clear hL7 e8 e7' hB7
    walk_at "go"
    intro M nM
    generalize hu9 : upd _ M _ = H9
    obtain ⟨e9, hM⟩ := Vc.alloc hu9 nM
    have hL9 := e9.at0 hL8
    have e9' : Vc.Ed [b] H H9 := by walk_at "ed"
    have hB9 := (hB8.ed0 e9).up (m := n + 910) (by omega)
    obtain ⟨cnt, z0, z3, hcnt⟩ : ∃ z : Int, 0 ≤ z ∧ z ≤ 3 ∧ atI [V.int 0, .int 0, .int (1 + i8)] (way - 1) = some (.int z) := by
      have : way = 1 ∨ way = 2 ∨ way = 3 := by omega
      rcases this with e | e | e <;> subst e
      · exact ⟨0, by omega, by omega, rfl⟩
      · exact ⟨0, by omega, by omega, rfl⟩
      · exact ⟨1 + i8, by omega, by omega, rfl⟩
    walk_at "go"
    clear hM hL8 e8' e9 hcnt
    refine ⟨by omega, by omega, for_range (lo := 0) (fun i σ H' => ∃ (ws : List Int) (y6 : Option V), σ = [some (.ref b), some (.int stop), some (.ref f), some (.int size), some (.int way), some (.ref L), y6] ∧ Vc.Ed [b] H H' ∧ Pen H' b c (n + 910 + 4 * i) ∧ H' L = some (.lst (ws.map V.int)) ∧ (ws.length : Int) = size ∧ ∀ x ∈ ws, 0 ≤ x ∧ x ≤ 255) ⟨ws, none, rfl, e9', hB9, hL9, wl, wb⟩ ?_ ?_⟩
    · rintro i σ H10 hi ⟨ws, y6, rfl, e10, hB10, hL10, wl, wb⟩
      have hT10 := hT.ed1 e10 nfb
      walk_at "go"
      refine ⟨b, c, _, f, its, stop, rfl, hB10, nL _ (by omega), hT10, Va, fun v H11 v0 v1 e11 hB11 => ?_⟩
      have hL11 := e11.at1 nLb.1.symm hL10
      walk_at "go"
      refine ⟨b, c, _, size, rfl, hB11, nL _ (by omega), by omega, by omega, fun j H12 j0 j1 e12 hB12 => ?_⟩
      have hL12 := e12.at1 nLb.1.symm hL11
      walk_at "go"
      refine Vc.go_setL hL12 (j := j.toNat) ?_ ?_
      · unfold ixN
        rw [List.length_map, if_pos (by omega), if_pos (by omega)]
      generalize hu13 : upd _ L _ = H13
      obtain ⟨e13, hL13⟩ := Vc.chg hu13 hL12
      rw [show (ws.map V.int).set j.toNat (.int v) = (ws.set j.toNat v).map V.int from (List.map_set ..).symm] at hL13
      walk_at "go"
      refine ⟨_, _, rfl, by walk_at "ed", (hB12.ed1 e13 nLb.1 nLb.2).up (by omega), hL13, by rw [List.length_set]; exact wl, fun z hz => ?_⟩
      rcases List.mem_or_eq_of_mem_set hz with h | h
      · exact wb z h
      · rw [h]; exact ⟨v0, v1⟩
    · rintro σ H10 ⟨ws, y6, rfl, e10, hB10, hL10, wl, wb⟩
      walk_at "go"
      exact k L ws H10 nL0 e10 (hB10.up (by omega)) hL10 (by omega) (by omega) wb
end

end My
namespace My
open PySem PySem.Spec PyProof.Rows L2
/-! ### a code set as it stands: its stop, its order, its table; the forms ascending by their bytes -/
theorem lift_perm {α β : Type} {f : α → β} : ∀ {l : List β} {items : List α}, l.Perm (items.map f) → ∃ sel : List α, sel.Perm items ∧ sel.map f = l
  | [], items, h => by
    have := h.length_eq
    rw [List.length_nil, List.length_map] at this
    exact ⟨[], by rw [List.eq_nil_of_length_eq_zero this.symm], rfl⟩
  | b :: l, items, h => by
    obtain ⟨a, ha, rfl⟩ := List.mem_map.mp ((h.mem_iff).mp List.mem_cons_self)
    obtain ⟨s, t, rfl⟩ := List.append_of_mem ha
    have h1 : (f a :: l).Perm (f a :: (s ++ t).map f) := h.trans ((List.perm_middle (a := a) (l₁ := s) (l₂ := t)).map f)
    obtain ⟨sel, p, e⟩ := lift_perm (h1.cons_inv)
    exact ⟨a :: sel, (p.cons a).trans List.perm_middle.symm, by rw [List.map_cons, e]⟩
def codesF (stop : Int) (o t : Addr) : List (Str × V) := [("stop", .int stop), ("order", .ref o), ("table", .ref t)]
theorem codes_put {s o t} : putF "table" (.ref t) (putF "order" (.ref o) (putF "stop" (.int s) [])) = codesF s o t := rfl
theorem codes_table {s o t} : (codesF s o t).lookup ("table" : Str) = some (.ref t) := rfl
theorem codes_order {s o t} : (codesF s o t).lookup ("order" : Str) = some (.ref o) := rfl
theorem codes_stop {s o t} : (codesF s o t).lookup ("stop" : Str) = some (.int s) := rfl
structure CodeO where
  c : Addr
  dx : Addr
  o : Addr
  t : Addr
  stop : Int
  items : List (FD × Addr)
def CodeO.fs (x : CodeO) : List FD := x.items.map (·.1)
structure CodeO.At (A : Ad) (H : Hp) (x : CodeO) : Prop where
  ob : H x.c = some (.ins A.C_CodeSet x.dx (codesF x.stop x.o x.t))
  od : H x.o = some (.lst ((x.items.map fun p => p.1.byte).map V.int))
  tb : H x.t = some (.dK (kvsOf x.items))
  fm : ∀ p ∈ x.items, FormAt A H p.2 p.1
theorem kvOOf_put {items : List (FD × Addr)} {p : FD × Addr} (h : valV (kvsOf items) (.inl p.1.byte) = none) : putK (kvsOf items) (.inl p.1.byte) (.ref p.2) = kvsOf (items ++ [p]) := kvsOf_put (f := p.1) (a := p.2) h
theorem kvO_some {its : List (FD × Addr)} {x : Int} (h : (valV (kvsOf its) (.inl x)).isSome = true) : ∃ p ∈ its, p.1.byte = x := kvs_some h
theorem kvO_none {its : List (FD × Addr)} {x : Int} (h : ∀ p ∈ its, p.1.byte ≠ x) : valV (kvsOf its) (.inl x) = none := by
  cases e : valV (kvsOf its) (.inl x) with
  | none => rfl
  | some v =>
    obtain ⟨p, hp, hx⟩ := kvO_some (its := its) (x := x) (by rw [e]; rfl)
    exact (h p hp hx).elim
theorem nd_take {its : List (FD × Addr)} {i : Nat} {p : FD × Addr} (nd : ((its.map (·.1)).map (·.byte)).Nodup) (hp : its[i]? = some p) : ∀ q ∈ its.take i, q.1.byte ≠ p.1.byte := by
  intro q hq e
  have h1 : (((its.take (i + 1)).map (·.1)).map (·.byte)).Nodup := nd.sublist (((List.take_sublist (i + 1) its).map _).map _)
  rw [List.take_add_one, hp, List.map_append, List.map_append, List.nodup_append] at h1
  exact h1.2.2 q.1.byte (List.mem_map.mpr ⟨q.1, List.mem_map.mpr ⟨q, hq, rfl⟩, rfl⟩) p.1.byte (by simp) e
theorem Valid.perm {s : Int} {fs gs : List FD} (h : Valid s fs) (p : gs.Perm fs) : Valid s gs :=
  ⟨by rw [p.length_eq]; exact h.n1, by rw [p.length_eq]; exact h.n16, fun f hf => h.ok f (p.mem_iff.mp hf), fun f hf => h.byt f (p.mem_iff.mp hf), (p.map _).nodup_iff.mpr h.ndb, (p.map _).nodup_iff.mpr h.ndn, h.s0, h.s1⟩
theorem CodeO.At.ed {A : Ad} {H H' : Hp} {x : CodeO} {S : List Addr} (h : x.At A H) (e : Vc.Ed S H H') (n1 : x.c ∉ S) (n2 : x.o ∉ S) (n3 : x.t ∉ S) (n4 : ∀ p ∈ x.items, p.2 ∉ S) : x.At A H' :=
  ⟨e.keep _ _ n1 h.ob, e.keep _ _ n2 h.od, e.keep _ _ n3 h.tb, fun p hp => (h.fm p hp).ed e (n4 p hp)⟩
theorem CodeO.At.ed0 {A : Ad} {H H' : Hp} {x : CodeO} (e : Vc.Ed [] H H') (h : x.At A H) : x.At A H' := h.ed e (fun z => nomatch z) (fun z => nomatch z) (fun z => nomatch z) (fun _ _ z => nomatch z)
/-- a change of the pen -/
theorem CodeO.At.pen {A : Ad} {H H' : Hp} {x : CodeO} {b c : Addr} {n : Nat} (e : Vc.Ed [b] H H') (B : Pen H b c n) (h : x.At A H) : x.At A H' := by
  obtain ⟨y, a, r, hb⟩ := B.lst
  refine h.ed e (fun z => ?_) (fun z => B.ne_ints h.od (List.mem_singleton.mp z)) (fun z => ?_) fun p hp z => ?_
  · have := h.ob; rw [List.mem_singleton.mp z, hb] at this; cases this
  · have := h.tb; rw [List.mem_singleton.mp z, hb] at this; cases this
  · obtain ⟨d, h⟩ := h.fm p hp; rw [List.mem_singleton.mp z, hb] at h; cases h
/-- a change of what was not there -/
theorem CodeO.At.new {A : Ad} {H0 H H' : Hp} {x : CodeO} {q : Addr} (e : Vc.Ed [q] H H') (n : H0 q = none) (h0 : x.At A H0) (h : x.At A H) : x.At A H' := by
  refine h.ed e (fun z => ?_) (fun z => ?_) (fun z => ?_) fun p hp z => ?_
  · have := h0.ob; rw [List.mem_singleton.mp z, n] at this; cases this
  · have := h0.od; rw [List.mem_singleton.mp z, n] at this; cases this
  · have := h0.tb; rw [List.mem_singleton.mp z, n] at this; cases this
  · obtain ⟨d, h⟩ := h0.fm p hp; rw [List.mem_singleton.mp z, n] at h; cases h
def CodeO.Ok (x : CodeO) : Prop := Valid x.stop x.fs ∧ (x.fs.map (·.byte)).Pairwise (· ≤ ·)
def spCodes (A : Ad) : Sp := fun vs H Q _ => ∃ (p dx d : Addr) (stop : Int) (items : List (FD × Addr)), vs = [.ref p, .int stop, .ref d] ∧ MadeAt A H d items ∧ Valid stop (items.map (·.1)) ∧ H p = some (.ins A.C_CodeSet dx []) ∧
  ∀ (x : CodeO) (H' : Hp), x.c = p → x.stop = stop → x.items.Perm items → x.Ok → Vc.Ed [p] H H' → H x.t = none → H x.o = none → x.At A H' → Q .non H'
section
variable {P : Program} {w : World} {K : PySem.W.Frag} {mg : Str → Option Value} {base : Heap} {A : Ad}
theorem ok_CodeSetu_initu (T : Txt K mg A) : FnOk P w K mg base CX0 3 A.f_CodeSetu_initu A.d_CodeSetu_initu ["self", "stop", "forms"] (spCodes A) := by
  have G_is_byte := ok_is_byte (P := P) (w := w) (base := base) T
  have G_check_forms := ok_check_forms (P := P) (w := w) (base := base) T
  refine T.F_CodeSetu_initu.ok sc_CodeSetu_initu (fun vs H Q E h => ?_) (fun cdv Ar outer s H vs Q E hr h => ?_)
  · obtain ⟨p, dx, d, stop, items, rfl, _⟩ := h
    rfl
  · obtain ⟨p, dx, d, stop, items, rfl, M, Va, hp, k⟩ := h
    have hu := hu_of hr
    have cl := T.cl_CodeSet
    have no1 := T.no_CodeSet_stop
    have no2 := T.no_CodeSet_order
    have no3 := T.no_CodeSet_table
    have v16 := Va.n16
    rw [List.length_map] at v16
    refine ⟨_, (pss_cons (ps_if (pt_not (pt_val (pe_call G_is_byte (by exact hr.mono (by decide)) (by rfl) T.g_is_byte T.F_is_byte.kp T.b_is_byte .nil pass0 (pa_cons (pv 1) pa_nil)))) (pss_one ps_never) pss_nil) (pss_cons (ps_expr (pe_call G_check_forms (by exact hr.mono (by decide)) (by rfl) T.g_check_forms T.F_check_forms.kp T.b_check_forms .nil pass0 (pa_cons (pv 1) (pa_cons (pv 2) pa_nil)))) (pss_cons (ps_fld (pv 0) (pv 1) rfl) (pss_cons (ps_fld (pv 0) (pe_callB cr_sorted (by rfl) T.n_sorted (by decide +kernel) (pa_cons (pe_callTy (call_list_dK rfl) (by rfl) T.n_list (by decide +kernel) (pa_cons (pv 2) pa_nil)) pa_nil)) rfl) (pss_one (ps_fld (pv 0) (pe_dc (own := [("byte", 3)]) (g := gName 3) rfl sc_CodeSetu_initu.nd (pi_list (pe_fld (pv 0) rfl)) (blkOk_by (own := [("byte", 3)]) (N := ["self", "stop", "forms", "byte"]) (sc := defScope s_CodeSetu_initu) (by decide +kernel)) (fun _ _ _ _ _ => by exact (pg_name (i := 3) sc_CodeSetu_initu.nd rfl (Or.inl rfl))) (fun _ _ _ _ _ => by exact pts_nil) (fun _ _ _ _ _ => by (refine' Vc.blkE ?h ?q; (case h => exact (pv 3)); (case q => first | exact rfl | (dsimp only; done) | (dsimp only; exact rfl)))) (fun _ _ _ _ _ => by (refine' Vc.blkE ?h ?q; (case h => exact (pe_dget (by exact hu) (pv 2) (pv 3) (fun _ _ => rfl))); (case q => first | exact rfl | (dsimp only; done) | (dsimp only; exact rfl))))) rfl)))))), ?_⟩
    walk_at "go"
    refine ⟨stop, rfl, fun H1 e1 => ?_⟩
    rw [decide_eq_true ⟨Va.s0, Va.s1⟩]
    walk_at "go"
    refine ⟨d, stop, items, rfl, ⟨e1.at0 M.ob, fun q hq => (M.fm q hq).ed0 e1⟩, Va, fun H2 e2 => ?_⟩
    have hp2 : H2 p = some (.ins A.C_CodeSet dx []) := by walk_at "hs"
    walk_at "go"
    generalize hu3 : upd _ p _ = H3
    obtain ⟨e3, h3⟩ := Vc.chg hu3 hp2
    have hd3 : H3 d = some (.dK (kvsOf items)) := e3.at1 (ne_of M.ob hp (by intro z; cases z)) (by have := M.ob; walk_at "hs")
    walk_at "go"
    intro L nL
    generalize hu4 : upd _ L _ = H4
    obtain ⟨e4, hL⟩ := Vc.alloc hu4 nL
    have eq : (kvsOf items).map (fun kv => kV kv.1) = ((items.map (·.1)).map (·.byte)).map V.int := by
      unfold kvsOf
      simp only [List.map_map, Function.comp_def, kV]
    rw [eq] at hL
    walk_at "go"
    refine Vc.go_sorted (.of hL) (by rw [List.length_map, List.length_map]; omega) fun ns o perm srt no => ?_
    generalize hu5 : upd _ o _ = H5
    obtain ⟨e5, ho⟩ := Vc.alloc hu5 no
    have h3' : H5 p = some (.ins A.C_CodeSet dx (putF "stop" (.int stop) [])) := by walk_at "hs"
    walk_at "go"
    generalize hu6 : upd _ p _ = H6
    obtain ⟨e6, h6⟩ := Vc.chg hu6 h3'
    walk_at "go"
    have ho6 : H6 o = some (.lst (ns.map V.int)) := by walk_at "hs"
    have hd6 : H6 d = some (.dK (kvsOf items)) := by walk_at "hs"
    obtain ⟨sel, sp, se⟩ : ∃ sel : List (FD × Addr), sel.Perm items ∧ sel.map (fun p => p.1.byte) = ns := lift_perm (by rw [List.map_map] at perm; exact perm)
    have nl : ns.length = sel.length := by rw [← se, List.length_map]
    have sl : sel.length = items.length := sp.length_eq
    have Vs : Valid stop (sel.map (·.1)) := Va.perm (sp.map _)
    refine ⟨⟨_, .of ho6⟩, Vc.dc_by (walk_list (xs := ns.map V.int)) (fun t i H' => Vc.Ed [] H6 H' ∧ H' t = some (.dK (kvsOf (sel.take i)))) ?_ ?_ ?_ ?_⟩
    · intro t H7 nt e7 ht
      exact ⟨e7, ht⟩
    · rintro t i H' _ _ ⟨e7, _⟩
      exact .of (e7.at0 ho6)
    · rintro t i x H7 H8 nt hi ⟨e7, ht⟩ ⟨rfl, hx⟩
      rw [List.length_map, nl] at hi
      have hsel : sel[i]? = some sel[i] := List.getElem?_eq_getElem hi
      generalize sel[i] = q0 at hsel
      rw [← se, List.getElem?_map, List.getElem?_map, hsel] at hx
      cases hx
      have hq0 : q0 ∈ items := sp.mem_iff.mp (List.mem_of_getElem? hsel)
      have hv0 := kvsOf_val Va.ndb hq0
      walk_at "go"
      refine ⟨rfl, ?_⟩
      walk_at "go"
      refine ⟨_, .inl q0.1.byte, rfl, ht, small1000 (by rw [kvsOf_len, List.length_take]; omega), ?_⟩
      generalize hu8 : upd _ t _ = H9
      obtain ⟨e9, h9⟩ := Vc.chg hu8 ht
      refine ⟨e7.one e9 (.inr nt), ?_⟩
      rw [h9, kvOOf_put (kvO_none (nd_take Vs.ndb hsel)), List.take_add_one, hsel]; rfl
    · rintro t H7 nt ⟨e7, ht⟩
      rw [List.length_map, nl, List.take_of_length_le (Nat.le_refl _)] at ht
      have h7 : H7 p = _ := e7.at0 h6
      have nt0 : H t = none := by walk_at "free"
      have no0 : H o = none := by walk_at "free"
      walk_at "go"
      generalize hu8 : upd _ p _ = H8
      obtain ⟨e8, h8⟩ := Vc.chg hu8 h7
      rw [codes_put] at h8
      have ee : Vc.Ed [p] H H8 := by walk_at "ed"
      have ntp : t ≠ p := fun z => by rw [z, h6] at nt; cases nt
      have nop : o ≠ p := fun z => by have h4 : H4 p = _ := e4.at0 h3; rw [z, h4] at no; cases no
      have ho8 : H8 o = some (.lst (ns.map V.int)) := e8.at1 nop (e7.at0 ho6)
      rw [← se] at ho8
      refine k ⟨p, dx, o, t, stop, sel⟩ H8 rfl rfl sp ⟨Vs, ?_⟩ ee nt0 no0 ⟨h8, ho8, e8.at1 ntp ht, fun q hq => ?_⟩
      · show List.Pairwise _ (List.map _ (List.map _ sel))
        rw [List.map_map]
        rw [← se] at srt
        exact srt
      · obtain ⟨dq, hF⟩ := M.fm q (sp.mem_iff.mp hq)
        exact ⟨dq, ee.at1 (ne_of hF hp (by intro z; injection z with _ _ z; cases z)) hF⟩
end

end My
namespace My
open PySem PySem.Spec PyProof.Rows L2
/-! ### a code set called: the instruction at a place, or NotWhole -/
def instrAt (fs : List FD) (bs : List Int) (at_ : Int) : Option (List Int) :=
  if at_ < 0 ∨ at_ ≥ bs.length then none else
  match fs.find? (fun f => decide (f.byte = bs.getD at_.toNat 0)) with
  | none => none
  | some f => if at_ + f.len > bs.length then none else some ((bs.drop at_.toNat).take f.len.toNat)
def spCall (A : Ad) (K : PySem.W.Frag) : Sp := fun vs H Q E => ∃ (x : CodeO) (g : Addr) (at_ : Int) (bs : List Int), vs = [.ref x.c, .ref g, .int at_] ∧ x.At A H ∧ x.Ok ∧ (SqL K H g (bs.map V.int) ∨ SqT K H g (bs.map V.int)) ∧ bs.length ≤ 500 ∧
  (instrAt x.fs bs at_ = none → ∀ d H', Vc.Ed [] H H' → H' d = some (.xd [("place", .int at_)]) → E (.ref A.C_NotWhole) (some d) H') ∧
  ∀ ins, instrAt x.fs bs at_ = some ins → ∀ q H', Vc.Ed [] H H' → H' q = some (.tup (ins.map V.int)) → Q (.ref q) H'
theorem inV_ints (n : Int) (ns : List Int) : inV (.int n) (ns.map V.int) = decide (n ∈ ns) := by
  rw [Bool.eq_iff_iff, decide_eq_true_eq]
  show (List.any (ns.map V.int) fun y => eqV y (.int n)) = true ↔ _
  rw [List.any_eq_true]
  constructor
  · rintro ⟨y, hy, e⟩
    obtain ⟨m, hm, rfl⟩ := List.mem_map.mp hy
    have : m = n := by simpa [eqV] using e
    rw [← this]; exact hm
  · exact fun h => ⟨_, List.mem_map.mpr ⟨n, h, rfl⟩, by simp [eqV]⟩
theorem flat_ints (ns : List Int) : (ns.map V.int).all flatV = true := by
  rw [List.all_eq_true]
  intro x hx
  obtain ⟨n, _, rfl⟩ := List.mem_map.mp hx
  rfl
theorem find_byte {items : List (FD × Addr)} {b : Int} (nd : ((items.map (·.1)).map (·.byte)).Nodup) :
    (b ∉ items.map (fun p => p.1.byte) ∧ (items.map (·.1)).find? (fun f => decide (f.byte = b)) = none) ∨ ∃ p ∈ items, p.1.byte = b ∧ (items.map (·.1)).find? (fun f => decide (f.byte = b)) = some p.1 := by
  cases e : (items.map (·.1)).find? (fun f => decide (f.byte = b)) with
  | none =>
    refine .inl ⟨fun h => ?_, rfl⟩
    obtain ⟨p, hp, rfl⟩ := List.mem_map.mp h
    have := List.find?_eq_none.mp e p.1 (List.mem_map.mpr ⟨p, hp, rfl⟩)
    simp at this
  | some f =>
    obtain ⟨p, hp, rfl⟩ := List.mem_map.mp (List.mem_of_find?_eq_some e)
    exact .inr ⟨p, hp, of_decide_eq_true (List.find?_some (p := fun f : FD => decide (f.byte = b)) e), rfl⟩
section
variable {fs : List FD} {bs : List Int} {at_ : Int}
theorem instr_out (h : at_ < 0 ∨ at_ ≥ bs.length) : instrAt fs bs at_ = none := by unfold instrAt; rw [if_pos h]
theorem instr_nf (h : ¬ (at_ < 0 ∨ at_ ≥ bs.length)) (hf : fs.find? (fun f => decide (f.byte = bs.getD at_.toNat 0)) = none) : instrAt fs bs at_ = none := by unfold instrAt; rw [if_neg h, hf]
theorem instr_long {f : FD} (h : ¬ (at_ < 0 ∨ at_ ≥ bs.length)) (hf : fs.find? (fun f => decide (f.byte = bs.getD at_.toNat 0)) = some f) (hl : at_ + f.len > bs.length) : instrAt fs bs at_ = none := by
  unfold instrAt; rw [if_neg h, hf]; exact if_pos hl
theorem instr_ok {f : FD} (h : ¬ (at_ < 0 ∨ at_ ≥ bs.length)) (hf : fs.find? (fun f => decide (f.byte = bs.getD at_.toNat 0)) = some f) (hl : ¬ at_ + f.len > bs.length) : instrAt fs bs at_ = some ((bs.drop at_.toNat).take f.len.toNat) := by
  unfold instrAt; rw [if_neg h, hf]; exact if_neg hl
theorem at_getD (h0 : 0 ≤ at_) (h1 : at_ < bs.length) : atI (bs.map V.int) at_ = some (.int (bs.getD at_.toNat 0)) := by
  refine at_of (j := at_.toNat) (by omega) ?_
  rw [List.getElem?_map, List.getElem?_eq_getElem (by omega), List.getD_eq_getElem?_getD, List.getElem?_eq_getElem (by omega)]; rfl
theorem cut_ints {l : Int} (h0 : 0 ≤ at_) (hl : 0 ≤ l) : cutV (bs.map V.int) (some at_) (some (at_ + l)) = ((bs.drop at_.toNat).take l.toNat).map V.int := by
  have e := Vc.cut_mid (bs.map V.int) at_.toNat (at_ + l).toNat
  rw [Int.toNat_of_nonneg h0, Int.toNat_of_nonneg (by omega)] at e
  rw [e, ← List.map_drop, ← List.map_take]
  congr 2
  omega
end
section
variable {w : World} {K : PySem.W.Frag} {mg : Str → Option Value} {base : Heap} {A : Ad}
theorem ok_CodeSetu_callu (T : Txt K mg A) : FnOk PG w K mg base (CX PG w) 3 A.f_CodeSetu_callu A.d_CodeSetu_callu ["self", "values", "at"] (spCall A K) := by
  have G_NotWholeu_initu := ok_NotWholeu_initu (w := w) (base := base) T
  refine T.F_CodeSetu_callu.okX sc_CodeSetu_callu (fun vs H Q E h => ?_) (fun cdv Ar outer s H vs Q E hr h => ?_)
  · obtain ⟨x, g, at_, bs, rfl, _⟩ := h
    rfl
  · obtain ⟨x, g, at_, bs, rfl, hX, hO, hg, bl, kE, kQ⟩ := h
    have hu := hu_of hr
    have cl := T.cl_CodeSet
    have no2 := T.no_CodeSet_order
    have no3 := T.no_CodeSet_table
    have clf := T.cl_Form
    have no4 := T.no_Form_length
    have ct := codes_table (s := x.stop) (o := x.o) (t := x.t)
    have co := codes_order (s := x.stop) (o := x.o) (t := x.t)
    obtain ⟨hc, ho, ht, hF⟩ := hX
    refine ⟨_, (pss_cons (ps_set (i := 3) sc_CodeSetu_callu.nd rfl (Or.inl rfl) (pe_callTy Vc.call_lstD (by rfl) T.n_list (by decide +kernel) (pa_cons (pv 1) pa_nil))) (pss_cons (ps_if (PW.pt (pw_or (pt_cmpR op_lt (pv 2) pe_int (nomark _)) (pw_or (pt_cmpR op_ge (pv 2) (pe_callB call_len_seq (by rfl) T.n_len (by decide +kernel) (pa_cons (pv 3) pa_nil)) (nomark _)) (pw_or1 (pt_cmpR op_notIn_seq (pe_ix ix_list (pv 3) (pv 2) (fun _ _ => rfl)) (pe_fld (pv 0) rfl) (by rfl)))))) (pss_one (Vc.ps_raiseT rfl (takes_of rfl rfl rfl rfl) (pmk_oex T.ox_NotWhole T.i_NotWhole T.ti_NotWhole G_NotWholeu_initu (by exact hr.mono (by decide)) T.b_NotWholeu_initu .nil pass0 (by rfl) T.g_NotWhole (pa_cons (pv 2) pa_nil)))) pss_nil) (pss_cons (ps_set (i := 4) sc_CodeSetu_callu.nd rfl (Or.inl rfl) (pe_op op_add (pv 2) (pe_fld (pe_dget (by exact hu) (pe_fld (pv 0) rfl) (pe_ix ix_list (pv 3) (pv 2) (fun _ _ => rfl)) (fun _ _ => rfl)) rfl))) (pss_cons (ps_if (pt_cmpR op_gt (pv 4) (pe_callB call_len_seq (by rfl) T.n_len (by decide +kernel) (pa_cons (pv 3) pa_nil)) (nomark _)) (pss_one (Vc.ps_raiseT rfl (takes_of rfl rfl rfl rfl) (pmk_oex T.ox_NotWhole T.i_NotWhole T.ti_NotWhole G_NotWholeu_initu (by exact hr.mono (by decide)) T.b_NotWholeu_initu .nil pass0 (by rfl) T.g_NotWhole (pa_cons (pv 2) pa_nil)))) pss_nil) (pss_one (ps_ret (pe_callTy Vc.call_tupD (by rfl) T.n_tuple (by decide +kernel) (pa_cons (pe_slice sl_list (pv 3) (po_some (pv 2)) (po_some (pv 4))) pa_nil)))))))), ?_⟩
    have bad : instrAt x.fs bs at_ = none → ∀ H1, Vc.Ed [] H H1 → ∀ d H', H1 d = none → Vc.Ed [] H1 H' → H' d = some (.xd [("place", .int at_)]) → E (.ref A.C_NotWhole) (some d) H' := fun e H1 e1 d H' _ e2 h => kE e d H' (e1.ex e2) h
    walk_at "go"
    intro L nL
    generalize hu1 : upd _ L _ = H1
    obtain ⟨e1, hL⟩ := Vc.alloc hu1 nL
    have ll : (List.map V.int bs).length ≤ 1000 := by rw [List.length_map]; omega
    walk_at "go"
    refine Vc.go_ite (fun h1 => ?_) (fun h1 => ?_)
    · walk_at "go"
      exact bad (instr_out (.inl h1)) _ e1
    walk_at "go"
    rw [List.length_map]
    refine Vc.go_ite (fun h2 => ?_) (fun h2 => ?_)
    · walk_at "go"
      exact bad (instr_out (.inr h2)) _ e1
    have hin : ¬ (at_ < 0 ∨ at_ ≥ bs.length) := by omega
    have hx := at_getD (bs := bs) (at_ := at_) (by omega) (by omega)
    generalize hn : bs.getD at_.toNat 0 = n at hx
    have fl := flat_ints (x.items.map fun p => p.1.byte)
    walk_at "go"
    rw [inV_ints]
    refine Vc.go_iten (fun h3 => ?_) (fun h3 => ?_)
    · walk_at "go"
      rcases find_byte (b := n) hO.1.ndb with ⟨_, hf⟩ | ⟨p, hp, hb, _⟩
      · exact bad (instr_nf hin (by rw [hn]; exact hf)) _ e1
      · exact (h3 (List.mem_map.mpr ⟨p, hp, hb⟩)).elim
    rcases find_byte (b := n) hO.1.ndb with ⟨hf, _⟩ | ⟨p, hp, hb, hf⟩
    · exact (hf h3).elim
    have hv := kvsOf_val hO.1.ndb hp
    rw [hb] at hv
    obtain ⟨df, hfm⟩ := hF p hp
    have ok := hO.1.ok p.1 (List.mem_map.mpr ⟨p, hp, rfl⟩)
    have fl2 := form_length (n := p.1.name) (l := p.1.len) (f := p.1.flow)
    walk_at "go"
    rw [List.length_map]
    refine Vc.go_ite (fun h4 => ?_) (fun h4 => ?_)
    · walk_at "go"
      exact bad (instr_long hin (by rw [hn]; exact hf) h4) _ e1
    walk_at "go"
    intro q nq
    rw [cut_ints (by omega) (by have := ok.l1; omega)]
    generalize hu2 : upd _ q _ = H2
    obtain ⟨e2, hq⟩ := Vc.alloc hu2 nq
    walk_at "go"
    intro r nr
    generalize hu3 : upd _ r _ = H3
    obtain ⟨e3, hr3⟩ := Vc.alloc hu3 nr
    walk_at "go"
    exact kQ _ (instr_ok hin (by rw [hn]; exact hf) h4) r H3 (by walk_at "ed") hr3
end

end My
namespace My
open PySem PySem.Spec PyProof.Rows L2
/-! ### what follows -/
def foll (fl : Str) (n last place : Int) : List Int :=
  if fl = "end" then [] else if fl = "next" then [place + n] else
  if fl = "jump" ∨ (if last ≥ 128 then last - 256 else last) = 0 then [place + n + (if last ≥ 128 then last - 256 else last)] else [place + n, place + n + (if last ≥ 128 then last - 256 else last)]
theorem foll_end {n l p} : foll "end" n l p = [] := by unfold foll; exact if_pos rfl
theorem foll_next {n l p} : foll "next" n l p = [p + n] := by unfold foll; rw [if_neg (by decide), if_pos rfl]
theorem foll_jump {n l p d : Int} (hd : (if l ≥ 128 then l - 256 else l) = d) : foll "jump" n l p = [p + n + d] := by unfold foll; rw [hd, if_neg (by decide), if_neg (by decide), if_pos (.inl rfl)]
theorem foll_test0 {n l p d : Int} (hd : (if l ≥ 128 then l - 256 else l) = d) (h : d = 0) : foll "test" n l p = [p + n + d] := by unfold foll; rw [hd, if_neg (by decide), if_neg (by decide), if_pos (.inr h)]
theorem foll_test1 {n l p d : Int} (hd : (if l ≥ 128 then l - 256 else l) = d) (h : ¬ d = 0) : foll "test" n l p = [p + n, p + n + d] := by
  unfold foll; rw [hd, if_neg (by decide), if_neg (by decide), if_neg (fun z => z.elim (by decide) h)]
/-- the bytes of an instruction of a form -/
structure Instr (bs : List Int) (b0 last : Int) : Prop where
  h0 : bs[0]? = some b0
  hl : bs[bs.length - 1]? = some last
  n64 : bs.length ≤ 64
theorem Instr.at0 {bs b0 last} (h : Instr bs b0 last) : atI (bs.map V.int) 0 = some (.int b0) := at_of (j := 0) rfl (by rw [List.getElem?_map, h.h0]; rfl)
theorem Instr.pos {bs b0 last} (h : Instr bs b0 last) : 0 < bs.length := by
  have := h.h0
  cases bs with
  | nil => cases this
  | cons x r => simp
theorem Instr.atL {bs b0 last} (h : Instr bs b0 last) : atI (bs.map V.int) (-1) = some (.int last) := Vc.at_m1 (by rw [List.length_map, List.getElem?_map, h.hl]; rfl)
theorem Instr.atE {bs b0 last} (h : Instr bs b0 last) : atI (bs.map V.int) ((bs.length : Int) - 1) = some (.int last) := at_of (j := bs.length - 1) (by have := h.pos; omega) (by rw [List.getElem?_map, h.hl]; rfl)
def spFoll (A : Ad) (K : PySem.W.Frag) : Sp := fun vs H Q _ => ∃ (x : CodeO) (g : Addr) (place : Int) (p : FD × Addr) (bs : List Int) (last : Int), vs = [.ref x.c, .ref g, .int place] ∧ x.At A H ∧ x.Ok ∧ p ∈ x.items ∧ SqT K H g (bs.map V.int) ∧ Instr bs p.1.byte last ∧
  ∀ q H', Vc.Ed [] H H' → H' q = some (.tup ((foll p.1.flow bs.length last place).map V.int)) → Q (.ref q) H'
section
variable {P : Program} {w : World} {K : PySem.W.Frag} {mg : Str → Option Value} {base : Heap} {A : Ad}
theorem ok_CodeSet_followers (T : Txt K mg A) : FnOk P w K mg base CX0 1 A.f_CodeSet_followers A.d_CodeSet_followers ["self", "instruction", "place"] (spFoll A K) := by
  refine T.F_CodeSet_followers.ok sc_CodeSet_followers (fun vs H Q E h => ?_) (fun cdv Ar outer s H vs Q E hr h => ?_)
  · obtain ⟨x, g, place, p, bs, last, rfl, _⟩ := h
    rfl
  · obtain ⟨x, g, place, p, bs, last, rfl, CA, hO, hp, hg, I, k⟩ := h
    have hf := (hO.1.ok p.1 (List.mem_map.mpr ⟨p, hp, rfl⟩)).fl
    have hu := hu_of hr
    have cl := T.cl_CodeSet
    have no3 := T.no_CodeSet_table
    have clf := T.cl_Form
    have no4 := T.no_Form_flow
    obtain ⟨hc, ho, ht, fm⟩ := CA
    have hv := kvsOf_val hO.1.ndb hp
    obtain ⟨dq, hq⟩ := fm p hp
    have ct := codes_table (s := x.stop) (o := x.o) (t := x.t)
    have ff := form_flow (n := p.1.name) (l := p.1.len) (f := p.1.flow)
    have i0 := I.at0
    have i1 := I.atL
    have l64 := I.n64
    refine ⟨_, (pss_cons (ps_set (i := 3) sc_CodeSet_followers.nd rfl (Or.inl rfl) (pe_fld (pe_dget (by exact hu) (pe_fld (pv 0) rfl) (pe_ix ix_tup (pv 1) pe_int (fun _ _ => rfl)) (fun _ _ => rfl)) rfl)) (pss_cons (ps_if (pt_cmpR op_eq (pv 3) pe_str (nomark _)) (pss_one (ps_ret (pe_tup pa_nil))) pss_nil) (pss_cons (ps_set (i := 4) sc_CodeSet_followers.nd rfl (Or.inl rfl) (pe_op op_add (pv 2) (pe_callB call_len_seq (by rfl) T.n_len (by decide +kernel) (pa_cons (pv 1) pa_nil)))) (pss_cons (ps_if (pt_cmpR op_eq (pv 3) pe_str (nomark _)) (pss_one (ps_ret (pe_tup (pa_cons (pv 4) pa_nil)))) pss_nil) (pss_cons (ps_set (i := 5) sc_CodeSet_followers.nd rfl (Or.inl rfl) (pe_ix ix_tup (pv 1) (pe_un un_neg pe_int) (fun _ _ => rfl))) (pss_cons (ps_if (pt_cmpR op_ge (pv 5) pe_int (nomark _)) (pss_one (ps_aug (i := 5) sc_CodeSet_followers.nd rfl (.inl rfl) pe_int ip_sub)) pss_nil) (pss_cons (ps_if (PW.pt (pw_or (pt_cmpR op_eq (pv 3) pe_str (nomark _)) (pw_or1 (pt_cmpR op_eq (pv 5) pe_int (nomark _))))) (pss_one (ps_ret (pe_tup (pa_cons (pe_op op_add (pv 4) (pv 5)) pa_nil)))) pss_nil) (pss_one (ps_ret (pe_tup (pa_cons (pv 4) (pa_cons (pe_op op_add (pv 4) (pv 5)) pa_nil)))))))))))), ?_⟩
    generalize hfl : p.1.flow = fl at hf ff hq k
    walk_at "go"
    have fin : ∀ (xs : List Int), xs = foll fl bs.length last place → ∀ q, H q = none → Q (.ref q) (upd H q (.tup (xs.map V.int))) := by
      rintro xs rfl q nq
      generalize hu2 : upd _ q _ = H2
      obtain ⟨e2, h2⟩ := Vc.alloc hu2 nq
      exact k q H2 e2 h2
    have eln : ((List.map V.int bs).length : Int) = bs.length := by rw [List.length_map]
    rcases hf with e | e | e | e <;> subst e <;> walk_at "goo"
    · rw [eln]
      exact fin [_] foll_next.symm
    · refine Vc.go_ite (fun h1 => ?_) (fun h1 => ?_) <;> walk_at "goo" <;> rw [eln]
      · exact fin [_] (foll_jump (if_pos h1)).symm
      · exact fin [_] (foll_jump (if_neg h1)).symm
    · refine Vc.go_ite (fun h1 => ?_) (fun h1 => ?_) <;> walk_at "goo" <;> rw [eln]
      · refine Vc.go_ite (fun h2 => ?_) (fun h2 => ?_) <;> walk_at "goo"
        · exact fin [_] (foll_test0 (if_pos h1) h2).symm
        · exact fin [_, _] (foll_test1 (if_pos h1) h2).symm
      · refine Vc.go_ite (fun h2 => ?_) (fun h2 => ?_) <;> walk_at "goo"
        · exact fin [_] (foll_test0 (if_neg h1) h2).symm
        · exact fin [_, _] (foll_test1 (if_neg h1) h2).symm
    · exact fin [] foll_end.symm
end

end My
namespace My
open PySem PySem.Spec PyProof.Rows L2
/-! ### places reached, step by step (a stack of places, what is laid so far) -/
abbrev Laid := List (Int × Option (List Int))
def nextsAt (fs : List FD) (vals : List Int) (p : Int) : List Int :=
  if p < 0 ∨ p ≥ vals.length then [] else
  match fs.find? (fun f => decide (f.byte = vals.getD p.toNat 0)) with
  | none => []
  | some f => if p + f.len > vals.length then [] else foll f.flow f.len (vals.getD (p + f.len - 1).toNat 0) p
inductive Run (fs : List FD) (vals : List Int) : Nat → List Int → Laid → Laid → Prop
  | done {L : Laid} : Run fs vals 0 [] L L
  | old {m : Nat} {ws w : List Int} {p : Int} {L R : Laid} (hw : ws = w ++ [p]) (hp : p ∈ L.map (·.1)) (h : Run fs vals m w L R) : Run fs vals (m + 1) ws L R
  | new {m : Nat} {ws w : List Int} {p : Int} {L R : Laid} (hw : ws = w ++ [p]) (hp : p ∉ L.map (·.1)) (h : Run fs vals m (w ++ nextsAt fs vals p) (L ++ [(p, instrAt fs vals p)]) R) : Run fs vals (m + 1) ws L R
theorem Run.inv {fs vals m w p L R} (h : Run fs vals m (w ++ [p]) L R) : ∃ m', m = m' + 1 ∧ ((p ∈ L.map (·.1) ∧ Run fs vals m' w L R) ∨ (p ∉ L.map (·.1) ∧ Run fs vals m' (w ++ nextsAt fs vals p) (L ++ [(p, instrAt fs vals p)]) R)) := by
  generalize e : w ++ [p] = ws at h
  cases h with
  | done => exact absurd (congrArg List.length e) (by simp)
  | old hw hp h =>
    obtain ⟨rfl, e2⟩ := List.append_inj' (e.trans hw) rfl
    cases e2
    exact ⟨_, rfl, .inl ⟨hp, h⟩⟩
  | new hw hp h =>
    obtain ⟨rfl, e2⟩ := List.append_inj' (e.trans hw) rfl
    cases e2
    exact ⟨_, rfl, .inr ⟨hp, h⟩⟩
theorem Run.fin {fs vals m L R} (h : Run fs vals m [] L R) : L = R := by
  generalize e : ([] : List Int) = ws at h
  cases h with
  | done => rfl
  | old hw hp h => exact absurd (congrArg List.length (e.trans hw)) (by simp)
  | new hw hp h => exact absurd (congrArg List.length (e.trans hw)) (by simp)
/-- the bytes of the values, forms that can be laid -/
structure Fit (fs : List FD) (vals : List Int) : Prop where
  ok : ∀ f ∈ fs, f.Ok
  by_ : ∀ x ∈ vals, 0 ≤ x ∧ x ≤ 255
  len : vals.length ≤ 24
theorem getD_by {vals : List Int} (h : ∀ x ∈ vals, 0 ≤ x ∧ x ≤ 255) (i : Nat) : 0 ≤ vals.getD i 0 ∧ vals.getD i 0 ≤ 255 := by
  rw [List.getD_eq_getElem?_getD]
  cases e : vals[i]? with
  | none => exact ⟨Int.le_refl _, by decide⟩
  | some x => exact h x (List.mem_of_getElem? e)
/-- what is at a place: nothing, or an instruction and the places that follow -/
theorem at_cases {fs : List FD} {vals : List Int} (F : Fit fs vals) (p : Int) : (instrAt fs vals p = none ∧ nextsAt fs vals p = []) ∨
    ∃ f ∈ fs, ∃ bs last, 0 ≤ p ∧ p + f.len ≤ vals.length ∧ vals.getD p.toNat 0 = f.byte ∧ fs.find? (fun f => decide (f.byte = vals.getD p.toNat 0)) = some f ∧ instrAt fs vals p = some bs ∧ bs = (vals.drop p.toNat).take f.len.toNat ∧ (bs.length : Int) = f.len ∧ Instr bs f.byte last ∧ 0 ≤ last ∧ last ≤ 255 ∧ nextsAt fs vals p = foll f.flow bs.length last p := by
  by_cases h : p < 0 ∨ p ≥ vals.length
  · exact .inl ⟨instr_out h, by unfold nextsAt; rw [if_pos h]⟩
  cases hf : fs.find? (fun f => decide (f.byte = vals.getD p.toNat 0)) with
  | none => exact .inl ⟨instr_nf h hf, by unfold nextsAt; rw [if_neg h, hf]⟩
  | some f =>
    by_cases hl : p + f.len > vals.length
    · exact .inl ⟨instr_long h hf hl, by unfold nextsAt; rw [if_neg h, hf]; exact if_pos hl⟩
    have hm := List.mem_of_find?_eq_some hf
    have hb : f.byte = vals.getD p.toNat 0 := by
      have := List.find?_some hf
      exact of_decide_eq_true this
    have ok := F.ok f hm
    have o1 := ok.l1
    have o4 := ok.l4
    have lb := getD_by F.by_ (p + f.len - 1).toNat
    have bl : ((vals.drop p.toNat).take f.len.toNat).length = f.len.toNat := by rw [List.length_take, List.length_drop]; omega
    refine .inr ⟨f, hm, _, vals.getD (p + f.len - 1).toNat 0, by omega, by omega, hb.symm, rfl, instr_ok h hf hl, rfl, by omega, ⟨?_, ?_, by omega⟩, lb.1, lb.2, ?_⟩
    · rw [List.getElem?_take_of_lt (by omega), List.getElem?_drop, Nat.add_zero, List.getElem?_eq_getElem (by omega), hb, List.getD_eq_getElem?_getD, List.getElem?_eq_getElem (by omega)]; rfl
    · rw [bl, List.getElem?_take_of_lt (by omega), List.getElem?_drop, List.getElem?_eq_getElem (by omega), List.getD_eq_getElem?_getD, List.getElem?_eq_getElem (by omega)]
      show some _ = some _
      congr 1
      show _ = vals[_]
      congr 1
      omega
    · unfold nextsAt
      rw [if_neg h, hf]
      show (if _ then _ else _) = _
      rw [if_neg hl, show (((vals.drop p.toNat).take f.len.toNat).length : Int) = f.len by omega]
def unv (n : Nat) (L : Laid) : Nat := ((List.range n).filter fun i : Nat => decide ((i : Int) ∉ L.map (·.1))).length
theorem unv_le {n L} : unv n L ≤ n := by
  unfold unv
  have := List.length_filter_le (fun i : Nat => decide ((i : Int) ∉ L.map (·.1))) (List.range n)
  rwa [List.length_range] at this
theorem unv_put {n : Nat} {L : Laid} {q : Int × Option (List Int)} : unv n (L ++ [q]) = (((List.range n).filter fun i : Nat => decide ((i : Int) ∉ L.map (·.1))).filter fun i : Nat => decide ((i : Int) ≠ q.1)).length := by
  unfold unv
  rw [List.filter_filter]
  congr 2
  funext i
  rw [Bool.eq_iff_iff]
  simp [and_comm]
theorem unv_mono {n : Nat} {L : Laid} {q : Int × Option (List Int)} : unv n (L ++ [q]) ≤ unv n L := by
  rw [unv_put]; exact List.length_filter_le _ _
theorem unv_lt {n : Nat} {L : Laid} {q : Int × Option (List Int)} (h0 : 0 ≤ q.1) (h1 : q.1 < n) (h : q.1 ∉ L.map (·.1)) : unv n (L ++ [q]) < unv n L := by
  rw [unv_put]
  refine List.length_filter_lt_length_iff_exists.mpr ⟨q.1.toNat, List.mem_filter.mpr ⟨List.mem_range.mpr (by omega), ?_⟩, ?_⟩
  · rw [Int.toNat_of_nonneg h0]; exact decide_eq_true h
  · simp [Int.toNat_of_nonneg h0]
theorem foll_len {fl n l p} : (foll fl n l p).length ≤ 2 := by
  unfold foll
  generalize (if l ≥ 128 then l - 256 else l) = d
  split
  · exact Nat.zero_le _
  · split
    · exact Nat.le_succ _
    · split
      · exact Nat.le_succ _
      · exact Nat.le_refl _
theorem foll_bd {fl n l p} (hn : 1 ≤ n ∧ n ≤ 4) (hl : 0 ≤ l ∧ l ≤ 255) (hp : 0 ≤ p ∧ p ≤ 24) : ∀ x ∈ foll fl n l p, -1000 ≤ x ∧ x ≤ 1000 := by
  have hd : -128 ≤ (if l ≥ 128 then l - 256 else l) ∧ (if l ≥ 128 then l - 256 else l) ≤ 127 := by split <;> omega
  unfold foll
  generalize (if l ≥ 128 then l - 256 else l) = d at hd
  intro x hx
  split at hx
  · cases hx
  · split at hx
    · rw [List.mem_singleton.mp hx]; omega
    · split at hx
      · rw [List.mem_singleton.mp hx]; omega
      · rcases List.mem_cons.mp hx with h | h
        · rw [h]; omega
        · rw [List.mem_singleton.mp h]; omega
/-- how many places near the values are not laid yet; how many lie far off -/
def unvW (n : Nat) (L : Laid) : Nat := ((List.range (n + 6)).filter fun i : Nat => decide ((i : Int) - 3 ∉ L.map (·.1))).length
theorem unvW_le {n L} : unvW n L ≤ n + 6 := by
  unfold unvW
  have := List.length_filter_le (fun i : Nat => decide ((i : Int) - 3 ∉ L.map (·.1))) (List.range (n + 6))
  rwa [List.length_range] at this
theorem unvW_put {n : Nat} {L : Laid} {q : Int × Option (List Int)} : unvW n (L ++ [q]) = (((List.range (n + 6)).filter fun i : Nat => decide ((i : Int) - 3 ∉ L.map (·.1))).filter fun i : Nat => decide ((i : Int) - 3 ≠ q.1)).length := by
  unfold unvW
  rw [List.filter_filter]
  congr 2
  funext i
  rw [Bool.eq_iff_iff]
  simp [and_comm]
theorem unvW_mono {n : Nat} {L : Laid} {q : Int × Option (List Int)} : unvW n (L ++ [q]) ≤ unvW n L := by
  rw [unvW_put]; exact List.length_filter_le _ _
theorem unvW_lt {n : Nat} {L : Laid} {q : Int × Option (List Int)} (h0 : -3 ≤ q.1) (h1 : q.1 ≤ n + 2) (h : q.1 ∉ L.map (·.1)) : unvW n (L ++ [q]) < unvW n L := by
  rw [unvW_put]
  have e : (((q.1 + 3).toNat : Nat) : Int) - 3 = q.1 := by omega
  refine List.length_filter_lt_length_iff_exists.mpr ⟨(q.1 + 3).toNat, List.mem_filter.mpr ⟨List.mem_range.mpr (by omega), ?_⟩, ?_⟩
  · rw [e]; exact decide_eq_true h
  · rw [e]; simp
def outs (n : Nat) (xs : List Int) : Nat := (xs.filter fun x : Int => decide (x < -3 ∨ x > (n : Int) + 2)).length
theorem outs_app {n xs ys} : outs n (xs ++ ys) = outs n xs + outs n ys := by unfold outs; rw [List.filter_append, List.length_append]
theorem outs_in {n : Nat} {x : Int} (h : -3 ≤ x ∧ x ≤ n + 2) : outs n [x] = 0 := by
  unfold outs
  rw [List.filter_cons_of_neg (by simp; omega)]; rfl
theorem outs_out {n : Nat} {x : Int} (h : ¬ (-3 ≤ x ∧ x ≤ n + 2)) : outs n [x] = 1 := by
  unfold outs
  rw [List.filter_cons_of_pos (by simp; omega)]; rfl
theorem outs_one {n : Nat} {x : Int} : outs n [x] ≤ 1 := List.length_filter_le _ _
theorem outs_foll {m : Nat} {fl : Str} {n l p : Int} (h : -3 ≤ p + n ∧ p + n ≤ (m : Int) + 2) : outs m (foll fl n l p) ≤ 1 := by
  unfold foll
  generalize (if l ≥ 128 then l - 256 else l) = d
  split
  · exact Nat.zero_le _
  · split
    · exact outs_one
    · split
      · exact outs_one
      · have e : [p + n, p + n + d] = [p + n] ++ [p + n + d] := rfl
        rw [e, outs_app, outs_in h]
        have := outs_one (n := m) (x := p + n + d)
        omega
theorem outs_all {n : Nat} {xs : List Int} (h : ∀ x ∈ xs, -3 ≤ x ∧ x ≤ (n : Int) + 2) : outs n xs = 0 := by
  unfold outs
  rw [List.length_eq_zero_iff, List.filter_eq_nil_iff]
  intro x hx z
  have := h x hx
  have := of_decide_eq_true z
  omega
structure RInv (fs : List FD) (vals : List Int) (w : List Int) (L : Laid) : Prop where
  b : w.length + L.length + 2 * unv vals.length L ≤ 72
  wb : ∀ x ∈ w, -1000 ≤ x ∧ x ≤ 1000
  nd : (L.map (·.1)).Nodup
  lb : ∀ q ∈ L, -1000 ≤ q.1 ∧ q.1 ≤ 1000
  ins : ∀ q ∈ L, q.2 = instrAt fs vals q.1
  o : L.length + outs vals.length w + unvW vals.length L + unv vals.length L ≤ 2 * vals.length + 6
theorem RInv.old {fs vals w p L} (h : RInv fs vals (w ++ [p]) L) : RInv fs vals w L := by
  have hb := h.b
  rw [List.length_append] at hb
  have ho := h.o
  rw [outs_app] at ho
  exact ⟨by omega, fun x hx => h.wb x (List.mem_append_left _ hx), h.nd, h.lb, h.ins, by omega⟩
theorem RInv.top {fs vals w p L} (h : RInv fs vals (w ++ [p]) L) : -1000 ≤ p ∧ p ≤ 1000 := h.wb p (List.mem_append_right _ (List.mem_singleton.mpr rfl))
theorem nexts_step {fs vals} (F : Fit fs vals) {p : Int} {L : Laid} (hp : p ∉ L.map (·.1)) : (nextsAt fs vals p).length + 2 * unv vals.length (L ++ [(p, instrAt fs vals p)]) ≤ 2 * unv vals.length L ∧ ∀ x ∈ nextsAt fs vals p, -1000 ≤ x ∧ x ≤ 1000 := by
  have hl := F.len
  rcases at_cases F p with ⟨_, e⟩ | ⟨f, hf, bs, last, p0, p1, _, _, _, _, bl, _, l0, l1, e⟩
  · rw [e]
    have := unv_mono (n := vals.length) (L := L) (q := (p, instrAt fs vals p))
    exact ⟨by show 0 + _ ≤ _; omega, by intro x h; cases h⟩
  · have ok := F.ok f hf
    have o1 := ok.l1
    have o4 := ok.l4
    have := unv_lt (n := vals.length) (L := L) (q := (p, instrAt fs vals p)) p0 (by show p < _; omega) hp
    rw [e]
    have := foll_len (fl := f.flow) (n := bs.length) (l := last) (p := p)
    exact ⟨by omega, foll_bd ⟨by omega, by omega⟩ ⟨l0, l1⟩ ⟨p0, by omega⟩⟩
theorem nexts_out {fs vals} (F : Fit fs vals) {p : Int} {L : Laid} (hp : p ∉ L.map (·.1)) : 1 + outs vals.length (nextsAt fs vals p) + unvW vals.length (L ++ [(p, instrAt fs vals p)]) + unv vals.length (L ++ [(p, instrAt fs vals p)]) ≤ outs vals.length [p] + unvW vals.length L + unv vals.length L := by
  have w0 := unvW_mono (n := vals.length) (L := L) (q := (p, instrAt fs vals p))
  have u0 := unv_mono (n := vals.length) (L := L) (q := (p, instrAt fs vals p))
  rcases at_cases F p with ⟨_, e⟩ | ⟨f, hf, bs, last, p0, p1, _, _, _, _, bl, _, l0, l1, e⟩
  · rw [e]
    have z : outs vals.length [] = 0 := rfl
    by_cases h : -3 ≤ p ∧ p ≤ vals.length + 2
    · have := unvW_lt (n := vals.length) (L := L) (q := (p, instrAt fs vals p)) h.1 h.2 hp
      omega
    · have := outs_out h
      omega
  · have ok := F.ok f hf
    have o1 := ok.l1
    have := unvW_lt (n := vals.length) (L := L) (q := (p, instrAt fs vals p)) (by show -3 ≤ p; omega) (by show p ≤ _; omega) hp
    have := unv_lt (n := vals.length) (L := L) (q := (p, instrAt fs vals p)) p0 (by show p < _; omega) hp
    rw [e]
    have := outs_foll (m := vals.length) (fl := f.flow) (n := bs.length) (l := last) (p := p) ⟨by omega, by omega⟩
    omega
theorem RInv.new {fs vals w p L} (F : Fit fs vals) (h : RInv fs vals (w ++ [p]) L) (hp : p ∉ L.map (·.1)) : RInv fs vals (w ++ nextsAt fs vals p) (L ++ [(p, instrAt fs vals p)]) := by
  have hb := h.b
  rw [List.length_append] at hb
  have hb : w.length + 1 + L.length + 2 * unv vals.length L ≤ 72 := hb
  obtain ⟨s1, s2⟩ := nexts_step F hp
  refine ⟨?_, fun x hx => ?_, ?_, fun q hq => ?_, fun q hq => ?_, ?_⟩
  · rw [List.length_append, List.length_append]
    show _ + (_ + 1) + _ ≤ _
    omega
  · rcases List.mem_append.mp hx with hx | hx
    · exact h.old.wb x hx
    · exact s2 x hx
  · rw [List.map_append, List.nodup_append]
    refine ⟨h.nd, by simp, fun x hx y hy e => ?_⟩
    rw [e, List.mem_singleton.mp hy] at hx
    exact hp hx
  · rcases List.mem_append.mp hq with hq | hq
    · exact h.lb q hq
    · rw [List.mem_singleton.mp hq]; exact h.top
  · rcases List.mem_append.mp hq with hq | hq
    · exact h.ins q hq
    · rw [List.mem_singleton.mp hq]
  · have ho := h.o
    have hn := nexts_out F hp
    rw [outs_app] at ho
    rw [outs_app, List.length_append]
    show _ + 1 + _ + _ + _ ≤ _
    omega
theorem run_ex {fs vals} (F : Fit fs vals) : ∀ (k : Nat) (w : List Int) (L : Laid), 3 * unv vals.length L + w.length ≤ k → RInv fs vals w L → ∃ m R, Run fs vals m w L R := by
  intro k
  induction k with
  | zero =>
    intro w L h _
    have : w = [] := List.eq_nil_of_length_eq_zero (by omega)
    subst this
    exact ⟨0, L, .done⟩
  | succ k ih =>
    intro w L h i
    rcases List.eq_nil_or_concat w with e | ⟨w', p, e⟩
    · subst e; exact ⟨0, L, .done⟩
    · rw [List.concat_eq_append] at e
      subst e
      rw [List.length_append] at h
      have h : 3 * unv vals.length L + (w'.length + 1) ≤ k + 1 := h
      by_cases hp : p ∈ L.map (·.1)
      · obtain ⟨m, R, r⟩ := ih w' L (by omega) i.old
        exact ⟨_, R, .old rfl hp r⟩
      · obtain ⟨s1, _⟩ := nexts_step F hp
        have mo := unv_mono (n := vals.length) (L := L) (q := (p, instrAt fs vals p))
        obtain ⟨m, R, r⟩ := ih _ _ (by rw [List.length_append]; omega) (i.new F hp)
        exact ⟨_, R, .new rfl hp r⟩
theorem Run.end_ {fs vals m w L R} (F : Fit fs vals) (h : Run fs vals m w L R) : RInv fs vals w L → RInv fs vals [] R := by
  induction h with
  | done => exact id
  | old hw hp _ ih => intro i; subst hw; exact ih i.old
  | new hw hp _ ih => intro i; subst hw; exact ih (i.new F hp)
theorem RInv.init {fs vals} (F : Fit fs vals) {roots : List Int} (l : roots.length ≤ 24) (b : ∀ x ∈ roots, -3 ≤ x ∧ x ≤ vals.length + 2) : RInv fs vals roots [] := by
  have h24 := F.len
  have u := unv_le (n := vals.length) (L := [])
  have w := unvW_le (n := vals.length) (L := [])
  have o := outs_all b
  exact ⟨by show _ + 0 + _ ≤ _; omega, fun x hx => by have := b x hx; omega, List.nodup_nil, (by intro q h; cases h), (by intro q h; cases h), by show 0 + _ + _ + _ ≤ _; omega⟩
/-- fewer than 64 places are reached -/
theorem RInv.few {fs vals w L} (F : Fit fs vals) (h : RInv fs vals w L) : L.length < 64 := by
  have := h.o
  have := F.len
  omega

end My
namespace My
open PySem PySem.Spec PyProof.Rows L2
/-! ### the law's own reach -/
theorem go_pop {H : Hp} {Q : VK} {p : Addr} {xs : List V} {y : V} (e : H p = some (.lst (xs ++ [y]))) (h : Q y (upd H p (.lst xs))) : rPop (.ref p) [] H Q :=
  ⟨p, xs ++ [y], y, rfl, rfl, e, by simp, by rw [List.dropLast_concat]; exact h⟩
def vOf (q : Option (List Int) × Addr) : V := if q.1.isSome then .ref q.2 else .non
abbrev LD := List (Int × (Option (List Int) × Addr))
def kvsL (l : LD) : List (Key × V) := l.map fun q => (.inl q.1, vOf q.2)
def laidOf (l : LD) : Laid := l.map fun q => (q.1, q.2.1)
theorem kvsL_len (l : LD) : (kvsL l).length = l.length := List.length_map _
theorem laidOf_len (l : LD) : (laidOf l).length = l.length := List.length_map _
structure LaidAt (H : Hp) (d : Addr) (l : LD) : Prop where
  ob : H d = some (.dK (kvsL l))
  tp : ∀ q ∈ l, ∀ bs, q.2.1 = some bs → H q.2.2 = some (.tup (bs.map V.int))
theorem LaidAt.ed {H H' : Hp} {d : Addr} {l : LD} {S : List Addr} (h : LaidAt H d l) (e : Vc.Ed S H H') (n : d ∉ S) : LaidAt H' d l :=
  ⟨e.keep _ _ n h.ob, fun q hq bs hb => e.tup _ _ (h.tp q hq bs hb)⟩
theorem LaidAt.ed0 {H H' : Hp} {d : Addr} {l : LD} (e : Vc.Ed [] H H') (h : LaidAt H d l) : LaidAt H' d l := h.ed e (fun z => nomatch z)
theorem LaidAt.ed1 {H H' : Hp} {d q : Addr} {l : LD} (e : Vc.Ed [q] H H') (n : d ≠ q) (h : LaidAt H d l) : LaidAt H' d l := h.ed e (fun z => n (List.mem_singleton.mp z))
theorem keys_laid {l : LD} : (laidOf l).map (·.1) = l.map (·.1) := by unfold laidOf; rw [List.map_map]; rfl
theorem valL_none {l : LD} {p : Int} (h : p ∉ l.map (·.1)) : valV (kvsL l) (.inl p) = none := by
  unfold valV kvsL
  rw [Option.map_eq_none_iff, List.find?_eq_none]
  intro x hx
  obtain ⟨q, hq, rfl⟩ := List.mem_map.mp hx
  intro z
  have := Sum.inl.inj (of_decide_eq_true z)
  exact h (List.mem_map.mpr ⟨q, hq, this⟩)
theorem kvsL_nd {l : LD} (h : (l.map (·.1)).Nodup) : ((kvsL l).map (·.1)).Nodup := by
  have : (kvsL l).map (·.1) = (l.map (·.1)).map (fun b => (Sum.inl b : Key)) := by unfold kvsL; rw [List.map_map, List.map_map]; rfl
  rw [this]; exact nodup_inl h
theorem valL_mem {l : LD} {q : Int × (Option (List Int) × Addr)} (h : (l.map (·.1)).Nodup) (hq : q ∈ l) : valV (kvsL l) (.inl q.1) = some (vOf q.2) :=
  valV_mem (kvsL_nd h) (List.mem_map.mpr ⟨q, hq, rfl⟩)
theorem valL_in {l : LD} {p : Int} : (valV (kvsL l) (.inl p)).isSome = decide (p ∈ l.map (·.1)) := by
  by_cases h : p ∈ l.map (·.1)
  · rw [decide_eq_true h]
    cases e : valV (kvsL l) (.inl p) with
    | some v => rfl
    | none =>
      obtain ⟨q, hq, rfl⟩ := List.mem_map.mp h
      unfold valV kvsL at e
      rw [Option.map_eq_none_iff, List.find?_eq_none] at e
      exact absurd (decide_eq_true rfl) (e _ (List.mem_map.mpr ⟨q, hq, rfl⟩))
  · rw [valL_none h, decide_eq_false h]; rfl
theorem putL {l : LD} {p : Int} {x : Option (List Int) × Addr} (h : p ∉ l.map (·.1)) : putK (kvsL l) (.inl p) (vOf x) = kvsL (l ++ [(p, x)]) := by
  rw [putK_new _ (valL_none h)]
  unfold kvsL
  rw [List.map_append]; rfl
theorem putL2 {l : LD} {p : Int} {x y : Option (List Int) × Addr} (h : p ∉ l.map (·.1)) : putK (kvsL (l ++ [(p, x)])) (.inl p) (vOf y) = kvsL (l ++ [(p, y)]) := by
  unfold putK
  rw [if_pos]
  · unfold kvsL
    rw [List.map_map, List.map_append, List.map_append]
    congr 1
    · refine List.map_congr_left fun q hq => ?_
      show (if Sum.inl q.1 = Sum.inl p then _ else _) = _
      rw [if_neg]
      intro z
      exact h (List.mem_map.mpr ⟨q, hq, Sum.inl.inj z⟩)
    · show [if Sum.inl p = Sum.inl p then _ else _] = _
      rw [if_pos rfl]; rfl
  · unfold kvsL
    rw [List.map_append, List.any_append]
    simp
theorem kvsL_get {l : LD} {i : Nat} {k : Key} {v : V} (h : (kvsL l)[i]? = some (k, v)) : ∃ q, l[i]? = some q ∧ k = .inl q.1 ∧ v = vOf q.2 := by
  unfold kvsL at h
  rw [List.getElem?_map] at h
  cases e : l[i]? with
  | none => rw [e] at h; cases h
  | some q => rw [e] at h; injection h with h; injection h with h1 h2; exact ⟨q, rfl, h1.symm, h2.symm⟩
theorem vOf_cases (x : Option (List Int) × Addr) : (x.1 = none ∧ vOf x = .non) ∨ ∃ bs, x.1 = some bs ∧ vOf x = .ref x.2 := by
  obtain ⟨o, a⟩ := x
  cases o with
  | none => exact .inl ⟨rfl, rfl⟩
  | some bs => exact .inr ⟨bs, rfl, rfl⟩
def spFollow (K : PySem.W.Frag) : Sp := fun vs H Q _ => ∃ (f g : Addr) (place : Int) (its : List (FD × Addr)) (stop : Int) (p : FD × Addr) (bs : List Int) (last : Int), vs = [.ref f, .ref g, .int place] ∧ TupsAt H f its ∧ Valid stop (its.map (·.1)) ∧ p ∈ its ∧ SqT K H g (bs.map V.int) ∧ Instr bs p.1.byte last ∧ 0 ≤ last ∧ last ≤ 255 ∧ -1000 ≤ place ∧ place ≤ 1000 ∧
  ∀ q H', H q = none → Vc.Ed [] H H' → H' q = some (.lst ((foll p.1.flow bs.length last place).map V.int)) → Q (.ref q) H'
section
variable {P : Program} {w : World} {K : PySem.W.Frag} {mg : Str → Option Value} {base : Heap} {A : Ad}
theorem ok__law_follow (T : Txt K mg A) : FnOk P w K mg base CX0 1 A.f__law_follow A.d__law_follow ["_law_forms_here", "_law_fetched", "_law_place"] (spFollow K) := by
  refine T.F__law_follow.ok sc__law_follow (fun vs H Q E h => ?_) (fun cdv Ar outer s H vs Q E hr h => ?_)
  · obtain ⟨f, g, place, its, stop, p, bs, last, rfl, _⟩ := h
    rfl
  · obtain ⟨f, g, place, its, stop, p, bs, last, rfl, hT, Va, hp, hg, I, b0, b1, p0, p1, k⟩ := h
    have hu := hu_of hr
    have hv := kvsOf_val Va.ndb hp
    have hf := hT.ob
    have ht := hT.tp p hp
    have hfl := (Va.ok p.1 (List.mem_map.mpr ⟨p, hp, rfl⟩)).fl
    have i0 := I.at0
    have i1 := I.atL
    have l64 := I.n64
    have ll : (List.map V.int bs).length ≤ 1000 := by rw [List.length_map]; omega
    refine ⟨_, (pss_cons (ps_set (i := 3) sc__law_follow.nd rfl (Or.inl rfl) (pe_op op_add (pv 2) (pe_callB call_len_seq (by rfl) T.n_len (by decide +kernel) (pa_cons (pv 1) pa_nil)))) (pss_cons (ps_set (i := 4) sc__law_follow.nd rfl (Or.inl rfl) (pe_op op_sub (pe_op op_add (pv 3) (pe_ix ix_tup (pv 1) (pe_un un_neg pe_int) (fun _ _ => rfl))) (pe_op op_mulW pe_int (pe_callTy call_int1 (by rfl) T.n_int (by decide +kernel) (pa_cons (pe_cmpR op_gt (pe_ix ix_tup (pv 1) (pe_un un_neg pe_int) (fun _ _ => rfl)) pe_int (nomark _)) pa_nil))))) (pss_cons (ps_set (i := 5) sc__law_follow.nd rfl (Or.inl rfl) (pe_ix ix_tup (pe_dget (by exact hu) (pv 0) (pe_ix ix_tup (pv 1) pe_int (fun _ _ => rfl)) (fun _ _ => rfl)) pe_int (fun _ _ => rfl))) (pss_cons (ps_if (pt_cmpR op_eq (pv 5) pe_str (nomark _)) (pss_one (ps_ret (pe_lst pa_nil))) pss_nil) (pss_cons (ps_if (PW.pt (pw_and (pt_cmpR op_eq (pv 5) pe_str (nomark _)) (pw_and1 (pt_cmpR op_ne (pv 4) (pv 3) (nomark _))))) (pss_one (ps_ret (pe_lst (pa_cons (pv 3) (pa_cons (pv 4) pa_nil))))) pss_nil) (pss_one (ps_ret (pe_ix ix_list (pe_lst (pa_cons (pe_lst (pa_cons (pv 3) pa_nil)) (pa_cons (pe_lst (pa_cons (pv 4) pa_nil)) pa_nil))) (pe_callTy call_int1 (by rfl) T.n_int (by decide +kernel) (pa_cons (pe_cmpR op_eq (pv 5) pe_str (nomark _)) pa_nil)) (fun _ _ => rfl))))))))), ?_⟩
    generalize p.1.flow = fl at hfl ht k
    walk_at "go"
    have fin : ∀ (xs : List Int) (H1 : Hp), Vc.Ed [] H H1 → xs = foll fl bs.length last place → ∀ q, H1 q = none → Q (.ref q) (upd H1 q (.lst (xs.map V.int))) := by
      rintro xs H1 e1 rfl q nq
      generalize hu2 : upd _ q _ = H2
      obtain ⟨e2, h2⟩ := Vc.alloc hu2 nq
      exact k q H2 (by walk_at "free") (by walk_at "ed") h2
    refine Vc.go_ite (fun h1 => ?_) (fun h1 => ?_)
    · subst h1
      walk_at "go"
      exact fin [] H .refl foll_end.symm
    walk_at "go"
    rw [List.length_map]
    have hz : (if decide (last > 127) = true then (1 : Int) else 0) = if last ≥ 128 then 1 else 0 := by
      by_cases h : last > 127
      · rw [if_pos (decide_eq_true h), if_pos (by omega)]
      · rw [if_neg (fun z => h (of_decide_eq_true z)), if_neg (by omega)]
    rw [hz]
    have hd : place + (bs.length : Int) + last - 256 * (if last ≥ 128 then 1 else 0) = place + bs.length + (if last ≥ 128 then last - 256 else last) := by split <;> omega
    rw [hd]
    generalize hdd : (if last ≥ 128 then last - 256 else last) = d
    clear hz hd
    refine Vc.go_ite (fun h2 => ?_) (fun h2 => ?_)
    · subst h2
      walk_at "go"
      refine Vc.go_iten (fun h3 => ?_) (fun h3 => ?_)
      · walk_at "go"
        exact fin [_, _] H .refl (foll_test1 hdd (by omega)).symm
      · walk_at "go"
        intro q1 nq1
        generalize hu1 : upd _ q1 _ = H1
        obtain ⟨e1, hq1⟩ := Vc.alloc hu1 nq1
        walk_at "go"
        intro q2 nq2
        generalize hu2 : upd _ q2 _ = H2
        obtain ⟨e2, hq2⟩ := Vc.alloc hu2 nq2
        walk_at "go"
        intro q3 nq3
        generalize hu3 : upd _ q3 _ = H3
        obtain ⟨e3, hq3⟩ := Vc.alloc hu3 nq3
        walk_at "go"
        have ix : atI [V.ref q1, .ref q2] (if decide (("test" : Str) = "jump") = true then 1 else 0) = some (.ref q1) := rfl
        walk_at "go"
        refine k q1 H3 (by walk_at "free") (by walk_at "ed") ?_
        rw [foll_test0 hdd (by omega), show place + (bs.length : Int) + d = place + bs.length by omega]
        walk_at "hs"
    · walk_at "go"
      intro q1 nq1
      generalize hu1 : upd _ q1 _ = H1
      obtain ⟨e1, hq1⟩ := Vc.alloc hu1 nq1
      walk_at "go"
      intro q2 nq2
      generalize hu2 : upd _ q2 _ = H2
      obtain ⟨e2, hq2⟩ := Vc.alloc hu2 nq2
      walk_at "go"
      intro q3 nq3
      generalize hu3 : upd _ q3 _ = H3
      obtain ⟨e3, hq3⟩ := Vc.alloc hu3 nq3
      rcases hfl with e | e | e | e
      · subst e
        walk_at "go"
        have ix : atI [V.ref q1, .ref q2] (if decide (("next" : Str) = "jump") = true then 1 else 0) = some (.ref q1) := rfl
        walk_at "go"
        refine k q1 H3 (by walk_at "free") (by walk_at "ed") ?_
        rw [foll_next]
        walk_at "hs"
      · subst e
        walk_at "go"
        have ix : atI [V.ref q1, .ref q2] (if decide (("jump" : Str) = "jump") = true then 1 else 0) = some (.ref q2) := rfl
        walk_at "go"
        refine k q2 H3 ?_ (by walk_at "ed") ?_
        · have : H1 q2 = none := nq2
          walk_at "free"
        · rw [foll_jump hdd]
          walk_at "hs"
      · exact (h2 e).elim
      · exact (h1 e).elim
def spReach : Sp := fun vs H Q _ => ∃ (f v r : Addr) (its : List (FD × Addr)) (stop : Int) (vals roots : List Int) (m : Nat) (R : Laid), vs = [.ref f, .ref v, .ref r] ∧ TupsAt H f its ∧ Valid stop (its.map (·.1)) ∧ H v = some (.lst (vals.map V.int)) ∧ Fit (its.map (·.1)) vals ∧ H r = some (.lst (roots.map V.int)) ∧ roots.length ≤ 24 ∧ (∀ x ∈ roots, -3 ≤ x ∧ x ≤ vals.length + 2) ∧ Run (its.map (·.1)) vals m roots [] R ∧
  ∀ d l H', H d = none → Vc.Ed [] H H' → LaidAt H' d l → laidOf l = R → Q (.ref d) H'
theorem ok__law_reach (T : Txt K mg A) : FnOk P w K mg base CX0 2 A.f__law_reach A.d__law_reach ["_law_forms_here", "_law_values_here", "_law_roots_here"] spReach := by
  have G__law_follow := ok__law_follow (P := P) (w := w) (base := base) T
  refine T.F__law_reach.ok sc__law_reach (fun vs H Q E h => ?_) (fun cdv Ar outer s H vs Q E hr h => ?_)
  · obtain ⟨f, v, r, its, stop, vals, roots, m, R, rfl, _⟩ := h
    rfl
  · obtain ⟨f, v, r, its, stop, vals, roots, m, R, rfl, hT, Va, hV, F, hR, r24, rb, hrun, k⟩ := h
    have hu := hu_of hr
    have vl := F.len
    have I0 := RInv.init F r24 rb
    refine ⟨_, (pss_cons (ps_set (i := 3) sc__law_reach.nd rfl (Or.inl rfl) pe_dnewK) (pss_cons (ps_set (i := 4) sc__law_reach.nd rfl (Or.inl rfl) (pe_callTy Vc.call_lstD (by rfl) T.n_list (by decide +kernel) (pa_cons (pv 2) pa_nil))) (pss_cons (ps_while PassesOwn.never (pt_cmpR (op_neD (by exact hr.units)) (pv 4) (pe_lst pa_nil) (nomark _)) (pss_cons (ps_set (i := 5) sc__law_reach.nd rfl (Or.inl rfl) (pe_bm0 PySem.F.plainAttrs_list PySem.F.slot_list_pop PySem.F.type_list_pop mt_pop (pv 4))) (pss_one (ps_if (pt_cmp (pc_dnotin (by exact hu) (pv 5) (pv 3))) (pss_cons (ps_dput (by exact hu) (pv 3) (pv 5) pe_non rfl) (pss_one (ps_if (PW.pt (pw_and (pt_chain op_le op_lt pe_int (pv 5) (pe_callB call_len_seq (by rfl) T.n_len (by decide +kernel) (pa_cons (pv 1) pa_nil))) (pw_and1 (pt_cmp (pc_din (by exact hu) (pe_ix ix_list (pv 1) (pv 5) (fun _ _ => rfl)) (pv 0)))))) (pss_cons (ps_set (i := 6) sc__law_reach.nd rfl (Or.inl rfl) (pe_op op_add (pv 5) (pe_ix ix_tup (pe_dget (by exact hu) (pv 0) (pe_ix ix_list (pv 1) (pv 5) (fun _ _ => rfl)) (fun _ _ => rfl)) pe_int (fun _ _ => rfl)))) (pss_one (ps_if (pt_cmpR op_le (pv 6) (pe_callB call_len_seq (by rfl) T.n_len (by decide +kernel) (pa_cons (pv 1) pa_nil)) (nomark _)) (pss_cons (ps_dput (by exact hu) (pv 3) (pv 5) (pe_callTy Vc.call_tupD (by rfl) T.n_tuple (by decide +kernel) (pa_cons (pe_slice sl_list (pv 1) (po_some (pv 5)) (po_some (pv 6))) pa_nil)) rfl) (pss_one (ps_set (i := 4) sc__law_reach.nd rfl (Or.inl rfl) (pe_op op_cat (pv 4) (pe_call G__law_follow (by exact hr.mono (by decide)) (by rfl) T.g__law_follow T.F__law_follow.kp T.b__law_follow .nil pass0 (pa_cons (pv 0) (pa_cons (pe_dget (by exact hu) (pv 3) (pv 5) (fun _ _ => rfl)) (pa_cons (pv 5) pa_nil)))))))) pss_nil))) pss_nil))) pss_nil)))) (pss_one (ps_ret (pv 3)))))), ?_⟩
    walk_at "go"
    intro D nD
    generalize hu1 : upd _ D _ = H1
    obtain ⟨e1, hD⟩ := Vc.alloc hu1 nD
    have hR1 := e1.at0 hR
    walk_at "go"
    intro W nW
    generalize hu2 : upd _ W _ = H2
    obtain ⟨e2, hW⟩ := Vc.alloc hu2 nW
    have nWD : W ≠ D := fun z => by rw [z, hD] at nW; cases nW
    have hD2 := e2.at0 hD
    have nW0 := e1.dom _ nW
    walk_at "go"
    refine ⟨fun mm σ H' => ∃ (W : Addr) (w : List Int) (l : LD) (y5 y6 : Option V), σ = [some (.ref f), some (.ref v), some (.ref r), some (.ref D), some (.ref W), y5, y6] ∧ Vc.Ed [] H H' ∧ H W = none ∧ W ≠ D ∧ H' W = some (.lst (w.map V.int)) ∧ LaidAt H' D l ∧ Run (its.map (·.1)) vals mm w (laidOf l) R ∧ RInv (its.map (·.1)) vals w (laidOf l), ⟨m, W, roots, [], none, none, rfl, by walk_at "ed", nW0, nWD, hW, ⟨hD2, by intro q h; cases h⟩, hrun, I0⟩, ?_⟩
    clear hW hD hD2 hu1 hu2 e1 e2 hR1 nWD nW nW0 I0 hrun W
    rintro mm σ H2 ⟨W, w, l, y5, y6, rfl, e2, nW, nWD, hW, hL, hrun, I⟩
    have hV2 := e2.at0 hV
    have hT2 := hT.ed0 e2
    walk_at "go"
    intro M nM
    generalize hu3 : upd _ M _ = H3
    obtain ⟨e3, hM⟩ := Vc.alloc hu3 nM
    have hW3 := e3.at0 hW
    have hL3 := hL.ed0 e3
    have e3' : Vc.Ed [] H H3 := by walk_at "ed"
    have hT3 := hT2.ed0 e3
    have hV3 := e3.at0 hV2
    refine go_neLs (ms := []) (.of hW3) (.of hM) ?_
    clear hM hu3 nM e2 e3 hT2 hV2 hL hW
    walk_at "go"
    refine Vc.go_iten (fun h1 => ?_) (fun h1 => ?_)
    rotate_left
    · subst h1
      walk_at "go"
      exact k D l H3 nD e3' hL3 hrun.fin
    obtain ⟨w', p, rfl⟩ : ∃ w' p, w = w' ++ [p] := by
      rcases List.eq_nil_or_concat w with e | ⟨w', p, e⟩
      · exact (h1 e).elim
      · exact ⟨w', p, by rw [e, List.concat_eq_append]⟩
    obtain ⟨m', rfl, hstep⟩ := hrun.inv
    refine ⟨fun σ' H' => ∃ (W : Addr) (w : List Int) (l : LD) (y5 y6 : Option V), σ' = [some (.ref f), some (.ref v), some (.ref r), some (.ref D), some (.ref W), y5, y6] ∧ Vc.Ed [] H H' ∧ H W = none ∧ W ≠ D ∧ H' W = some (.lst (w.map V.int)) ∧ LaidAt H' D l ∧ Run (its.map (·.1)) vals m' w (laidOf l) R ∧ RInv (its.map (·.1)) vals w (laidOf l), ?_, ?_⟩
    · rintro σ' H' ⟨W, w, l, y5, y6, rfl, a1, a2, a3, a4, a5, a6, a7⟩
      exact ⟨m', Nat.lt_succ_self _, W, w, l, y5, y6, rfl, a1, a2, a3, a4, a5, a6, a7⟩
    have hb := I.b
    rw [List.length_append, laidOf_len] at hb
    have hb : w'.length + 1 + l.length + 2 * unv vals.length (laidOf l) ≤ 72 := hb
    have pt := I.top
    have kl : (kvsL l).length ≤ 1000 := by rw [kvsL_len]; omega
    rw [List.map_append] at hW3
    walk_at "go"
    refine go_pop hW3 ?_
    generalize hu4 : upd _ W _ = H4
    obtain ⟨e4, hW4⟩ := Vc.chg hu4 hW3
    have hL4 := hL3.ed1 e4 nWD.symm
    have e4' : Vc.Ed [] H H4 := by walk_at "ed"
    have hT4 := hT.ed0 e4'
    have hV4 := e4'.at0 hV
    have hD4 := hL4.ob
    clear hW3 hL3 e4 e3' hT3 hV3 hu4
    walk_at "go"
    rw [valL_in]
    rw [keys_laid] at hstep
    rcases hstep with ⟨hp, hrun⟩ | ⟨hp, hrun⟩
    · rw [decide_eq_true hp]
      walk_at "go"
      exact ⟨W, w', l, _, _, rfl, e4', nW, nWD, hW4, hL4, hrun, I.old⟩
    rw [decide_eq_false hp]
    have I2 := I.new F (by rw [keys_laid]; exact hp)
    walk_at "go"
    generalize hu5 : upd _ D _ = H5
    obtain ⟨e5, hD5⟩ := Vc.chg hu5 hD4
    rw [show V.non = vOf (none, D) from rfl, putL hp] at hD5
    have hW5 := e5.at1 nWD hW4
    have e5' : Vc.Ed [] H H5 := by walk_at "ed"
    have hL5 : LaidAt H5 D (l ++ [(p, (none, D))]) := ⟨hD5, fun q hq bs hb => by
      rcases List.mem_append.mp hq with hq | hq
      · exact e5.tup _ _ (hL4.tp q hq bs hb)
      · rw [List.mem_singleton.mp hq] at hb; cases hb⟩
    have hT5 := hT.ed0 e5'
    have hV5 := e5'.at0 hV
    have hf5 := hT5.ob
    have lo : ∀ x, laidOf (l ++ [(p, x)]) = laidOf l ++ [(p, x.1)] := fun x => by unfold laidOf; rw [List.map_append]; rfl
    clear hW4 hL4 e4' hT4 hV4 hD4 e5 hu5
    have none_ : instrAt (its.map (·.1)) vals p = none → nextsAt (its.map (·.1)) vals p = [] := fun h => by
      rcases at_cases F p with ⟨_, e⟩ | ⟨_, _, _, _, _, _, _, _, e, _⟩
      · exact e
      · rw [h] at e; cases e
    have bad : instrAt (its.map (·.1)) vals p = none → ∀ (σ' : L2.St) y6 H6, σ' = [some (V.ref f), some (.ref v), some (.ref r), some (.ref D), some (.ref W), some (.int p), y6] → Vc.Ed [] H5 H6 → ∃ (W : Addr) (w : List Int) (l : LD) (y5 y6' : Option V), σ' = [some (.ref f), some (.ref v), some (.ref r), some (.ref D), some (.ref W), y5, y6'] ∧ Vc.Ed [] H H6 ∧ H W = none ∧ W ≠ D ∧ H6 W = some (.lst (w.map V.int)) ∧ LaidAt H6 D l ∧ Run (its.map (·.1)) vals m' w (laidOf l) R ∧ RInv (its.map (·.1)) vals w (laidOf l) := by
      rintro h _ y6 H6 rfl e6
      have h2 := none_ h
      rw [h, h2, List.append_nil] at hrun I2
      exact ⟨W, w', l ++ [(p, (none, D))], _, _, rfl, by walk_at "ed", nW, nWD, e6.at0 hW5, hL5.ed0 e6, by rw [lo]; exact hrun, by rw [lo]; exact I2⟩
    refine Vc.go_ite (fun h2 => ?_) (fun h2 => ?_)
    rotate_left
    · walk_at "go"
      exact bad (instr_out (.inl (by omega))) _ _ _ rfl .refl
    walk_at "go"
    rw [List.length_map]
    refine Vc.go_ite (fun h3 => ?_) (fun h3 => ?_)
    rotate_left
    · walk_at "go"
      exact bad (instr_out (.inr (by omega))) _ _ _ rfl .refl
    have hin : ¬ (p < 0 ∨ p ≥ vals.length) := by omega
    have hx := at_getD (bs := vals) (at_ := p) h2 h3
    walk_at "go"
    refine Vc.go_iteb (fun h4 => ?_) (fun h4 => ?_)
    rotate_left
    · walk_at "go"
      rcases find_byte (b := vals.getD p.toNat 0) Va.ndb with ⟨_, hf⟩ | ⟨q, hq, hb, _⟩
      · exact bad (instr_nf hin hf) _ _ _ rfl .refl
      · rw [← hb, kvsOf_val Va.ndb hq] at h4; cases h4
    rcases find_byte (b := vals.getD p.toNat 0) Va.ndb with ⟨hf, _⟩ | ⟨q, hq, hb, hf⟩
    · exfalso
      obtain ⟨q, hq, hb⟩ := kvs_some h4
      exact hf (List.mem_map.mpr ⟨q, hq, hb⟩)
    have hv := kvsOf_val Va.ndb hq
    rw [hb] at hv
    have ht5 := hT5.tp q hq
    have ok := Va.ok q.1 (List.mem_map.mpr ⟨q, hq, rfl⟩)
    have ok1 := ok.l1
    have ok4 := ok.l4
    walk_at "go"
    rw [List.length_map]
    refine Vc.go_ite (fun h5 => ?_) (fun h5 => ?_)
    rotate_left
    · walk_at "go"
      exact bad (instr_long hin hf (by omega)) _ _ _ rfl .refl
    walk_at "go"
    intro q1 nq1
    generalize hu6 : upd _ q1 _ = H6
    obtain ⟨e6, hq1⟩ := Vc.alloc hu6 nq1
    rw [cut_ints h2 (by omega)] at hq1
    walk_at "go"
    intro t nt
    generalize hu7 : upd _ t _ = H7
    obtain ⟨e7, ht7⟩ := Vc.alloc hu7 nt
    have hL7 := (hL5.ed0 e6).ed0 e7
    have hD7 := hL7.ob
    have hW7 := e7.at0 (e6.at0 hW5)
    have e7' : Vc.Ed [] H H7 := by walk_at "ed"
    rcases at_cases F p with ⟨e, _⟩ | ⟨q', hq', bs, last, _, _, hbq, hf', hbs, ebs, ln, In, b0, b1, hnx⟩
    · rw [instr_ok hin hf (by omega)] at e; cases e
    rw [hf] at hf'
    injection hf' with hf'
    subst hf'
    rw [← ebs] at ht7
    have kl2 : (kvsL (l ++ [(p, ((none : Option (List Int)), D))])).length ≤ 1000 := by rw [kvsL_len, List.length_append]; show _ + 1 ≤ 1000; omega
    clear hL5 hW5 hD5 e6 e7 hq1 hu6 hu7 ht5 hf5 hT5 hV5
    walk_at "go"
    generalize hu8 : upd _ D _ = H8
    obtain ⟨e8, hD8⟩ := Vc.chg hu8 hD7
    rw [show V.ref t = vOf (some bs, t) from rfl, putL2 hp] at hD8
    have hL8 : LaidAt H8 D (l ++ [(p, (some bs, t))]) := ⟨hD8, fun q hq bs' hb' => by
      rcases List.mem_append.mp hq with hq | hq
      · exact e8.tup _ _ (hL7.tp q (List.mem_append_left _ hq) bs' hb')
      · rw [List.mem_singleton.mp hq] at hb' ⊢
        injection hb' with hb'
        rw [← hb']; exact e8.tup _ _ ht7⟩
    have ht8 := e8.tup _ _ ht7
    have hW8 := e8.at1 nWD hW7
    have e8' : Vc.Ed [] H H8 := by walk_at "ed"
    have hT8 := hT.ed0 e8'
    have hnd : ((l ++ [(p, (some bs, t))]).map (·.1)).Nodup := by
      have := I2.nd
      rw [List.map_append, keys_laid] at this
      rw [List.map_append]; exact this
    have hv8 : valV (kvsL (l ++ [(p, (some bs, t))])) (.inl p) = some (.ref t) := valL_mem hnd (List.mem_append_right _ (List.mem_singleton.mpr rfl))
    clear hL7 hD7 hW7 e7' e8 hu8 ht7
    walk_at "go"
    refine ⟨f, t, p, its, stop, q, bs, last, rfl, hT8, Va, hq, .of ht8, In, b0, b1, by omega, by omega, fun z H9 nz e9 hz => ?_⟩
    have hW9 := e9.at0 hW8
    walk_at "go"
    refine Vc.go_cat hW9 hz (by rw [List.length_map, List.length_map]; have := foll_len (fl := q.1.flow) (n := bs.length) (l := last) (p := p); omega) fun X nX => ?_
    generalize hu10 : upd _ X _ = H10
    obtain ⟨e10, hX⟩ := Vc.alloc hu10 nX
    have hL10 := (hL8.ed0 e9).ed0 e10
    walk_at "go"
    rw [hbs, hnx] at hrun I2
    refine ⟨X, w' ++ foll q.1.flow bs.length last p, _, _, _, rfl, by walk_at "ed", ?_, fun z => ?_, by rw [List.map_append]; exact hX, hL10, by rw [lo]; exact hrun, by rw [lo]; exact I2⟩
    · have : H8 X = none := by walk_at "free"
      exact e8'.dom _ this
    · have := e9.at0 hL8.ob
      rw [← z, nX] at this; cases this
end

end My
namespace My
open PySem PySem.Spec PyProof.Rows L2
/-! ### roots drawn -/
def spRoots : Sp := fun vs H Q _ => ∃ (b c : Addr) (n : Nat) (f v : Addr) (its : List (FD × Addr)) (stop : Int) (vals : List Int), vs = [.ref b, .ref f, .ref v] ∧ Pen H b c n ∧ n + 200 ≤ LIM ∧ TupsAt H f its ∧ Valid stop (its.map (·.1)) ∧ H v = some (.lst (vals.map V.int)) ∧ Fit (its.map (·.1)) vals ∧ 1 ≤ vals.length ∧
  ∀ (L : Addr) (rs : List Int) (H' : Hp), H L = none → Vc.Ed [b] H H' → Pen H' b c (n + 200) → H' L = some (.lst (rs.map V.int)) → (rs.length = 1 ∨ rs.length = 2 ∨ rs.length = 3 ∨ rs.length = 24) → (∀ x ∈ rs, -3 ≤ x ∧ x ≤ vals.length + 2) → Q (.ref L) H'
section
variable {P : Program} {w : World} {K : PySem.W.Frag} {mg : Str → Option Value} {base : Heap} {A : Ad}
theorem ok__law_roots (T : Txt K mg A) : FnOk P w K mg base CX0 3 A.f__law_roots A.d__law_roots ["_law_pen_here", "_law_forms_here", "_law_values_here"] spRoots := by
  have G__law_draw := ok__law_draw (P := P) (w := w) (base := base) T
  have G__law_reach := ok__law_reach (P := P) (w := w) (base := base) T
  refine T.F__law_roots.ok sc__law_roots (fun vs H Q E h => ?_) (fun cdv Ar outer s H vs Q E hr h => ?_)
  · obtain ⟨b, c, n, f, v, its, stop, vals, rfl, _⟩ := h
    rfl
  · obtain ⟨b, c, n, f, v, its, stop, vals, rfl, hB, nl, hT, Va, hV, F, v1, k⟩ := h
    have nL : ∀ m : Nat, m ≤ n + 200 → m ≤ LIM := fun m h => by omega
    have hu := hu_of hr
    have nfb := ne_form hB hT
    have nvb := hB.ne_ints hV
    have vl := F.len
    obtain ⟨m, R, hrun⟩ := run_ex F _ [0] [] (Nat.le_refl _) (RInv.init F (by decide) (by intro x h; rw [List.mem_singleton.mp h]; omega))
    have hend := hrun.end_ F (RInv.init F (by decide) (by intro x h; rw [List.mem_singleton.mp h]; omega))
    refine ⟨_, (pss_cons (ps_set (i := 3) sc__law_roots.nd rfl (Or.inr rfl) (pe_call G__law_reach (by exact hr.mono (by decide)) (by rfl) T.g__law_reach T.F__law_reach.kp T.b__law_reach .nil pass0 (pa_cons (pv 1) (pa_cons (pv 2) (pa_cons (pe_lst (pa_cons pe_int pa_nil)) pa_nil))))) (pss_cons (ps_set (i := 4) sc__law_roots.nd rfl (Or.inl rfl) (pe_op op_cat (pe_lock (pe_lc (own := [("_law_place", 9)]) (g := gName 9) rfl sc__law_roots.nd (pi_keys (pv 3)) (blkOk_by (own := [("_law_place", 9)]) (N := ["_law_pen_here", "_law_forms_here", "_law_values_here", "_law_reach_here", "_law_good", "_law_odd", "_law_found", "_law_k", "_law_some", "_law_place"]) (sc := defScope s__law_roots) (by decide +kernel)) (fun _ _ _ _ _ => by exact (pg_name (i := 9) sc__law_roots.nd rfl (Or.inl rfl))) (fun _ _ _ _ _ => by (refine' Vc.blkT ?h ?q; (case h => exact pts_one (pt_cmpR op_notN (pe_dget (by exact hu) (pv 3) (pv 9) (fun _ _ => rfl)) pe_non (nomark _))); (case q => first | exact rfl | (dsimp only; done) | (dsimp only; exact rfl)))) (fun _ _ _ _ _ => by (refine' Vc.blkE ?h ?q; (case h => exact (pv 9)); (case q => first | exact rfl | (dsimp only; done) | (dsimp only; exact rfl)))))) (pe_lst (pa_cons pe_int pa_nil)))) (pss_cons (ps_set (i := 5) sc__law_roots.nd rfl (Or.inl rfl) (pe_callTy call_int1 (by rfl) T.n_int (by decide +kernel) (pa_cons (pe_cmpR op_eq (pe_call G__law_draw (by exact hr.mono (by decide)) (by rfl) T.g__law_draw T.F__law_draw.kp T.b__law_draw .nil pass0 (pa_cons (pv 0) (pa_cons pe_int pa_nil))) pe_int (nomark _)) pa_nil))) (pss_cons (ps_set (i := 6) sc__law_roots.nd rfl (Or.inl rfl) (pe_lst pa_nil)) (pss_cons (ps_for PassesOwn.never rfl (pi_range1 (by rfl) T.n_range (pa_cons (pe_ix ix_list (pe_lst (pa_cons pe_int (pa_cons pe_int (pa_cons pe_int (pa_cons pe_int (pa_cons pe_int pa_nil)))))) (pe_call G__law_draw (by exact hr.mono (by decide)) (by rfl) T.g__law_draw T.F__law_draw.kp T.b__law_draw .nil pass0 (pa_cons (pv 0) (pa_cons pe_int pa_nil))) (fun _ _ => rfl)) pa_nil)) (pg_name (i := 7) sc__law_roots.nd rfl (Or.inl rfl)) (pss_cons (ps_set (i := 8) sc__law_roots.nd rfl (Or.inl rfl) (pe_lst (pa_cons pe_int (pa_cons (pe_ix ix_list (pv 4) (pe_call G__law_draw (by exact hr.mono (by decide)) (by rfl) T.g__law_draw T.F__law_draw.kp T.b__law_draw .nil pass0 (pa_cons (pv 0) (pa_cons (pe_callB call_len_seq (by rfl) T.n_len (by decide +kernel) (pa_cons (pv 4) pa_nil)) pa_nil))) (fun _ _ => rfl)) (pa_cons (pe_call G__law_draw (by exact hr.mono (by decide)) (by rfl) T.g__law_draw T.F__law_draw.kp T.b__law_draw .nil pass0 (pa_cons (pv 0) (pa_cons (pe_callB call_len_seq (by rfl) T.n_len (by decide +kernel) (pa_cons (pv 2) pa_nil)) pa_nil))) (pa_cons (pe_op op_sub (pe_call G__law_draw (by exact hr.mono (by decide)) (by rfl) T.g__law_draw T.F__law_draw.kp T.b__law_draw .nil pass0 (pa_cons (pv 0) (pa_cons (pe_op op_add (pe_callB call_len_seq (by rfl) T.n_len (by decide +kernel) (pa_cons (pv 2) pa_nil)) pe_int) pa_nil))) pe_int) pa_nil)))))) (pss_one (ps_expr (pe_bm PySem.F.plainAttrs_list PySem.F.slot_list_append PySem.F.type_list_append mt_append (pv 6) (pa_cons (pe_ix ix_list (pv 8) (pe_call G__law_draw (by exact hr.mono (by decide)) (by rfl) T.g__law_draw T.F__law_draw.kp T.b__law_draw .nil pass0 (pa_cons (pv 0) (pa_cons (pe_op op_add (pe_op op_add pe_int (pv 5)) (pe_op op_mulW (pv 5) (pe_callTy call_int1 (by rfl) T.n_int (by decide +kernel) (pa_cons (pe_cmpR op_eq (pe_call G__law_draw (by exact hr.mono (by decide)) (by rfl) T.g__law_draw T.F__law_draw.kp T.b__law_draw .nil pass0 (pa_cons (pv 0) (pa_cons pe_int pa_nil))) pe_int (nomark _)) pa_nil)))) pa_nil))) (fun _ _ => rfl)) pa_nil)))))) (pss_one (ps_ret (pv 6)))))))), ?_⟩
    walk_at "go"
    intro Z nZ
    generalize hu1 : upd _ Z _ = H1
    obtain ⟨e1, hZ⟩ := Vc.alloc hu1 nZ
    walk_at "go"
    refine ⟨f, v, Z, its, stop, vals, [0], m, R, rfl, hT.ed0 e1, Va, e1.at0 hV, F, hZ, by decide, (by intro x h; rw [List.mem_singleton.mp h]; omega), hrun, fun d l H2 nd e2 hL hlR => ?_⟩
    subst hlR
    have knd : (l.map (·.1)).Nodup := by have := hend.nd; rwa [keys_laid] at this
    have klb : ∀ q ∈ l, ∀ bs, q.2.1 = some bs → -3 ≤ q.1 ∧ q.1 ≤ (vals.length : Int) + 2 := fun q hq bs hb => by
      have e : q.2.1 = instrAt (its.map (·.1)) vals q.1 := hend.ins (q.1, q.2.1) (List.mem_map.mpr ⟨q, hq, rfl⟩)
      rcases at_cases F q.1 with ⟨z, _⟩ | ⟨g, hg, _, _, p0, p1, _⟩
      · rw [hb, z] at e; cases e
      · have := (F.ok g hg).l1
        exact ⟨by omega, by omega⟩
    have klb0 : ∀ q ∈ l, -1000 ≤ q.1 ∧ q.1 ≤ 1000 := fun q hq => hend.lb (q.1, q.2.1) (List.mem_map.mpr ⟨q, hq, rfl⟩)
    have kln : l.length ≤ 72 := by
      have := hend.b
      rw [laidOf_len] at this
      have : ([] : List Int).length + l.length + _ ≤ 72 := this
      omega
    have hB2 := (hB.ed0 e1).ed0 e2
    have e2' : Vc.Ed [] H H2 := by walk_at "ed"
    clear hZ hu1 e1 e2 nZ hrun
    walk_at "go"
    refine Vc.lockE_keys rfl hL.ob [] (fun H1 D i H' => Vc.Ed [] H1 H' ∧ ∃ gs : List Int, H' D = some (.lst (gs.map V.int)) ∧ gs.length ≤ i ∧ ∀ x ∈ gs, -3 ≤ x ∧ x ≤ (vals.length : Int) + 2) (fun _ _ _ _ h => h.1) (fun H3 od D H4 e3 hd3 nD e4 hD => ⟨e4, [], hD, Nat.le_refl _, by intro x h; cases h⟩) ?_ ?_
    · rintro H3 od D i kk w' H4 e3 nD hd4 hi ⟨e4, gs, hD, gl, gb⟩
      obtain ⟨q, hqi, rfl, rfl⟩ := kvsL_get hi
      have hq : q ∈ l := List.mem_of_getElem? hqi
      have hil : i < l.length := (List.getElem?_eq_some_iff.mp hqi).1
      have hv := valL_mem knd hq
      rw [show kV (Sum.inl q.1) = V.int q.1 from rfl]
      rcases vOf_cases q.2 with ⟨_, e⟩ | ⟨bs, hbs, e⟩
      · rw [e] at hv
        walk_at "go"
        refine ⟨rfl, ?_⟩
        walk_at "go"
        exact ⟨e4, gs, hD, by omega, gb⟩
      · rw [e] at hv
        walk_at "go"
        refine ⟨rfl, ?_⟩
        walk_at "go"
        refine Vc.go_iten (fun _ => ?_) (fun h => by cases h)
        walk_at "go"
        refine ⟨_, hD, by rw [List.length_map]; exact small1000 (by omega), ?_⟩
        generalize hu5 : upd _ D _ = H5
        obtain ⟨e5, hD5⟩ := Vc.chg hu5 hD
        refine ⟨by walk_at "ed", gs ++ [q.1], by rw [List.map_append]; exact hD5, by rw [List.length_append]; exact Nat.succ_le_succ gl, fun x hx => ?_⟩
        rcases List.mem_append.mp hx with h | h
        · exact gb x h
        · rw [List.mem_singleton.mp h]; exact klb q hq bs hbs
    · rintro H3 D H4 H5 nD ⟨e4, gs, hD, gl, gb⟩ e5 hd5 keep
      rw [kvsL_len] at gl
      have hD5 : H5 D = some (.lst (gs.map V.int)) := keep D _ (fun z => by rw [z, hL.ob] at nD; cases nD) hD
      have hB5 := hB2.ed0 e5
      have e5' : Vc.Ed [b] H H5 := by walk_at "ed"
      clear hD e4 hd5 keep
      walk_at "go"
      intro X nX
      generalize hu6 : upd _ X _ = H6
      obtain ⟨e6, hX⟩ := Vc.alloc hu6 nX
      have hD6 := e6.at0 hD5
      walk_at "go"
      refine Vc.go_cat hD6 hX (by rw [List.length_map]; show _ + 1 ≤ 1000; omega) fun G nG => ?_
      generalize hu7 : upd _ G _ = H7
      obtain ⟨e7, hG⟩ := Vc.alloc hu7 nG
      have hG : H7 G = some (.lst ((gs ++ [0]).map V.int)) := by rw [List.map_append]; exact hG
      have hB7 := (hB5.ed0 e6).ed0 e7
      have nGb := ((hB5.ed0 e6).fb nG).1.symm
      have e7' : Vc.Ed [b] H H7 := by walk_at "ed"
      clear hX hD5 hD6 e6 e7 e5' hu6 hu7
      walk_at "go"
      refine ⟨b, c, _, 3, rfl, hB7, nL _ (by omega), by omega, by omega, fun o H8 o0 o1 e8 hB8 => ?_⟩
      have e8' : Vc.Ed [b] H H8 := by walk_at "ed"
      have hG8 := e8.at1 nGb hG
      walk_at "go"
      obtain ⟨odd, hodd, d0, d1⟩ : ∃ z : Int, (if decide (o = 0) = true then (1 : Int) else 0) = z ∧ 0 ≤ z ∧ z ≤ 1 := ⟨_, rfl, by split <;> omega, by split <;> omega⟩
      rw [hodd]
      intro L nfL
      generalize hu9 : upd _ L _ = H9
      obtain ⟨e9, hL9⟩ := Vc.alloc hu9 nfL
      have hG9 := e9.at0 hG8
      have hB9 := hB8.ed0 e9
      have e9' : Vc.Ed [b] H H9 := by walk_at "ed"
      have nL0 : H L = none := e8'.dom _ nfL
      have nLb := hB.fb nL0
      have nLG : L ≠ G := fun z => by rw [z, hG8] at nfL; cases nfL
      clear hG hG8 e8 e7' e8' e9 hu9 hB7 hB8 hB5 e2' hL hB2 hend hodd
      walk_at "go"
      intro M nM
      generalize hu10 : upd _ M _ = H10
      obtain ⟨e10, hM⟩ := Vc.alloc hu10 nM
      have nMb := (hB9.fb nM).1.symm
      walk_at "go"
      refine ⟨b, c, _, 5, rfl, hB9.ed0 e10, nL _ (by omega), by omega, by omega, fun j H11 j0 j1 e11 hB11 => ?_⟩
      have hM11 := e11.at1 nMb hM
      have hL11 := e11.at1 nLb.1.symm (e10.at0 hL9)
      have hG11 := e11.at1 nGb (e10.at0 hG9)
      have e11' : Vc.Ed [b] H H11 := by walk_at "ed"
      obtain ⟨cnt, hcnt, hc⟩ : ∃ cnt : Nat, atI [V.int 1, .int 1, .int 2, .int 3, .int 24] j = some (.int cnt) ∧ (cnt = 1 ∨ cnt = 2 ∨ cnt = 3 ∨ cnt = 24) := by
        have : j = 0 ∨ j = 1 ∨ j = 2 ∨ j = 3 ∨ j = 4 := by omega
        rcases this with e | e | e | e | e <;> subst e
        · exact ⟨1, rfl, by decide⟩
        · exact ⟨1, rfl, by decide⟩
        · exact ⟨2, rfl, by decide⟩
        · exact ⟨3, rfl, by decide⟩
        · exact ⟨24, rfl, by decide⟩
      have c24 : cnt ≤ 24 := by omega
      have hB11 := hB11.up (m := n + 10) (by omega)
      walk_at "go"
      clear hM11 hM e10 e11 hcnt hB9 nMb hG9 hL9 e9' nM hu10
      refine ⟨by omega, by omega, for_range (lo := 0) (fun i σ H' => ∃ (rs : List Int) (y7 y8 y9 : Option V), σ = [some (.ref b), some (.ref f), some (.ref v), some (.ref d), some (.ref G), some (.int odd), some (.ref L), y7, y8, y9] ∧ Vc.Ed [b] H H' ∧ Pen H' b c (n + 10 + 5 * i) ∧ H' L = some (.lst (rs.map V.int)) ∧ H' G = some (.lst ((gs ++ [0]).map V.int)) ∧ rs.length = i ∧ ∀ x ∈ rs, -3 ≤ x ∧ x ≤ (vals.length : Int) + 2) ⟨[], none, none, none, rfl, e11', hB11, hL11, hG11, rfl, by intro x h; cases h⟩ ?_ ?_⟩
      · rintro i σ H12 hi ⟨rs, y7, y8, y9, rfl, e12, hB12, hL12, hG12, rl, rb⟩
        have hi : i < 24 := by omega
        walk_at "go"
        rw [List.length_map, List.length_append]
        refine ⟨b, c, _, _, rfl, hB12, nL _ (by omega), by show (1 : Int) ≤ ((gs.length + 1 : Nat) : Int); omega, by show ((gs.length + 1 : Nat) : Int) < _; omega, fun x1 H13 a0 a1 e13 hB13 => ?_⟩
        have hG13 := e13.at1 nGb hG12
        have e13' : Vc.Ed [b] H H13 := by walk_at "ed"
        obtain ⟨g, hg, hga⟩ := at_ints (ns := gs ++ [0]) (i := x1) a0 (by rw [List.length_append]; exact a1)
        have gb1 : -3 ≤ g ∧ g ≤ (vals.length : Int) + 2 := by
          rcases List.mem_append.mp hg with h | h
          · exact gb g h
          · rw [List.mem_singleton.mp h]; omega
        have hV13 := e13'.at1 nvb hV
        walk_at "go"
        rw [List.length_map]
        refine ⟨b, c, _, _, rfl, hB13, nL _ (by omega), by omega, by omega, fun x2 H14 b0 b1 e14 hB14 => ?_⟩
        have e14' : Vc.Ed [b] H H14 := by walk_at "ed"
        have hV14 := e14'.at1 nvb hV
        walk_at "go"
        rw [List.length_map]
        refine ⟨b, c, _, _, rfl, hB14, nL _ (by omega), by omega, by omega, fun x3 H15 c0 c1 e15 hB15 => ?_⟩
        walk_at "go"
        intro S nS
        generalize hu16 : upd _ S _ = H16
        obtain ⟨e16, hS⟩ := Vc.alloc hu16 nS
        have nSb := (hB15.fb nS).1.symm
        have hL16 : H16 L = some (.lst (rs.map V.int)) := e16.at0 (e15.at1 nLb.1.symm (e14.at1 nLb.1.symm (e13.at1 nLb.1.symm hL12)))
        have hG16 : H16 G = some (.lst ((gs ++ [0]).map V.int)) := e16.at0 (e15.at1 nGb (e14.at1 nGb hG13))
        have e16' : Vc.Ed [b] H H16 := by walk_at "ed"
        have hB16 := hB15.ed0 e16
        clear hL12 hG12 hG13 hV13 hV14 e13 e14 e15 e16 e13' e14' hu16 e12 hga hB12 hB13 hB14 hB15 e11' hL11 hG11 hB11
        walk_at "go"
        refine ⟨b, c, _, 6, rfl, hB16, nL _ (by omega), by omega, by omega, fun x4 H17 f0 f1 e17 hB17 => ?_⟩
        have hS17 := e17.at1 nSb hS
        have hL17 := e17.at1 nLb.1.symm hL16
        have hG17 := e17.at1 nGb hG16
        have e17' : Vc.Ed [b] H H17 := by walk_at "ed"
        clear hS hL16 hG16 e17 e16' hB16
        walk_at "go"
        obtain ⟨z, hz, z0, z1⟩ : ∃ z : Int, (if decide (x4 = 0) = true then (1 : Int) else 0) = z ∧ 0 ≤ z ∧ z ≤ 1 := ⟨_, rfl, by split <;> omega, by split <;> omega⟩
        have ho : odd * z = 0 ∨ odd * z = 1 := by
          rcases (show odd = 0 ∨ odd = 1 by omega) with e | e <;> rcases (show z = 0 ∨ z = 1 by omega) with e' | e' <;> rw [e, e'] <;> decide
        rw [hz]
        generalize odd * z = oz at ho
        refine ⟨b, c, _, _, rfl, hB17, nL _ (by omega), by omega, by omega, fun x5 H18 g0 g1 e18 hB18 => ?_⟩
        have hS18 := e18.at1 nSb hS17
        have hL18 := e18.at1 nLb.1.symm hL17
        have hG18 := e18.at1 nGb hG17
        have e18' : Vc.Ed [b] H H18 := by walk_at "ed"
        obtain ⟨y, hy, y0, y1⟩ : ∃ y : Int, atI [V.int 0, .int g, .int x2, .int (x3 - 2)] x5 = some (.int y) ∧ -3 ≤ y ∧ y ≤ (vals.length : Int) + 2 := by
          have : x5 = 0 ∨ x5 = 1 ∨ x5 = 2 ∨ x5 = 3 := by omega
          rcases this with e | e | e | e <;> subst e
          · exact ⟨0, rfl, by omega, by omega⟩
          · exact ⟨g, rfl, gb1.1, gb1.2⟩
          · exact ⟨x2, rfl, by omega, by omega⟩
          · exact ⟨x3 - 2, rfl, by omega, by omega⟩
        clear hS17 hL17 hG17 e18 hB17
        walk_at "go"
        generalize hu19 : upd _ L _ = H19
        obtain ⟨e19, hL19⟩ := Vc.chg hu19 hL18
        refine ⟨rs ++ [y], _, _, _, rfl, by walk_at "ed", (hB18.ed1 e19 nLb.1 nLb.2).up (by omega), by rw [List.map_append]; exact hL19, e19.at1 nLG.symm hG18, by rw [List.length_append, rl]; rfl, fun x hx => ?_⟩
        rcases List.mem_append.mp hx with h | h
        · exact rb x h
        · rw [List.mem_singleton.mp h]; exact ⟨y0, y1⟩
      · rintro σ H12 ⟨rs, y7, y8, y9, rfl, e12, hB12, hL12, hG12, rl, rb⟩
        walk_at "go"
        exact k L rs H12 nL0 e12 (hB12.up (by omega)) hL12 (by omega) rb
end

end My
namespace My
open PySem PySem.Spec PyProof.Rows L2
/-! ### k02: code sets made, the law's own decoding, what is asked -/
theorem fresh_byte {its : List (FD × Addr)} {i : Nat} {p : FD × Addr} (nd : ((its.map (·.1)).map (·.byte)).Nodup) (hp : its[i]? = some p) : ∀ f ∈ (its.take i).map (·.1), f.byte ≠ p.1.byte := by
  intro f hf e
  obtain ⟨q, hq, rfl⟩ := List.mem_map.mp hf
  exact nd_take nd hp q hq e
def spMadeCodes (A : Ad) : Sp := fun vs H Q _ => ∃ (f : Addr) (stop : Int) (its : List (FD × Addr)), vs = [.int stop, .ref f] ∧ TupsAt H f its ∧ Valid stop (its.map (·.1)) ∧
  ∀ (x : CodeO) (H' : Hp), Vc.Ed [] H H' → x.stop = stop → x.fs.Perm (its.map (·.1)) → x.Ok → x.At A H' → Q (.ref x.c) H'
section
variable {P : Program} {w : World} {K : PySem.W.Frag} {mg : Str → Option Value} {base : Heap} {A : Ad}
theorem ok__law_codeset (T : Txt K mg A) : FnOk P w K mg base CX0 5 A.f__law_codeset A.d__law_codeset ["_law_stop", "_law_forms_here"] (spMadeCodes A) := by
  have G_Formu_initu := ok_Formu_initu (P := P) (w := w) (base := base) T
  have G_CodeSetu_initu := ok_CodeSetu_initu (P := P) (w := w) (base := base) T
  refine T.F__law_codeset.ok sc__law_codeset (fun vs H Q E h => ?_) (fun cdv Ar outer s H vs Q E hr h => ?_)
  · obtain ⟨f, stop, its, rfl, _⟩ := h
    rfl
  · obtain ⟨f, stop, its, rfl, TA, Va, k⟩ := h
    have hu := hu_of hr
    have v1 := Va.n1
    have v16 := Va.n16
    rw [List.length_map] at v1 v16
    refine ⟨_, (pss_cons (ps_set (i := 2) sc__law_codeset.nd rfl (Or.inl rfl) pe_dnewK) (pss_cons (ps_lock (ps_for PassesOwn.never rfl (pi_keys (pv 1)) (pg_name (i := 3) sc__law_codeset.nd rfl (Or.inl rfl)) (pss_one (ps_dput (by exact hu) (pv 2) (pv 3) (pe_make T.mk_Form G_Formu_initu (by exact hr.mono (by decide)) (by rfl) T.g_Form T.b_Formu_initu .nil pass0 (pa_cons (pe_ix ix_tup (pe_dget (by exact hu) (pv 1) (pv 3) (fun _ _ => rfl)) pe_int (fun _ _ => rfl)) (pa_cons (pe_ix ix_tup (pe_dget (by exact hu) (pv 1) (pv 3) (fun _ _ => rfl)) pe_int (fun _ _ => rfl)) (pa_cons (pe_ix ix_tup (pe_dget (by exact hu) (pv 1) (pv 3) (fun _ _ => rfl)) pe_int (fun _ _ => rfl)) pa_nil)))) rfl)))) (pss_one (ps_ret (pe_make T.mk_CodeSet G_CodeSetu_initu (by exact hr.mono (by decide)) (by rfl) T.g_CodeSet T.b_CodeSetu_initu .nil pass0 (pa_cons (pv 0) (pa_cons (pv 2) pa_nil))))))), ?_⟩
    walk_at "go"
    intro m nm
    generalize hu2 : upd _ m _ = H2
    obtain ⟨e2, hm⟩ := Vc.alloc hu2 nm
    have T2 := TA.ed0 e2
    have nfm : f ≠ m := ne_of_none TA.ob nm
    walk_at "go"
    refine Vc.lock_keys rfl T2.ob [m] (fun H1 i σ H' => ∃ y items, σ = [some (.int stop), some (.ref f), some (.ref m), y] ∧ Vc.Ed [m] H1 H' ∧ MadeAt A H' m items ∧ (∀ q ∈ items, q.2 ≠ f) ∧ items.map (·.1) = (its.take i).map (·.1)) (fun _ _ _ _ h => h.choose_spec.choose_spec.2.1) (fun H1 od e1 _ => ⟨none, [], rfl, .refl, ⟨e1.at1 nfm.symm hm, (by intro p h; cases h)⟩, (by intro p h; cases h), by simp⟩) ?_ ?_
    · rintro H1 od i k' v σ H' e1 h1 h1' hk ⟨y, items, rfl, e3, M, nf, hi⟩
      obtain ⟨p, hp, rfl, rfl⟩ := kvsOf_get hk
      have hmem := List.mem_of_getElem? hp
      have hv := kvsOf_val Va.ndb hmem
      have ok := Va.ok p.1 (List.mem_map.mpr ⟨p, hmem, rfl⟩)
      have htp : H' p.2 = some (.tup [.str p.1.name, .int p.1.len, .str p.1.flow]) := e3.tup _ _ (e1.tup _ _ (T2.tp p hmem))
      have a0 : atI [V.str p.1.name, .int p.1.len, .str p.1.flow] 0 = some (.str p.1.name) := rfl
      have a1 : atI [V.str p.1.name, .int p.1.len, .str p.1.flow] 1 = some (.int p.1.len) := rfl
      have a2 : atI [V.str p.1.name, .int p.1.len, .str p.1.flow] 2 = some (.str p.1.flow) := rfl
      have hi16 : i < its.length := (List.getElem?_eq_some_iff.mp hp).1
      change gName 3 (V.int p.1.byte) _ _ _
      walk_at "go"
      intro x dx nx ndx ne
      generalize hu4 : upd _ x _ = H4
      obtain ⟨e4, hx, hdx⟩ := Vc.allocI hu4 nx ndx ne
      refine ⟨x, dx, p.1, rfl, ok, hx, fun H5 e5 hF => ⟨rfl, ?_⟩⟩
      have nmx : m ≠ x := ne_of_none M.ob nx
      have hm5 : H5 m = some (.dK (kvsOf items)) := e5.at1 nmx (e4.at0 M.ob)
      have hil : items.length = i := by
        have := congrArg List.length hi
        rw [List.length_map, List.length_map, List.length_take] at this
        omega
      have kl : (kvsOf items).length ≤ 1000 := by rw [kvsOf_len]; omega
      walk_at "go"
      generalize hu6 : upd _ m _ = H6
      obtain ⟨e6, hm6⟩ := Vc.chg hu6 hm5
      have nx1 : H1 x = none := e3.dom _ nx
      have hn : valV (kvsOf items) (.inl p.1.byte) = none := kvO_none fun q hq => fresh_byte Va.ndb hp q.1 (hi ▸ List.mem_map.mpr ⟨q, hq, rfl⟩)
      rw [kvsOf_put (f := p.1) hn] at hm6
      refine ⟨_, items ++ [(p.1, x)], rfl, (by walk_at "ed"), ⟨hm6, fun q hq => ?_⟩, fun q hq => ?_, ?_⟩
      · rcases List.mem_append.mp hq with hq | hq
        · obtain ⟨dq, hq'⟩ := M.fm q hq
          exact ((M.fm q hq).ed0 e4 |>.ed e5 (fun z => ne_of_none hq' nx (List.mem_singleton.mp z))).ed1 e6 hm5 (fun _ _ _ => by intro z; cases z)
        · rw [List.mem_singleton.mp hq]
          exact hF.ed1 e6 hm5 (fun _ _ _ => by intro z; cases z)
      · rcases List.mem_append.mp hq with hq | hq
        · exact nf q hq
        · rw [List.mem_singleton.mp hq]
          exact (ne_of_none h1' nx).symm
      · rw [List.map_append, hi, List.take_add_one, hp, List.map_append]; rfl
    · rintro H1 σ H' H3 e1 ⟨y, items, rfl, e3, M, nf, hi⟩ e4 hf4 k2
      rw [kvsOf_len, List.take_of_length_le (Nat.le_refl _)] at hi
      have M3 : MadeAt A H3 m items := ⟨k2 _ _ nfm.symm M.ob, fun q hq => by
        obtain ⟨dq, hq'⟩ := M.fm q hq
        exact ⟨dq, k2 _ _ (nf q hq) hq'⟩⟩
      walk_at "go"
      intro x dx nx ndx ne
      generalize hu4 : upd _ x _ = H4
      obtain ⟨e5, hx, hdx⟩ := Vc.allocI hu4 nx ndx ne
      refine ⟨x, dx, m, stop, items, rfl, ⟨e5.at0 M3.ob, fun q hq => (M3.fm q hq).ed0 e5⟩, hi ▸ Va, hx, fun c H5 hxc hst hpm ok e6 nt no CA => ⟨rfl, ?_⟩⟩
      rw [← hxc]
      rw [← hxc] at e6
      have nx0 : H4 c.c ≠ none := by rw [hxc, hx]; intro z; cases z
      have nx1 : H3 c.c = none := by rw [hxc]; exact nx
      exact k c H5 (by walk_at "ed") hst (by rw [← hi]; exact hpm.map _) ok CA
end

end My
namespace My
open PySem PySem.Spec PyProof.Rows L2
/-! ### explore -/
def spInstr (A : Ad) (K : PySem.W.Frag) : Sp := fun vs H Q _ => ∃ (x : CodeO) (g : Addr) (p : Int) (vals : List Int), vs = [.ref x.c, .ref g, .int p] ∧ x.At A H ∧ x.Ok ∧ SqL K H g (vals.map V.int) ∧ vals.length ≤ 500 ∧
  (instrAt x.fs vals p = none → ∀ H', Vc.Ed [] H H' → Q .non H') ∧ ∀ bs, instrAt x.fs vals p = some bs → ∀ q H', Vc.Ed [] H H' → H' q = some (.tup (bs.map V.int)) → Q (.ref q) H'
def spExplore (A : Ad) (K : PySem.W.Frag) : Sp := fun vs H Q _ => ∃ (x : CodeO) (v r : Addr) (vals roots : List Int) (m : Nat) (R : Laid), vs = [.ref x.c, .ref v, .ref r] ∧ x.At A H ∧ x.Ok ∧ SqL K H v (vals.map V.int) ∧ Fit x.fs vals ∧ SqT K H r (roots.map V.int) ∧ roots.length ≤ 24 ∧ (∀ x ∈ roots, -3 ≤ x ∧ x ≤ vals.length + 2) ∧ Run x.fs vals m roots [] R ∧
  ∀ d l H', H d = none → Vc.Ed [] H H' → LaidAt H' d l → laidOf l = R → Q (.ref d) H'
theorem go_extend {H : Hp} {Q : VK} {p q : Addr} {xs ys : List V} (e : H p = some (.lst xs)) (f : H q = some (.lst ys)) (l : xs.length + ys.length ≤ 1000) (h : Q .non (upd H p (.lst (xs ++ ys)))) : rExtend (.ref p) [.ref q] H Q :=
  ⟨p, q, xs, ys, rfl, rfl, e, f, Nat.le_of_lt (small1000 l), h⟩
section
variable {w : World} {K : PySem.W.Frag} {mg : Str → Option Value} {base : Heap} {A : Ad}
theorem ok_instruction_at (T : Txt K mg A) : FnOk PG w K mg base CX0 4 A.f_instruction_at A.d_instruction_at ["codes", "values", "place"] (spInstr A K) := by
  have G_CodeSetu_callu := ok_CodeSetu_callu (w := w) (base := base) T
  refine T.F_instruction_at.ok sc_instruction_at (fun vs H Q E h => ?_) (fun cdv Ar outer s H vs Q E hr h => ?_)
  · obtain ⟨x, g, p, vals, rfl, _⟩ := h
    rfl
  · obtain ⟨x, g, p, vals, rfl, hX, hO, hg, vl, kN, kS⟩ := h
    have hx := hX.ob
    refine ⟨_, (pss_one (Vc.ps_tryOnly rfl rfl ⟨rfl, by decide, .inl T.g_NotWhole⟩ takes0 (fun W pn xe tk po => (pss_one (ps_ret (Vc.pe_callI (pv 0) T.co_CodeSet G_CodeSetu_callu (by exact hr.mono (by decide)) T.b_CodeSetu_callu (fun σ => passAt tk σ) (pa_cons (pv 1) (pa_cons (pv 2) pa_nil)))))) (fun a oe cls d pn hz hf => (pss_one (ps_ret pe_non))))), ?_⟩
    walk_at "go"
    refine ⟨x, g, p, vals, rfl, hX, hO, .inl hg, vl, fun hn d H1 e1 hd => ?_, fun ins hi q H1 e1 hq => ?_⟩
    · refine Vc.go_wOnly T.exm_NotWhole_NotWhole fun a na => ?_
      walk_at "go"
      exact kN hn H1 e1
    · walk_at "go"
      exact kS ins hi q H1 e1 hq
theorem ok_explore (T : Txt K mg A) : FnOk PG w K mg base CX0 5 A.f_explore A.d_explore ["codes", "values", "roots"] (spExplore A K) := by
  have G_instruction_at := ok_instruction_at (w := w) (base := base) T
  have G_CodeSet_followers := ok_CodeSet_followers (P := PG) (w := w) (base := base) T
  refine T.F_explore.ok sc_explore (fun vs H Q E h => ?_) (fun cdv Ar outer s H vs Q E hr h => ?_)
  · obtain ⟨x, v, r, vals, roots, m, R, rfl, _⟩ := h
    rfl
  · obtain ⟨x, v, r, vals, roots, m, R, rfl, hX, hO, hV, F, hR, r24, rb, hrun, k⟩ := h
    have hu := hu_of hr
    have vl := F.len
    have cl := T.cl_CodeSet
    have I0 := RInv.init F r24 rb
    refine ⟨_, (pss_cons (ps_set (i := 3) sc_explore.nd rfl (Or.inl rfl) pe_dnewK) (pss_cons (ps_set (i := 4) sc_explore.nd rfl (Or.inl rfl) (pe_callTy Vc.call_lstD (by rfl) T.n_list (by decide +kernel) (pa_cons (pv 2) pa_nil))) (pss_cons (ps_while PassesOwn.never (pt_cmpR (op_neD (by exact hr.units)) (pv 4) (pe_lst pa_nil) (nomark _)) (pss_cons (ps_set (i := 5) sc_explore.nd rfl (Or.inl rfl) (pe_bm0 PySem.F.plainAttrs_list PySem.F.slot_list_pop PySem.F.type_list_pop mt_pop (pv 4))) (pss_one (ps_if (pt_cmp (pc_dnotin (by exact hu) (pv 5) (pv 3))) (pss_cons (ps_set (i := 6) sc_explore.nd rfl (Or.inl rfl) (pe_call G_instruction_at (by exact hr.mono (by decide)) (by rfl) T.g_instruction_at T.F_instruction_at.kp T.b_instruction_at .nil pass0 (pa_cons (pv 0) (pa_cons (pv 1) (pa_cons (pv 5) pa_nil))))) (pss_cons (ps_dput (by exact hu) (pv 3) (pv 5) (pv 6) rfl) (pss_one (ps_if (pt_cmpR op_notN (pv 6) pe_non (nomark _)) (pss_one (ps_expr (pe_bm PySem.F.plainAttrs_list PySem.F.slot_list_extend PySem.F.type_list_extend mt_extend (pv 4) (pa_cons (pe_callTy Vc.call_lstD (by rfl) T.n_list (by decide +kernel) (pa_cons (pe_meth (pv 0) T.cl_CodeSet T.m_CodeSet_followers G_CodeSet_followers (by exact hr.mono (by decide)) T.b_CodeSet_followers .nil pass0 (pa_cons (pv 6) (pa_cons (pv 5) pa_nil))) pa_nil)) pa_nil)))) pss_nil)))) pss_nil)))) (pss_one (ps_ret (pv 3)))))), ?_⟩
    walk_at "go"
    intro D nD
    generalize hu1 : upd _ D _ = H1
    obtain ⟨e1, hD⟩ := Vc.alloc hu1 nD
    have hR1 := e1.sqt hR
    walk_at "go"
    intro W nW
    generalize hu2 : upd _ W _ = H2
    obtain ⟨e2, hW⟩ := Vc.alloc hu2 nW
    have nWD : W ≠ D := fun z => by rw [z, hD] at nW; cases nW
    have hD2 := e2.at0 hD
    have nW0 := e1.dom _ nW
    walk_at "go"
    refine ⟨fun mm σ H' => ∃ (W : Addr) (w : List Int) (l : LD) (y5 y6 : Option V), σ = [some (.ref x.c), some (.ref v), some (.ref r), some (.ref D), some (.ref W), y5, y6] ∧ Vc.Ed [] H H' ∧ H W = none ∧ W ≠ D ∧ H' W = some (.lst (w.map V.int)) ∧ LaidAt H' D l ∧ Run x.fs vals mm w (laidOf l) R ∧ RInv x.fs vals w (laidOf l), ⟨m, W, roots, [], none, none, rfl, by walk_at "ed", nW0, nWD, hW, ⟨hD2, by intro q h; cases h⟩, hrun, I0⟩, ?_⟩
    clear hW hD hD2 hu1 hu2 e1 e2 hR1 nWD nW nW0 I0 hrun W
    rintro mm σ H2 ⟨W, w, l, y5, y6, rfl, e2, nW, nWD, hW, hL, hrun, I⟩
    walk_at "go"
    intro M nM
    generalize hu3 : upd _ M _ = H3
    obtain ⟨e3, hM⟩ := Vc.alloc hu3 nM
    have hW3 := e3.at0 hW
    have hL3 := hL.ed0 e3
    have e3' : Vc.Ed [] H H3 := by walk_at "ed"
    refine go_neLs (ms := []) (.of hW3) (.of hM) ?_
    clear hM hu3 nM e2 e3 hL hW
    walk_at "go"
    refine Vc.go_iten (fun h1 => ?_) (fun h1 => ?_)
    rotate_left
    · subst h1
      walk_at "go"
      exact k D l H3 nD e3' hL3 hrun.fin
    obtain ⟨w', p, rfl⟩ : ∃ w' p, w = w' ++ [p] := by
      rcases List.eq_nil_or_concat w with e | ⟨w', p, e⟩
      · exact (h1 e).elim
      · exact ⟨w', p, by rw [e, List.concat_eq_append]⟩
    obtain ⟨m', rfl, hstep⟩ := hrun.inv
    refine ⟨fun σ' H' => ∃ (W : Addr) (w : List Int) (l : LD) (y5 y6 : Option V), σ' = [some (.ref x.c), some (.ref v), some (.ref r), some (.ref D), some (.ref W), y5, y6] ∧ Vc.Ed [] H H' ∧ H W = none ∧ W ≠ D ∧ H' W = some (.lst (w.map V.int)) ∧ LaidAt H' D l ∧ Run x.fs vals m' w (laidOf l) R ∧ RInv x.fs vals w (laidOf l), ?_, ?_⟩
    · rintro σ' H' ⟨W, w, l, y5, y6, rfl, a1, a2, a3, a4, a5, a6, a7⟩
      exact ⟨m', Nat.lt_succ_self _, W, w, l, y5, y6, rfl, a1, a2, a3, a4, a5, a6, a7⟩
    have hb := I.b
    rw [List.length_append, laidOf_len] at hb
    have hb : w'.length + 1 + l.length + 2 * unv vals.length (laidOf l) ≤ 72 := hb
    have pt := I.top
    have kl : (kvsL l).length ≤ 1000 := by rw [kvsL_len]; omega
    rw [List.map_append] at hW3
    walk_at "go"
    refine go_pop hW3 ?_
    generalize hu4 : upd _ W _ = H4
    obtain ⟨e4, hW4⟩ := Vc.chg hu4 hW3
    have hL4 := hL3.ed1 e4 nWD.symm
    have e4' : Vc.Ed [] H H4 := by walk_at "ed"
    have hD4 := hL4.ob
    have hV4 := Vc.Ed.sql0 e4' hV
    clear hW3 hL3 e4 e3' hu4
    walk_at "go"
    rw [valL_in]
    rw [keys_laid] at hstep
    rcases hstep with ⟨hp, hrun⟩ | ⟨hp, hrun⟩
    · rw [decide_eq_true hp]
      walk_at "go"
      exact ⟨W, w', l, _, _, rfl, e4', nW, nWD, hW4, hL4, hrun, I.old⟩
    rw [decide_eq_false hp]
    have I2 := I.new F (by rw [keys_laid]; exact hp)
    have lo : ∀ x, laidOf (l ++ [(p, x)]) = laidOf l ++ [(p, x.1)] := fun x => by unfold laidOf; rw [List.map_append]; rfl
    walk_at "go"
    refine ⟨x, v, p, vals, rfl, hX.ed0 e4', hO, hV4, by omega, fun hn H5 e5 => ?_, fun bs hbs t H5 e5 ht => ?_⟩
    · have hD5 := e5.at0 hD4
      have hW5 := e5.at0 hW4
      walk_at "go"
      generalize hu6 : upd _ D _ = H6
      obtain ⟨e6, hD6⟩ := Vc.chg hu6 hD5
      rw [show V.non = vOf (none, D) from rfl, putL hp] at hD6
      walk_at "go"
      have hnx : nextsAt x.fs vals p = [] := by
        rcases at_cases F p with ⟨_, e⟩ | ⟨_, _, _, _, _, _, _, _, e, _⟩
        · exact e
        · rw [hn] at e; cases e
      rw [hn, hnx, List.append_nil] at hrun I2
      refine ⟨W, w', l ++ [(p, (none, D))], _, _, rfl, by walk_at "ed", nW, nWD, e6.at1 nWD hW5, ⟨hD6, fun q hq bs hb => ?_⟩, by rw [lo]; exact hrun, by rw [lo]; exact I2⟩
      rcases List.mem_append.mp hq with hq | hq
      · exact e6.tup _ _ (e5.tup _ _ (hL4.tp q hq bs hb))
      · rw [List.mem_singleton.mp hq] at hb; cases hb
    · have hD5 := e5.at0 hD4
      have hW5 := e5.at0 hW4
      have e5' : Vc.Ed [] H H5 := by walk_at "ed"
      rcases at_cases F p with ⟨e, _⟩ | ⟨f, hf, bs', last, _, _, hbq, hf', hbs', ebs, ln, In, b0, b1, hnx⟩
      · rw [hbs] at e; cases e
      rw [hbs] at hbs'
      injection hbs' with hbs'
      subst hbs'
      obtain ⟨q, hq, rfl⟩ := List.mem_map.mp hf
      walk_at "go"
      generalize hu6 : upd _ D _ = H6
      obtain ⟨e6, hD6⟩ := Vc.chg hu6 hD5
      rw [show V.ref t = vOf (some bs, t) from rfl, putL hp] at hD6
      have hL6 : LaidAt H6 D (l ++ [(p, (some bs, t))]) := ⟨hD6, fun q hq bs' hb' => by
        rcases List.mem_append.mp hq with hq | hq
        · exact e6.tup _ _ (e5.tup _ _ (hL4.tp q hq bs' hb'))
        · rw [List.mem_singleton.mp hq] at hb' ⊢
          injection hb' with hb'
          rw [← hb']; exact e6.tup _ _ ht⟩
      have ht6 := e6.tup _ _ ht
      have hW6 := e6.at1 nWD hW5
      have e6' : Vc.Ed [] H H6 := by walk_at "ed"
      have hX6 := hX.ed0 e6'
      have hx6 := hX6.ob
      clear hD4 hL4 hW4 hD5 hW5 e5 e6 hD6 hu6 hV4 e4' e5' ht
      walk_at "go"
      refine Vc.go_iten (fun _ => ?_) (fun h => by cases h)
      walk_at "go"
      refine ⟨x, t, p, q, bs, last, rfl, hX6, hO, hq, .of ht6, In, fun z H7 e7 hz => ?_⟩
      have hz' : SqT K H7 z ((foll q.1.flow bs.length last p).map V.int) := .of hz
      have hW7 := e7.at0 hW6
      walk_at "go"
      intro X nX
      generalize hu8 : upd _ X _ = H8
      obtain ⟨e8, hX8⟩ := Vc.alloc hu8 nX
      have hW8 := e8.at0 hW7
      walk_at "go"
      refine go_extend hW8 hX8 (by rw [List.length_map, List.length_map]; have := foll_len (fl := q.1.flow) (n := bs.length) (l := last) (p := p); omega) ?_
      generalize hu9 : upd _ W _ = H9
      obtain ⟨e9, hW9⟩ := Vc.chg hu9 hW8
      have hL9 := ((hL6.ed0 e7).ed0 e8).ed1 e9 nWD.symm
      rw [hbs, hnx] at hrun I2
      exact ⟨W, w' ++ foll q.1.flow bs.length last p, _, _, _, rfl, by walk_at "ed", nW, nWD, by rw [List.map_append]; exact hW9, hL9, by rw [lo]; exact hrun, by rw [lo]; exact I2⟩
end

end My
namespace My
open PySem PySem.Spec PyProof.Rows L2
/-! ### what is reached does not hang on the order -/
inductive Rch (fs : List FD) (vals roots : List Int) : Int → Prop
  | root {p : Int} (h : p ∈ roots) : Rch fs vals roots p
  | next {p q : Int} (h : Rch fs vals roots p) (n : q ∈ nextsAt fs vals p) : Rch fs vals roots q
theorem Run.sound {fs vals m w L R} {roots : List Int} (h : Run fs vals m w L R) : (∀ p ∈ w, Rch fs vals roots p) → (∀ p ∈ L.map (·.1), Rch fs vals roots p) → ∀ p ∈ R.map (·.1), Rch fs vals roots p := by
  induction h with
  | done => exact fun _ h => h
  | old hw hp _ ih =>
    intro a b
    subst hw
    exact ih (fun p hp => a p (List.mem_append_left _ hp)) b
  | @new m ws w p L R hw hp _ ih =>
    intro a b
    subst hw
    have hpr := a p (List.mem_append_right _ (List.mem_singleton.mpr rfl))
    refine ih (fun q hq => ?_) (fun q hq => ?_)
    · rcases List.mem_append.mp hq with hq | hq
      · exact a q (List.mem_append_left _ hq)
      · exact .next hpr hq
    · rw [List.map_append] at hq
      rcases List.mem_append.mp hq with hq | hq
      · exact b q hq
      · rw [List.mem_singleton.mp hq]; exact hpr
theorem Run.closed {fs vals m w L R} (h : Run fs vals m w L R) : (∀ p ∈ L.map (·.1), ∀ q ∈ nextsAt fs vals p, q ∈ L.map (·.1) ∨ q ∈ w) → (∀ p ∈ w, p ∈ R.map (·.1)) ∧ (∀ p ∈ L.map (·.1), p ∈ R.map (·.1)) ∧ ∀ p ∈ R.map (·.1), ∀ q ∈ nextsAt fs vals p, q ∈ R.map (·.1) := by
  induction h with
  | done => exact fun h => ⟨(by intro p h; cases h), fun _ h => h, fun p hp q hq => (h p hp q hq).elim id (by intro h; cases h)⟩
  | @old m ws w p L R hw hp _ ih =>
    intro a
    subst hw
    obtain ⟨i1, i2, i3⟩ := ih (fun x hx q hq => by
      rcases a x hx q hq with h | h
      · exact .inl h
      · rcases List.mem_append.mp h with h | h
        · exact .inr h
        · rw [List.mem_singleton.mp h]; exact .inl hp)
    refine ⟨fun x hx => ?_, i2, i3⟩
    rcases List.mem_append.mp hx with h | h
    · exact i1 x h
    · rw [List.mem_singleton.mp h]; exact i2 p hp
  | @new m ws w p L R hw hp _ ih =>
    intro a
    subst hw
    have key : ∀ x, x ∈ (L ++ [(p, instrAt fs vals p)]).map (·.1) ↔ x ∈ L.map (·.1) ∨ x = p := fun x => by rw [List.map_append, List.mem_append]; simp
    obtain ⟨i1, i2, i3⟩ := ih (fun x hx q hq => by
      rcases (key x).mp hx with h | h
      · rcases a x h q hq with h | h
        · exact .inl ((key q).mpr (.inl h))
        · rcases List.mem_append.mp h with h | h
          · exact .inr (List.mem_append_left _ h)
          · exact .inl ((key q).mpr (.inr (List.mem_singleton.mp h)))
      · subst h
        exact .inr (List.mem_append_right _ hq))
    refine ⟨fun x hx => ?_, fun x hx => i2 x ((key x).mpr (.inl hx)), i3⟩
    rcases List.mem_append.mp hx with h | h
    · exact i1 x (List.mem_append_left _ h)
    · rw [List.mem_singleton.mp h]; exact i2 p ((key p).mpr (.inr rfl))
theorem Run.mem {fs vals m roots R} (h : Run fs vals m roots [] R) (p : Int) : p ∈ R.map (·.1) ↔ Rch fs vals roots p := by
  refine ⟨fun hp => h.sound (fun p hp => .root hp) (by intro p h; cases h) p hp, fun hr => ?_⟩
  obtain ⟨a, _, c⟩ := h.closed (by intro p h; cases h)
  induction hr with
  | root h => exact a _ h
  | next _ n ih => exact c _ ih _ n
theorem Rch.congr {fs vals rs ss} (h : ∀ x, x ∈ rs ↔ x ∈ ss) {p : Int} (r : Rch fs vals rs p) : Rch fs vals ss p := by
  induction r with
  | root hp => exact .root ((h _).mp hp)
  | next _ n ih => exact .next ih n
/-- forms in another order -/
theorem find_perm {fs gs : List FD} (p : fs.Perm gs) (nd : (fs.map (·.byte)).Nodup) (b : Int) : fs.find? (fun f => decide (f.byte = b)) = gs.find? (fun f => decide (f.byte = b)) := by
  have uniq : ∀ f ∈ fs, ∀ g ∈ fs, f.byte = g.byte → f = g := by
    clear p
    induction fs with
    | nil => intro f hf; cases hf
    | cons x r ih =>
      rw [List.map_cons, List.nodup_cons] at nd
      intro f hf g hg e
      rcases List.mem_cons.mp hf with h | h <;> rcases List.mem_cons.mp hg with h' | h'
      · rw [h, h']
      · subst h; exact (nd.1 (List.mem_map.mpr ⟨g, h', e.symm⟩)).elim
      · subst h'; exact (nd.1 (List.mem_map.mpr ⟨f, h, e⟩)).elim
      · exact ih nd.2 f h g h' e
  cases e1 : fs.find? (fun f => decide (f.byte = b)) with
  | none =>
    symm
    rw [List.find?_eq_none] at e1 ⊢
    exact fun g hg => e1 g (p.mem_iff.mpr hg)
  | some f =>
    have hf := List.mem_of_find?_eq_some e1
    have hb : f.byte = b := by have := List.find?_some e1; exact of_decide_eq_true this
    cases e2 : gs.find? (fun f => decide (f.byte = b)) with
    | none =>
      rw [List.find?_eq_none] at e2
      exact absurd (decide_eq_true hb) (e2 f (p.mem_iff.mp hf))
    | some g =>
      have hg := p.mem_iff.mpr (List.mem_of_find?_eq_some e2)
      have hb2 : g.byte = b := by have := List.find?_some e2; exact of_decide_eq_true this
      rw [uniq f hf g hg (hb.trans hb2.symm)]
theorem instr_perm {fs gs : List FD} (p : fs.Perm gs) (nd : (fs.map (·.byte)).Nodup) (vals : List Int) (x : Int) : instrAt fs vals x = instrAt gs vals x := by
  unfold instrAt; rw [find_perm p nd]
theorem nexts_perm {fs gs : List FD} (p : fs.Perm gs) (nd : (fs.map (·.byte)).Nodup) (vals : List Int) (x : Int) : nextsAt fs vals x = nextsAt gs vals x := by
  unfold nextsAt; rw [find_perm p nd]
theorem Rch.perm {fs gs vals rs} (p : fs.Perm gs) (nd : (fs.map (·.byte)).Nodup) {x : Int} (r : Rch fs vals rs x) : Rch gs vals rs x := by
  induction r with
  | root hp => exact .root hp
  | next _ n ih => exact .next ih (by rw [← nexts_perm p nd]; exact n)
/-- two runs from the same places, by the same forms: the same places -/
theorem Run.same {fs gs vals m m' rs ss R S} (h : Run fs vals m rs [] R) (k : Run gs vals m' ss [] S) (p : fs.Perm gs) (nd : (fs.map (·.byte)).Nodup) (hr : ∀ x, x ∈ rs ↔ x ∈ ss) (x : Int) : x ∈ R.map (·.1) ↔ x ∈ S.map (·.1) := by
  rw [h.mem, k.mem]
  exact ⟨fun r => (r.perm p nd).congr hr, fun r => (r.congr fun x => (hr x).symm).perm p.symm ((p.map _).nodup_iff.mp nd)⟩
theorem nodup_len {as bs : List Int} (na : as.Nodup) (nb : bs.Nodup) (h : ∀ x, x ∈ as ↔ x ∈ bs) : as.Perm bs := (List.perm_ext_iff_of_nodup na nb).mpr h

end My
namespace My
open PySem PySem.Spec PyProof.Rows L2
/-! ### a program as it stands: its roots, what is laid, its spots -/
def progF (r d s t : Addr) : List (Str × V) := [("roots", .ref r), ("laid", .ref d), ("spots", .ref s), ("leads", .ref t)]
theorem prog_roots {r d s t : Addr} : (progF r d s t).lookup ("roots" : Str) = some (.ref r) := rfl
theorem prog_laid {r d s t : Addr} : (progF r d s t).lookup ("laid" : Str) = some (.ref d) := rfl
theorem prog_spots {r d s t : Addr} : (progF r d s t).lookup ("spots" : Str) = some (.ref s) := rfl
theorem prog_leads {r d s t : Addr} : (progF r d s t).lookup ("leads" : Str) = some (.ref t) := rfl
theorem prog_put {r d s t : Addr} : putF "leads" (.ref t) (putF "spots" (.ref s) (putF "laid" (.ref d) (putF "roots" (.ref r) []))) = progF r d s t := rfl
/-- the places behind each place: as they were told, where the tuple lies -/
abbrev LL := List (Int × (List Int × Addr))
def kvsF (l : LL) : List (Key × V) := l.map fun q => (.inl q.1, .ref q.2.2)
theorem kvsF_len (l : LL) : (kvsF l).length = l.length := List.length_map _
structure ProgO where
  p : Addr
  dx : Addr
  r : Addr
  d : Addr
  s : Addr
  t : Addr
  roots : List Int
  l : LD
  spots : List Int
  leads : LL
structure ProgO.At (A : Ad) (K : PySem.W.Frag) (H : Hp) (x : ProgO) : Prop where
  ob : H x.p = some (.ins A.C_Program x.dx (progF x.r x.d x.s x.t))
  rt : SqT K H x.r (x.roots.map V.int)
  ld : LaidAt H x.d x.l
  sp : H x.s = some (.lst (x.spots.map V.int))
  nd : (x.l.map (·.1)).Nodup
  le : x.l.length ≤ 1000
  fw : H x.t = some (.dK (kvsF x.leads))
  ft : ∀ q ∈ x.leads, H q.2.2 = some (.tup (q.2.1.map V.int))
def NotInt (K : PySem.W.Frag) (H : Hp) (v : V) : Prop := (∃ b, v = .bl b) ∨ ∃ n, TyX K H v (.type n) ∧ kitB n "int" = some false
def spProgLen (A : Ad) (K : PySem.W.Frag) : Sp := fun vs H Q _ => ∃ x : ProgO, vs = [.ref x.p] ∧ x.At A K H ∧ Q (.int x.spots.length) H
def spProgPlaces (A : Ad) (K : PySem.W.Frag) : Sp := fun vs H Q _ => ∃ x : ProgO, vs = [.ref x.p] ∧ x.At A K H ∧ ∀ q H', Vc.Ed [] H H' → H q = none → H' q = some (.lst (x.spots.map V.int)) → Q (.ref q) H'
def spProgIn (A : Ad) (K : PySem.W.Frag) : Sp := fun vs H Q _ => ∃ (x : ProgO) (v : V), vs = [.ref x.p, v] ∧ x.At A K H ∧ ((∃ n : Int, v = .int n ∧ Q (.bl (decide (n ∈ x.l.map (·.1)))) H) ∨ (NotInt K H v ∧ Q (.bl false) H))
def spProgGet (A : Ad) (K : PySem.W.Frag) : Sp := fun vs H Q E => ∃ (x : ProgO) (n : Int), vs = [.ref x.p, .int n] ∧ x.At A K H ∧ (∀ q ∈ x.l, q.1 = n → Q (vOf q.2) H) ∧
  (n ∉ x.l.map (·.1) → ∀ d H', Vc.Ed [] H H' → H' d = some (.xd [("at", .int n)]) → E (.ref A.C_BadAddress) (some d) H')
section
variable {w : World} {K : PySem.W.Frag} {mg : Str → Option Value} {base : Heap} {A : Ad}
theorem ok_Programu_containsu {P : Program} (T : Txt K mg A) : FnOk P w K mg base CX0 1 A.f_Programu_containsu A.d_Programu_containsu ["self", "x"] (spProgIn A K) := by
  refine T.F_Programu_containsu.ok sc_Programu_containsu (fun vs H Q E h => ?_) (fun cdv Ar outer s H vs Q E hr h => ?_)
  · obtain ⟨x, v, rfl, _⟩ := h
    rfl
  · obtain ⟨x, v, rfl, X, k⟩ := h
    have hu := hu_of hr
    have cl := T.cl_Program
    have no1 := T.no_Program_laid
    have hx := X.ob
    have hd := X.ld.ob
    have l1 := prog_laid (r := x.r) (d := x.d) (s := x.s) (t := x.t)
    refine ⟨_, (pss_one (ps_ret (pe_and (pe_callB call_isi (by rfl) T.n_isinstance (by decide +kernel) (pa_cons (pv 1) (pa_cons (pe_bltn (v := .ty "int") (by rfl) T.n_int (by decide +kernel) rfl) pa_nil))) (pe_and (pe_not (pe_callB call_isi (by rfl) T.n_isinstance (by decide +kernel) (pa_cons (pv 1) (pa_cons (pe_bltn (v := .ty "bool") (by rfl) T.n_bool (by decide +kernel) rfl) pa_nil)))) (pe_one (pe_cmp (pc_din (by exact hu) (pv 1) (pe_fld (pv 0) rfl)) rfl)))))), ?_⟩
    rcases k with ⟨n, rfl, k⟩ | ⟨⟨b, rfl⟩ | ⟨n, ty, kt⟩, k⟩
    · walk_at "go"
      rw [valL_in]
      exact k
    · walk_at "go"
      exact k
    · walk_at "go"
      refine Vc.go_isi ty kt ?_
      walk_at "go"
      exact k
end

end My
namespace My
open PySem PySem.Spec PyProof.Rows L2
/-! ### a program's length, its places -/
section
variable {w : World} {K : PySem.W.Frag} {mg : Str → Option Value} {base : Heap} {A : Ad}
theorem ok_Programu_lenu {P : Program} (T : Txt K mg A) : FnOk P w K mg base CX0 1 A.f_Programu_lenu A.d_Programu_lenu ["self"] (spProgLen A K) := by
  refine T.F_Programu_lenu.ok sc_Programu_lenu (fun vs H Q E h => ?_) (fun cdv Ar outer s H vs Q E hr h => ?_)
  · obtain ⟨x, rfl, _⟩ := h
    rfl
  · obtain ⟨x, rfl, X, k⟩ := h
    have cl := T.cl_Program
    have no1 := T.no_Program_spots
    have hx := X.ob
    have ho := X.sp
    have l1 := prog_spots (r := x.r) (d := x.d) (s := x.s) (t := x.t)
    refine ⟨_, (pss_one (ps_ret (pe_callB call_len_seq (by rfl) T.n_len (by decide +kernel) (pa_cons (pe_fld (pv 0) rfl) pa_nil)))), ?_⟩
    walk_at "go"
    rw [List.length_map]
    exact k
theorem ok_Program_places {P : Program} (T : Txt K mg A) : FnOk P w K mg base CX0 1 A.f_Program_places A.d_Program_places ["self"] (spProgPlaces A K) := by
  refine T.F_Program_places.ok sc_Program_places (fun vs H Q E h => ?_) (fun cdv Ar outer s H vs Q E hr h => ?_)
  · obtain ⟨x, rfl, _⟩ := h
    rfl
  · obtain ⟨x, rfl, X, k⟩ := h
    have cl := T.cl_Program
    have no1 := T.no_Program_spots
    have hx := X.ob
    have ho := X.sp
    have l1 := prog_spots (r := x.r) (d := x.d) (s := x.s) (t := x.t)
    refine ⟨_, (pss_one (ps_ret (pe_callTy Vc.call_lstD (by rfl) T.n_list (by decide +kernel) (pa_cons (pe_fld (pv 0) rfl) pa_nil)))), ?_⟩
    walk_at "go"
    intro q nq
    generalize hu1 : upd _ q _ = H1
    obtain ⟨e1, hq⟩ := Vc.alloc hu1 nq
    exact k q H1 e1 nq hq
end

end My
namespace My
open PySem PySem.Spec PyProof.Rows L2
/-! ### a program's index -/
section
variable {w : World} {K : PySem.W.Frag} {mg : Str → Option Value} {base : Heap} {A : Ad}
theorem ok_Programu_getitemu (T : Txt K mg A) : FnOk PG w K mg base (CX PG w) 3 A.f_Programu_getitemu A.d_Programu_getitemu ["self", "at"] (spProgGet A K) := by
  have G_Programu_containsu := ok_Programu_containsu (P := PG) (w := w) (base := base) T
  have G_BadAddressu_initu := ok_BadAddressu_initu (w := w) (base := base) T
  refine T.F_Programu_getitemu.okX sc_Programu_getitemu (fun vs H Q E h => ?_) (fun cdv Ar outer s H vs Q E hr h => ?_)
  · obtain ⟨x, n, rfl, _⟩ := h
    rfl
  · obtain ⟨x, n, rfl, X, k, kE⟩ := h
    have hu := hu_of hr
    have cl := T.cl_Program
    have no1 := T.no_Program_laid
    have hx := X.ob
    have hd := X.ld.ob
    have l1 := prog_laid (r := x.r) (d := x.d) (s := x.s) (t := x.t)
    refine ⟨_, (pss_cons (ps_if (pt_cmpR (Vc.op_notinO G_Programu_containsu (by exact hr.mono (by decide)) T.sp_Program_Programu_containsu T.b_Programu_containsu) (pv 1) (pv 0) (by rfl)) (pss_one (Vc.ps_raiseT rfl (takes_of rfl rfl rfl rfl) (pmk_oex T.ox_BadAddress T.i_BadAddress T.ti_BadAddress G_BadAddressu_initu (by exact hr.mono (by decide)) T.b_BadAddressu_initu .nil pass0 (by rfl) T.g_BadAddress (pa_cons (pv 1) pa_nil)))) pss_nil) (pss_one (ps_ret (pe_dget (by exact hu) (pe_fld (pv 0) rfl) (pv 1) (fun _ _ => rfl))))), ?_⟩
    walk_at "go"
    refine ⟨x, .int n, rfl, X, .inl ⟨n, rfl, _, rfl, ?_⟩⟩
    walk_at "go"
    by_cases hn : n ∈ x.l.map (·.1)
    · obtain ⟨q, hq, rfl⟩ := List.mem_map.mp hn
      have hv := valL_mem X.nd hq
      rw [decide_eq_true hn, show (true ^^ true) = false from rfl]
      walk_at "go"
      exact k q hq rfl
    · rw [decide_eq_false hn, show (true ^^ false) = true from rfl]
      walk_at "go"
      exact fun d H' _ e h => kE hn d H' (by walk_at "ed") h
end

end My
namespace My
open PySem PySem.Spec PyProof.Rows L2
/-! ### what is handed as values: a list, a tuple -/
structure Handed (A : Ad) (K : PySem.W.Frag) (H : Hp) (h : Addr) (vals : List Int) : Prop where
  is : SqL K H h (vals.map V.int) ∨ SqT K H h (vals.map V.int)
theorem Handed.ed0 {A : Ad} {K : PySem.W.Frag} {H H' : Hp} {h : Addr} {vals : List Int} (e : Vc.Ed [] H H') (X : Handed A K H h vals) : Handed A K H' h vals := by
  rcases X.is with X | X
  · exact ⟨.inl (e.sql0 X)⟩
  · exact ⟨.inr (e.sqt X)⟩
/-- the new instance gets its fields -/
theorem Handed.ins {A : Ad} {K : PySem.W.Frag} {H H' : Hp} {h p C dx : Addr} {vals : List Int} (hp : H p = some (.ins C dx [])) (e : Vc.Ed [p] H H') (X : Handed A K H h vals) : Handed A K H' h vals := by
  rcases X.is with X | X
  · exact ⟨.inl (e.sqlk hp (fun ys z => by cases z) X)⟩
  · exact ⟨.inr (e.sqt X)⟩
theorem list_any {A : Ad} {K : PySem.W.Frag} {H : Hp} {Q : VK} {h : Addr} {vals : List Int} (X : Handed A K H h vals) (l1 : vals.length ≤ 1000) (k : ∀ L H', H L = none → Vc.Ed [] H H' → H' L = some (.lst (vals.map V.int)) → Q (.ref L) H') :
    Vc.rLstOf K [.ref h] H Q := by
  rcases X.is with X | X
  · exact Vc.go_lstD X fun L nL => k L _ nL (.new nL) upd_same
  · exact Vc.go_lstDT X fun L nL => k L _ nL (.new nL) upd_same

end My
namespace My
open PySem PySem.Spec PyProof.Rows L2
/-! ### a program made -/
theorem CodeO.At.ins {A : Ad} {H H' : Hp} {x : CodeO} {p C dx : Addr} (hp : H p = some (.ins C dx [])) (e : Vc.Ed [p] H H') (h : x.At A H) : x.At A H' := by
  refine h.ed e (fun z => ?_) (fun z => ?_) (fun z => ?_) fun q hq z => ?_
  · have := h.ob; rw [List.mem_singleton.mp z, hp] at this; cases this
  · have := h.od; rw [List.mem_singleton.mp z, hp] at this; cases this
  · have := h.tb; rw [List.mem_singleton.mp z, hp] at this; cases this
  · obtain ⟨d, h⟩ := h.fm q hq; rw [List.mem_singleton.mp z, hp] at h; cases h
theorem putK_len (kvs : List (Key × V)) (k : Key) (v : V) : (putK kvs k v).length ≤ kvs.length + 1 := by
  unfold putK
  split
  · rw [List.length_map]; exact Nat.le_succ _
  · rw [List.length_append]; exact Nat.le_refl _
theorem putF_new {l : LL} {p : Int} {x : List Int × Addr} (h : p ∉ l.map (·.1)) : putK (kvsF l) (.inl p) (.ref x.2) = kvsF (l ++ [(p, x)]) := by
  have hn : valV (kvsF l) (.inl p) = none := by
    unfold valV kvsF
    rw [Option.map_eq_none_iff, List.find?_eq_none]
    intro y hy z
    obtain ⟨q, hq, rfl⟩ := List.mem_map.mp hy
    exact h (List.mem_map.mpr ⟨q, hq, Sum.inl.inj (of_decide_eq_true z)⟩)
  rw [putK_new _ hn]
  unfold kvsF
  rw [List.map_append]; rfl
theorem go_sortedN {w : World} {H : Hp} {Q : VK} {a : Addr} {ns : List Int} {n : Nat} (e : H a = some (SetO w a (fun j => decide (j ∈ ns)) n)) (h64 : n < 64) (h : ∀ (ms : List Int) (p : Addr), ms.Pairwise (· < ·) → (∀ k, k ∈ ms ↔ k ∈ ns) → ms.length = n → H p = none → Q (.ref p) (upd H p (.lst (ms.map V.int)))) : rSortedSet w [.ref a] H Q :=
  ⟨a, _, n, rfl, e, h64, fun ms p pw hm hl np => h ms p pw (fun k => (hm k).trans decide_eq_true_iff) hl np⟩
def spProgInit (A : Ad) (K : PySem.W.Frag) : Sp := fun vs H Q E => ∃ (p dx h r : Addr) (x : CodeO) (vals roots : List Int), vs = [.ref p, .ref x.c, .ref h, .ref r] ∧ H p = some (.ins A.C_Program dx []) ∧ x.At A H ∧ x.Ok ∧ Handed A K H h vals ∧ Fit x.fs vals ∧ SqT K H r (roots.map V.int) ∧ roots.length ≤ 24 ∧ (∀ y ∈ roots, -3 ≤ y ∧ y ≤ vals.length + 2) ∧
  (∀ pl d H', Vc.Ed [p] H H' → Rch x.fs vals roots pl → instrAt x.fs vals pl = none → (∀ q, Rch x.fs vals roots q → instrAt x.fs vals q = none → pl ≤ q) → H' d = some (.xd [("place", .int pl)]) → E (.ref A.C_NotWhole) (some d) H') ∧
  ((∀ q, Rch x.fs vals roots q → instrAt x.fs vals q ≠ none) → ∀ (o : ProgO) (H' : Hp), o.p = p → Vc.Ed [p] H H' → H o.r = none → H o.d = none → H o.s = none → o.At A K H' → (∀ q, q ∈ o.l.map (·.1) ↔ Rch x.fs vals roots q) → (∀ q ∈ o.l, q.2.1 = instrAt x.fs vals q.1) →
    o.roots.Pairwise (· < ·) → (∀ k, k ∈ o.roots ↔ k ∈ roots) → o.spots.Perm (o.l.map (·.1)) → o.spots.Pairwise (· ≤ ·) → H o.t = none → o.leads.map (·.1) = o.spots → (∀ q ∈ o.leads, q.2.1 = nextsAt x.fs vals q.1) → Q .non H')
section
variable {w : World} {K : PySem.W.Frag} {mg : Str → Option Value} {base : Heap} {A : Ad}
theorem ok_Programu_initu (T : Txt K mg A) : FnR PG w K mg base (CX PG w) 6 A.f_Programu_initu (Vc.spV 3 (spProgInit A K)) := by
  have G_explore := ok_explore (w := w) (base := base) T
  have G_CodeSet_followers := ok_CodeSet_followers (P := PG) (w := w) (base := base) T
  have G_NotWholeu_initu := ok_NotWholeu_initu (w := w) (base := base) T
  refine Vc.Fun.okV T.F_Programu_initu T.b_Programu_initu sc_Programu_initu (fun cdv Ar outer s H vs Q E hr h => ?_)
  obtain ⟨p, dx, h, r, x, vals, roots, rfl, hp, hX, hO, hH, F, hR, r24, rb, kE, kQ⟩ := h
  have hu := hu_of hr
  have cl := T.cl_Program
  have no1 := T.no_Program_roots
  have no2 := T.no_Program_laid
  have no3 := T.no_Program_spots
  have no4 := T.no_Program_leads
  have vl := F.len
  refine ⟨_, (pss_cons (ps_fld (pv 0) (pe_callTy Vc.call_tupD (by rfl) T.n_tuple (by decide +kernel) (pa_cons (pe_callB (cr_sortedSet (by rfl)) (by rfl) T.n_sorted (by decide +kernel) (pa_cons (pe_callTy (Vc.cr_setT (by rfl)) (by rfl) T.n_set (by decide +kernel) (pa_cons (pv 3) pa_nil)) pa_nil)) pa_nil)) rfl) (pss_cons (ps_fld (pv 0) (pe_call G_explore (by exact hr.mono (by decide)) (by rfl) T.g_explore T.F_explore.kp T.b_explore .nil pass0 (pa_cons (pv 1) (pa_cons (pe_callTy Vc.call_lstD (by rfl) T.n_list (by decide +kernel) (pa_cons (pv 2) pa_nil)) (pa_cons (pe_fld (pv 0) rfl) pa_nil)))) rfl) (pss_cons (ps_fld (pv 0) (pe_callB cr_sorted (by rfl) T.n_sorted (by decide +kernel) (pa_cons (pe_callTy (call_list_dK rfl) (by rfl) T.n_list (by decide +kernel) (pa_cons (pe_fld (pv 0) rfl) pa_nil)) pa_nil)) rfl) (pss_cons (ps_for (passes_of rfl) rfl (pi_list (pe_fld (pv 0) rfl)) (pg_name (i := 4) sc_Programu_initu.nd rfl (Or.inl rfl)) (pss_one (ps_if (pt_cmpR op_isN (pe_dget (by exact hu) (pe_fld (pv 0) rfl) (pv 4) (fun _ _ => rfl)) pe_non (nomark _)) (pss_one (Vc.ps_raiseT rfl (takes_of rfl rfl rfl rfl) (pmk_oex T.ox_NotWhole T.i_NotWhole T.ti_NotWhole G_NotWholeu_initu (by exact hr.mono (by decide)) T.b_NotWholeu_initu .nil pass0 (by rfl) T.g_NotWhole (pa_cons (pv 4) pa_nil)))) pss_nil))) (pss_one (ps_fld (pv 0) (pe_dc (own := [("place", 4)]) (g := gName 4) rfl sc_Programu_initu.nd (pi_list (pe_fld (pv 0) rfl)) (blkOk_by (own := [("place", 4)]) (N := ["self", "codes", "values", "roots", "place"]) (sc := defScope s_Programu_initu) (by decide +kernel)) (fun _ _ _ _ _ => by exact (pg_name (i := 4) sc_Programu_initu.nd rfl (Or.inl rfl))) (fun _ _ _ _ _ => by exact pts_nil) (fun _ _ _ _ _ => by (refine' Vc.blkE ?h ?q; (case h => exact (pv 4)); (case q => first | exact rfl | (dsimp only; done) | (dsimp only; exact rfl)))) (fun _ _ _ _ _ => by (refine' Vc.blkE ?h ?q; (case h => exact (pe_meth (pv 1) T.cl_CodeSet T.m_CodeSet_followers G_CodeSet_followers (by exact hr.mono (by decide)) T.b_CodeSet_followers .nil pass0 (pa_cons (pe_dget (by exact hu) (pe_fld (pv 0) rfl) (pv 4) (fun _ _ => rfl)) (pa_cons (pv 4) pa_nil)))); (case q => first | exact rfl | (dsimp only; done) | (dsimp only; exact rfl))))) rfl)))))), ?_⟩
  walk_at "go"
  refine Vc.go_setT hR (by omega) fun a n na hn => ?_
  generalize hu1 : upd _ a _ = H1
  obtain ⟨e1, ha1⟩ := Vc.alloc hu1 na
  walk_at "go"
  refine go_sortedN ha1 (by omega) fun ms q pw hm ml nq => ?_
  generalize hu2 : upd _ q _ = H2
  obtain ⟨e2, hq2⟩ := Vc.alloc hu2 nq
  walk_at "go"
  intro rt nrt
  generalize hu3 : upd _ rt _ = H3
  obtain ⟨e3, hrt⟩ := Vc.alloc hu3 nrt
  have e3' : Vc.Ed [] H H3 := by walk_at "ed"
  have hp3 : H3 p = some (.ins A.C_Program dx []) := e3'.at0 hp
  have nrt0 : H rt = none := e1.dom _ (e2.dom _ nrt)
  clear ha1 hq2 e1 e2 e3
  walk_at "go"
  generalize hu4 : upd _ p _ = H4
  obtain ⟨e4, hp4⟩ := Vc.chg hu4 hp3
  have e4' : Vc.Ed [p] H H4 := by walk_at "ed"
  have hH4 := hH.ins hp e4'
  have nrp : rt ≠ p := fun z => by rw [z, hp] at nrt0; cases nrt0
  have hrt4 := e4.at1 nrp hrt
  walk_at "go"
  refine list_any hH4 (by omega) fun L H5 nL e5 hL => ?_
  have e5' : Vc.Ed [p] H H5 := by walk_at "ed"
  have hX5 := hX.ins hp e5'
  have hrt5 := e5.at0 hrt4
  have hp5 := e5.at0 hp4
  have mb : ∀ y ∈ ms, -3 ≤ y ∧ y ≤ vals.length + 2 := fun y hy => rb y ((hm y).mp hy)
  obtain ⟨m, R, hrun⟩ := run_ex F _ ms [] (Nat.le_refl _) (RInv.init F (by omega) mb)
  have hend := hrun.end_ F (RInv.init F (by omega) mb)
  walk_at "go"
  refine ⟨x, L, rt, vals, ms, m, R, rfl, hX5, hO, .of hL, F, .of hrt5, by omega, mb, hrun, fun d l H6 nd e6 hld hlR => ?_⟩
  subst hlR
  have hp6 := e6.at0 hp5
  have e6' : Vc.Ed [p] H H6 := by walk_at "ed"
  have nd0 : H d = none := e5'.dom _ nd
  have ndp : d ≠ p := fun z => by rw [z, hp] at nd0; cases nd0
  have few := hend.few F
  rw [laidOf_len] at few
  clear e5 hp5 hL e4 hp4 hH4 hp3 hrt e3' hX5
  have hrt6 := e6.at0 hrt5
  walk_at "go"
  generalize hu7 : upd _ p _ = H7
  obtain ⟨e7, hp7⟩ := Vc.chg hu7 hp6
  have hld7 := hld.ed1 e7 ndp
  have hd7 := hld7.ob
  have e7' : Vc.Ed [p] H H7 := by walk_at "ed"
  have hrt7 := e7.at1 nrp hrt6
  clear e6 hp6 hld hrt5 hrt4 e6' e5' e4'
  walk_at "go"
  intro kl nkl
  generalize hu8 : upd _ kl _ = H8
  obtain ⟨e8, hkl⟩ := Vc.alloc hu8 nkl
  have ek : ((kvsL l).map fun kv => kV kv.1) = (l.map (·.1)).map V.int := by unfold kvsL; rw [List.map_map, List.map_map]; rfl
  rw [ek] at hkl
  walk_at "go"
  refine Vc.go_sorted (.of hkl) (by rw [List.length_map]; exact few) fun sp s perm srt ns => ?_
  generalize hu9 : upd _ s _ = H9
  obtain ⟨e9, hs⟩ := Vc.alloc hu9 ns
  have hp9 := e9.at0 (e8.at0 hp7)
  have hld9 := (hld7.ed0 e8).ed0 e9
  have ns0 : H s = none := e7'.dom _ (e8.dom _ ns)
  have nsp : s ≠ p := fun z => by rw [z, hp] at ns0; cases ns0
  have e9' : Vc.Ed [p] H H9 := by walk_at "ed"
  have hrt9 := e9.at0 (e8.at0 hrt7)
  clear hkl e8 e9 hp7 hld7 hd7 hrt7 e7 e7'
  walk_at "go"
  generalize hu10 : upd _ p _ = H10
  obtain ⟨e10, hp10⟩ := Vc.chg hu10 hp9
  have hld10 := hld9.ed1 e10 ndp
  have hs10 := e10.at1 nsp hs
  have hrt10 := e10.at1 nrp hrt9
  have e10' : Vc.Ed [p] H H10 := by walk_at "ed"
  have hd10 := hld10.ob
  clear hp9 hld9 hrt9 hs e10 e9'
  walk_at "go"
  have hmem : ∀ y, y ∈ sp ↔ Rch x.fs vals roots y := fun y => by
    rw [perm.mem_iff, ← keys_laid, hrun.mem]
    exact ⟨fun z => z.congr hm, fun z => z.congr fun k => (hm k).symm⟩
  have hins : ∀ q ∈ l, q.2.1 = instrAt x.fs vals q.1 := fun q hq => hend.ins (q.1, q.2.1) (List.mem_map.mpr ⟨q, hq, rfl⟩)
  have knd : (l.map (·.1)).Nodup := by have := hend.nd; rwa [keys_laid] at this
  refine ⟨⟨_, .of hs10⟩, for_list (xs := sp.map V.int) (fun i σ H' => ∃ y : Option V, σ = [some (.ref p), some (.ref x.c), some (.ref h), some (.ref r), y] ∧ Vc.Ed [] H10 H' ∧ ∀ k ∈ sp.take i, instrAt x.fs vals k ≠ none) ⟨none, rfl, .refl, by intro k h; cases h⟩ ?_ ?_ ?_⟩
  · rintro i σ H' _ ⟨_, _, e, _⟩
    exact .of (e.at0 hs10)
  · rintro i v σ H11 hi ⟨y, rfl, e11, hall⟩
    rw [List.getElem?_map] at hi
    obtain ⟨k, hki, rfl⟩ := Option.map_eq_some_iff.mp hi
    have hk : k ∈ sp := List.mem_of_getElem? hki
    obtain ⟨q, hq, rfl⟩ := List.mem_map.mp (perm.mem_iff.mp hk)
    have hv := valL_mem knd hq
    have hp11 := e11.at0 hp10
    have hd11 := e11.at0 hd10
    rcases vOf_cases q.2 with ⟨hn, e⟩ | ⟨bs, hbs, e⟩
    · rw [e] at hv
      walk_at "go"
      intro dd H12 _ e12 hdd
      have hnone : instrAt x.fs vals q.1 = none := by rw [← hins q hq]; exact hn
      refine kE q.1 dd H12 (by walk_at "ed") ((hmem _).mp hk) hnone (fun z hz hzn => ?_) hdd
      have hzs := (hmem z).mpr hz
      rw [← List.take_append_drop i sp] at hzs
      rcases List.mem_append.mp hzs with h | h
      · exact (hall z h hzn).elim
      · have hdr : sp.drop i = q.1 :: sp.drop (i + 1) := by
          rw [List.drop_eq_getElem?_toList_append, hki]; rfl
        have pw2 := srt.sublist (List.drop_sublist i sp)
        rw [hdr] at pw2 h
        rcases List.mem_cons.mp h with e | e
        · omega
        · exact (List.pairwise_cons.mp pw2).1 z e
    · rw [e] at hv
      walk_at "go"
      refine ⟨_, rfl, e11, fun k hk => ?_⟩
      rw [List.take_add_one, hki] at hk
      rcases List.mem_append.mp hk with h | h
      · exact hall k h
      · rw [List.mem_singleton.mp h, ← hins q hq, hbs]; intro z; cases z
  · rintro σ H11 ⟨y, rfl, e11, hall⟩
    rw [List.length_map, List.take_length] at hall
    have hp11 := e11.at0 hp10
    have hd11 := e11.at0 hd10
    have hs11 := e11.at0 hs10
    have hX11 := hX.ins hp (show Vc.Ed [p] H H11 by walk_at "ed")
    have hld11 := hld10.ed0 e11
    have hrt11 := e11.at0 hrt10
    have e11' : Vc.Ed [p] H H11 := by walk_at "ed"
    have spl : sp.length = l.length := by rw [perm.length_eq, List.length_map]
    have clc := T.cl_CodeSet
    clear hp10 hd10 hs10 hrt10 hld10 e11 e10'
    walk_at "go"
    refine ⟨⟨_, .of hs11⟩, Vc.dc_by (walk_list (xs := sp.map V.int)) (fun t i H' => Vc.Ed [] H11 H' ∧ ∃ ll : LL, H' t = some (.dK (kvsF ll)) ∧ ll.map (·.1) = sp.take i ∧ (∀ q ∈ ll, q.2.1 = nextsAt x.fs vals q.1) ∧ ∀ q ∈ ll, H' q.2.2 = some (.tup (q.2.1.map V.int))) ?_ ?_ ?_ ?_⟩
    · intro t H12 nt e12 ht
      exact ⟨e12, [], ht, rfl, (by intro q h; cases h), by intro q h; cases h⟩
    · rintro t i H' _ _ ⟨e12, _⟩
      exact .of (e12.at0 hs11)
    · rintro t i v H12 H13 nt hi ⟨e12, ll, ht, lk, lv, lt⟩ ⟨rfl, hx⟩
      rw [List.length_map] at hi
      rw [List.getElem?_map] at hx
      obtain ⟨k, hki, rfl⟩ := Option.map_eq_some_iff.mp hx
      have hk : k ∈ sp := List.mem_of_getElem? hki
      obtain ⟨q, hq, rfl⟩ := List.mem_map.mp (perm.mem_iff.mp hk)
      have hv := valL_mem knd hq
      obtain ⟨bs, hbs⟩ : ∃ bs, q.2.1 = some bs := Option.ne_none_iff_exists'.mp (by rw [hins q hq]; exact hall q.1 hk)
      have eV : vOf q.2 = .ref q.2.2 := by unfold vOf; rw [hbs]; rfl
      rw [eV] at hv
      have hib : instrAt x.fs vals q.1 = some bs := by rw [← hins q hq]; exact hbs
      rcases at_cases F q.1 with ⟨z, _⟩ | ⟨f, hf, bs', last, _, _, _, _, hbs', _, _, In, _, _, hnx⟩
      · rw [hib] at z; cases z
      rw [hib] at hbs'
      injection hbs' with hbs'
      subst hbs'
      obtain ⟨it, hit, rfl⟩ := List.mem_map.mp hf
      have hX13 := hX11.ed0 e12
      have hx13 := hX13.ob
      have hp13 := e12.at0 hp11
      have hd13 := e12.at0 hd11
      have ht13 := e12.tup _ _ (hld11.tp q hq bs hbs)
      walk_at "go"
      refine ⟨rfl, ?_⟩
      walk_at "go"
      refine ⟨x, q.2.2, q.1, it, bs, last, rfl, hX13, hO, hit, .of ht13, In, fun z H14 e14 hz => ?_⟩
      have ht14 := e14.at0 ht
      walk_at "go"
      have lln : (kvsF ll).length ≤ 64 := by
        have := congrArg List.length lk
        rw [List.length_map, List.length_take] at this
        rw [kvsF_len]; omega
      refine ⟨_, .inl q.1, rfl, ht14, small1000 (by omega), ?_⟩
      generalize hu15 : upd _ t _ = H15
      obtain ⟨e15, h15⟩ := Vc.chg hu15 ht14
      have fresh : q.1 ∉ ll.map (·.1) := by
        rw [lk]
        intro z
        have nds : sp.Nodup := perm.nodup_iff.mpr knd
        obtain ⟨j, hj, e⟩ := List.mem_take_iff_getElem.mp z
        have h1 : sp[j]? = some q.1 := by rw [List.getElem?_eq_getElem (by omega), e]
        have := (List.getElem?_inj (by omega) nds).mp (h1.trans hki.symm)
        omega
      rw [show V.ref z = V.ref ((foll it.1.flow bs.length last q.1, z) : List Int × Addr).2 from rfl, putF_new fresh] at h15
      have e1215 : Vc.Ed [t] H13 H15 := (e14.mono fun _ z => nomatch z).one e15 (.inl (by simp))
      refine ⟨(e12.ex e14).one e15 (.inr nt), _, h15, ?_, fun u hu => ?_, fun u hu => ?_⟩
      · rw [List.map_append, lk, List.take_add_one, hki]; rfl
      · rcases List.mem_append.mp hu with hu | hu
        · exact lv u hu
        · rw [List.mem_singleton.mp hu]; exact hnx.symm
      · rcases List.mem_append.mp hu with hu | hu
        · exact e1215.tup _ _ (lt u hu)
        · rw [List.mem_singleton.mp hu]; exact e15.tup _ _ hz
    · rintro D H12 nD ⟨e12, ll, hD, lk, lv, lt⟩
      rw [List.length_map, List.take_length] at lk
      have nDp : D ≠ p := fun z => by rw [z, hp11] at nD; cases nD
      have nD0 : H D = none := e11'.dom _ nD
      have hp12 := e12.at0 hp11
      walk_at "go"
      generalize hu13 : upd _ p _ = H13
      obtain ⟨e13, hp13⟩ := Vc.chg hu13 hp12
      rw [prog_put] at hp13
      have hs13 := e13.at1 nsp (e12.at0 hs11)
      have hld13 := (hld11.ed0 e12).ed1 e13 ndp
      have hrt13 := e13.at1 nrp (e12.at0 hrt11)
      walk_at "go"
      refine kQ (fun z hz => hall z ((hmem z).mpr hz)) ⟨p, dx, rt, d, s, D, ms, l, sp, ll⟩ H13 rfl (by walk_at "ed") nrt0 nd0 ns0 ⟨hp13, .of hrt13, hld13, hs13, knd, Nat.le_of_lt (Nat.lt_trans few (by decide)), e13.at1 nDp hD, fun q hq => e13.tup _ _ (lt q hq)⟩ (fun z => ?_) hins pw hm perm srt nD0 lk lv
      show z ∈ l.map (·.1) ↔ _
      rw [← perm.mem_iff]; exact hmem z
end

end My
namespace My
open PySem PySem.Spec PyProof.Rows L2
/-! ### programs made: what they tell -/
theorem asc_nd {as : List Int} (h : as.Pairwise (· < ·)) : as.Nodup := h.imp fun h e => by omega
theorem asc_eq {as bs : List Int} (pa : as.Pairwise (· < ·)) (pb : bs.Pairwise (· < ·)) (h : ∀ x, x ∈ as ↔ x ∈ bs) : as = bs :=
  List.Perm.eq_of_pairwise (le := fun a b : Int => a < b) (fun a b _ _ h1 h2 => absurd (Int.lt_trans h1 h2) (Int.lt_irrefl _)) pa pb (nodup_len (asc_nd pa) (asc_nd pb) h)
theorem srt_eq {as bs : List Int} (pa : as.Pairwise (· ≤ ·)) (pb : bs.Pairwise (· ≤ ·)) (h : as.Perm bs) : as = bs :=
  List.Perm.eq_of_pairwise (le := fun a b : Int => a ≤ b) (fun a b _ _ h1 h2 => Int.le_antisymm h1 h2) pa pb h
/-- all that is reached is whole; the least place that is not -/
def Whole (fs : List FD) (vals roots : List Int) : Prop := ∀ q, Rch fs vals roots q → instrAt fs vals q ≠ none
structure Least (fs : List FD) (vals roots : List Int) (pl : Int) : Prop where
  r : Rch fs vals roots pl
  n : instrAt fs vals pl = none
  l : ∀ q, Rch fs vals roots q → instrAt fs vals q = none → pl ≤ q
/-- what a program tells, by what is reached -/
structure ProgIs (fs : List FD) (vals roots : List Int) (o : ProgO) : Prop where
  mem : ∀ q, q ∈ o.l.map (·.1) ↔ Rch fs vals roots q
  ins : ∀ q ∈ o.l, q.2.1 = instrAt fs vals q.1
  rs : o.roots.Pairwise (· < ·)
  rm : ∀ k, k ∈ o.roots ↔ k ∈ roots
  sp : o.spots.Perm (o.l.map (·.1))
  ss : o.spots.Pairwise (· ≤ ·)
  lk : o.leads.map (·.1) = o.spots
  lv : ∀ q ∈ o.leads, q.2.1 = nextsAt fs vals q.1
structure ProgNew (H : Hp) (o : ProgO) : Prop where
  p : H o.p = none
  r : H o.r = none
  d : H o.d = none
  s : H o.s = none
  t : H o.t = none
theorem ProgNew.back {S : List Addr} {H H' : Hp} {o : ProgO} (e : Vc.Ed S H H') (h : ProgNew H' o) : ProgNew H o := ⟨e.dom _ h.p, e.dom _ h.r, e.dom _ h.d, e.dom _ h.s, e.dom _ h.t⟩
theorem ProgO.At.ed {A : Ad} {K : PySem.W.Frag} {S : List Addr} {H H' : Hp} {o : ProgO} (e : Vc.Ed S H H') (n1 : o.p ∉ S) (n2 : o.d ∉ S) (n3 : o.s ∉ S) (n4 : o.t ∉ S) (h : o.At A K H) : o.At A K H' :=
  ⟨e.keep _ _ n1 h.ob, e.sqt h.rt, ⟨e.keep _ _ n2 h.ld.ob, fun q hq bs hb => e.tup _ _ (h.ld.tp q hq bs hb)⟩, e.keep _ _ n3 h.sp, h.nd, h.le, e.keep _ _ n4 h.fw, fun q hq => e.tup _ _ (h.ft q hq)⟩
theorem ProgO.At.ed0 {A : Ad} {K : PySem.W.Frag} {H H' : Hp} {o : ProgO} (e : Vc.Ed [] H H') (h : o.At A K H) : o.At A K H' := h.ed e (fun z => nomatch z) (fun z => nomatch z) (fun z => nomatch z) (fun z => nomatch z)
theorem make_prog {A : Ad} {K : PySem.W.Frag} {H : Hp} {R : Addr → Hp → Prop} {E : XK} {x : CodeO} {h : Addr} {vals : List Int} (roots : List Int) (X : x.At A H) (ok : x.Ok) (hH : Handed A K H h vals) (F : Fit x.fs vals) (l24 : roots.length ≤ 24) (rb : ∀ y ∈ roots, -3 ≤ y ∧ y ≤ vals.length + 2)
    (kE : ∀ pl d H', Vc.Ed [] H H' → Least x.fs vals roots pl → H' d = some (.xd [("place", .int pl)]) → E (.ref A.C_NotWhole) (some d) H')
    (kQ : Whole x.fs vals roots → ∀ (o : ProgO) (H' : Hp), Vc.Ed [] H H' → ProgNew H o → o.At A K H' → ProgIs x.fs vals roots o → R o.p H') :
    ∀ p dx, H p = none → H dx = none → dx ≠ p → Vc.spV 3 (spProgInit A K) (.ref p :: .ref x.c :: .ref h :: roots.map V.int) (upd (upd H dx (.own p)) p (.ins A.C_Program dx [])) (fun v H2 => v = .non ∧ R p H2) E := by
  intro p dx np nd ne
  generalize hu : upd _ p _ = H2
  obtain ⟨e2, hp, hdx⟩ := Vc.allocI hu np nd ne
  refine ⟨[.ref p, .ref x.c, .ref h], roots.map V.int, rfl, rfl, by rw [List.length_map]; exact Nat.le_of_lt (small1000 (by omega)), fun r nr => ?_⟩
  generalize hu3 : upd _ r _ = H3
  obtain ⟨e3, hr⟩ := Vc.alloc hu3 nr
  have hp3 := e3.at0 hp
  have e3' : Vc.Ed [] H H3 := e2.ex e3
  refine ⟨p, dx, h, r, x, vals, roots, rfl, hp3, X.ed0 e3', ok, hH.ed0 e3', F, .of hr, l24, rb, fun pl d H' e hr hn hl hd => kE pl d H' (e3'.one e (.inr np)) ⟨hr, hn, hl⟩ hd, fun hw o H' ho e n1 n2 n3 hA hm hi hs hk hsp hss n4 lk lv => ⟨rfl, ?_⟩⟩
  rw [← ho]
  exact kQ hw o H' (e3'.one e (.inr np)) ⟨by rw [ho]; exact np, e3'.dom _ n1, e3'.dom _ n2, e3'.dom _ n3, e3'.dom _ n4⟩ hA ⟨hm, hi, hs, hk, hsp, hss, lk, lv⟩

end My
namespace My
open PySem PySem.Spec PyProof.Rows L2
/-! ### what is reached, told of the law's own dict -/
def badK (l : LD) : List Int := (l.filter fun q => q.2.1.isNone).map (·.1)
structure Told (fs : List FD) (vals roots : List Int) (l : LD) : Prop where
  rch : ∀ y, Rch fs vals roots y ↔ y ∈ l.map (·.1)
  ins : ∀ q ∈ l, q.2.1 = instrAt fs vals q.1
  nd : (l.map (·.1)).Nodup
  few : l.length < 64
  fit : Fit fs vals
theorem told_of {fs gs : List FD} {vals roots : List Int} {m : Nat} {l : LD} (F : Fit fs vals) (r24 : roots.length ≤ 24) (rb : ∀ x ∈ roots, -3 ≤ x ∧ x ≤ vals.length + 2) (h : Run fs vals m roots [] (laidOf l)) (p : gs.Perm fs) (nd : (gs.map (·.byte)).Nodup) : Told gs vals roots l := by
  have hend := h.end_ F (RInv.init F r24 rb)
  have few := hend.few F
  rw [laidOf_len] at few
  have knd := hend.nd
  rw [keys_laid] at knd
  refine ⟨fun y => ?_, fun q hq => ?_, knd, few, ⟨fun f hf => F.ok f (p.mem_iff.mp hf), F.by_, F.len⟩⟩
  · rw [← keys_laid, h.mem]
    exact ⟨fun r => r.perm p nd, fun r => r.perm p.symm ((p.map _).nodup_iff.mp nd)⟩
  · rw [instr_perm p nd]
    exact hend.ins (q.1, q.2.1) (List.mem_map.mpr ⟨q, hq, rfl⟩)
theorem Told.bad {fs vals roots l} (h : Told fs vals roots l) (y : Int) : y ∈ badK l ↔ Rch fs vals roots y ∧ instrAt fs vals y = none := by
  unfold badK
  constructor
  · intro hy
    obtain ⟨q, hq, rfl⟩ := List.mem_map.mp hy
    obtain ⟨hq, hn⟩ := List.mem_filter.mp hq
    refine ⟨(h.rch _).mpr (List.mem_map.mpr ⟨q, hq, rfl⟩), ?_⟩
    rw [← h.ins q hq]
    exact Option.isNone_iff_eq_none.mp hn
  · rintro ⟨r, n⟩
    obtain ⟨q, hq, rfl⟩ := List.mem_map.mp ((h.rch _).mp r)
    refine List.mem_map.mpr ⟨q, List.mem_filter.mpr ⟨hq, ?_⟩, rfl⟩
    rw [h.ins q hq, n]; rfl
theorem Told.whole {fs vals roots l} (h : Told fs vals roots l) (e : badK l = []) : Whole fs vals roots := fun q r n => by
  have := (h.bad q).mpr ⟨r, n⟩
  rw [e] at this; cases this
theorem Told.noleast {fs vals roots l pl} (h : Told fs vals roots l) (e : badK l = []) (L : Least fs vals roots pl) : False := h.whole e pl L.r L.n
theorem Told.nowhole {fs vals roots l} (h : Told fs vals roots l) (e : badK l ≠ []) (w : Whole fs vals roots) : False := by
  obtain ⟨y, hy⟩ := List.exists_mem_of_ne_nil _ e
  obtain ⟨r, n⟩ := (h.bad y).mp hy
  exact w y r n
theorem Told.min {fs vals roots l pl m} (h : Told fs vals roots l) (L : Least fs vals roots pl) (hm : m ∈ badK l) (hl : ∀ y, y ∈ badK l → m ≤ y) : m = pl := by
  have h1 := hl pl ((h.bad pl).mpr ⟨L.r, L.n⟩)
  obtain ⟨r, n⟩ := (h.bad m).mp hm
  have h2 := L.l m r n
  omega
theorem instr_len {fs vals} (F : Fit fs vals) {p : Int} {bs : List Int} (h : instrAt fs vals p = some bs) : bs.length ≤ 4 := by
  rcases at_cases F p with ⟨z, _⟩ | ⟨f, hf, bs', _, _, _, _, _, hb, _, bl, _⟩
  · rw [h] at z; cases z
  · rw [h] at hb
    injection hb with hb
    subst hb
    have := (F.ok f hf).l4
    omega
theorem Told.some {fs vals roots l} (h : Told fs vals roots l) (e : badK l = []) : ∀ q ∈ l, ∃ bs, q.2.1 = some bs ∧ bs.length ≤ 4 := fun q hq => by
  have hi := h.ins q hq
  cases hb : q.2.1 with
  | none =>
    exact (h.whole e q.1 ((h.rch _).mpr (List.mem_map.mpr ⟨q, hq, rfl⟩)) (by rw [← hi]; exact hb)).elim
  | some bs => exact ⟨bs, rfl, instr_len h.fit (by rw [← hi]; exact hb)⟩

end My
namespace My
open PySem PySem.Spec PyProof.Rows L2
/-! ### how far a place is from the roots; a queue that finds shortest ways -/
section
variable {fs : List FD} {vals roots : List Int}
def Lv (fs : List FD) (vals roots : List Int) : Nat → Int → Prop
  | 0, q => q ∈ roots
  | n + 1, q => ∃ p, Lv fs vals roots n p ∧ q ∈ nextsAt fs vals p
/-- n steps lead there, no fewer -/
structure Far (fs : List FD) (vals roots : List Int) (q : Int) (n : Nat) : Prop where
  lv : Lv fs vals roots n q
  no : ∀ m, m < n → ¬ Lv fs vals roots m q
theorem Far.inj {q : Int} {n m : Nat} (h : Far fs vals roots q n) (k : Far fs vals roots q m) : n = m := by
  rcases Nat.lt_trichotomy n m with l | l | l
  · exact (k.no n l h.lv).elim
  · exact l
  · exact (h.no m l k.lv).elim
theorem Lv.rch : ∀ {n : Nat} {q : Int}, Lv fs vals roots n q → Rch fs vals roots q
  | 0, _, h => .root h
  | _ + 1, _, ⟨_, h, n⟩ => .next (Lv.rch h) n
theorem Rch.lv {q : Int} (h : Rch fs vals roots q) : ∃ n, Lv fs vals roots n q := by
  induction h with
  | root h => exact ⟨0, h⟩
  | next _ n ih =>
    obtain ⟨k, h⟩ := ih
    exact ⟨k + 1, _, h, n⟩
theorem Lv.far : ∀ (n : Nat) {q : Int}, Lv fs vals roots n q → ∃ m, m ≤ n ∧ Far fs vals roots q m := by
  intro n
  induction n using Nat.strongRecOn with
  | ind n ih =>
    intro q h
    by_cases hm : ∃ m, m < n ∧ Lv fs vals roots m q
    · obtain ⟨m, l, hm⟩ := hm
      obtain ⟨k, lk, hk⟩ := ih m l hm
      exact ⟨k, by omega, hk⟩
    · exact ⟨n, Nat.le_refl _, h, fun m l z => hm ⟨m, l, z⟩⟩
theorem Far.prev {q : Int} {n : Nat} (h : Far fs vals roots q (n + 1)) : ∃ p, Far fs vals roots p n ∧ q ∈ nextsAt fs vals p := by
  obtain ⟨p, hp, hq⟩ := h.lv
  exact ⟨p, ⟨hp, fun m l z => h.no (m + 1) (by omega) ⟨p, z, hq⟩⟩, hq⟩
theorem sub_len : ∀ {as bs : List Int}, as.Nodup → (∀ x ∈ as, x ∈ bs) → as.length ≤ bs.length
  | [], _, _, _ => Nat.zero_le _
  | a :: r, bs, nd, h => by
    rw [List.nodup_cons] at nd
    have ha := h a List.mem_cons_self
    have := sub_len (as := r) (bs := bs.erase a) nd.2 fun x hx => by
      have ne : x ≠ a := fun z => nd.1 (z ▸ hx)
      exact (List.mem_erase_of_ne ne).mpr (h x (List.mem_cons_of_mem _ hx))
    rw [List.length_erase_of_mem ha] at this
    have := List.length_pos_of_mem ha
    show r.length + 1 ≤ _
    omega
/-- what is kept of each place: the one ahead of it, or none -/
abbrev BF := List (Int × Option Int)
structure Bfs (fs : List FD) (vals roots : List Int) (row : List Int) (bf : BF) (at_ : Nat) (dep : Int → Nat) (part : List Int) : Prop where
  keys : bf.map (·.1) = row
  nd : row.Nodup
  lv : ∀ x ∈ row, Lv fs vals roots (dep x) x
  mono : ∀ (i j : Nat) (x y : Int), i ≤ j → row[i]? = some x → row[j]? = some y → dep x ≤ dep y
  last : ∀ x0 : Int, row[at_]? = some x0 → ∀ x ∈ row, dep x ≤ dep x0 + 1
  done : ∀ (i : Nat) (x : Int), i < at_ → row[i]? = some x → ∀ y ∈ nextsAt fs vals x, y ∈ row ∧ dep y ≤ dep x + 1
  prt : ∀ x0 : Int, row[at_]? = some x0 → ∀ y ∈ part, y ∈ row ∧ dep y ≤ dep x0 + 1
  root : ∀ r ∈ roots, r ∈ row ∧ dep r = 0
  dp : ∀ (i : Nat) (x : Int), row[i]? = some x → dep x ≤ i
  bk : ∀ q ∈ bf, (q.2 = none → dep q.1 = 0) ∧ ∀ p, q.2 = some p → p ∈ row ∧ dep q.1 = dep p + 1 ∧ q.1 ∈ nextsAt fs vals p
theorem Bfs.init {rs : List Int} (nd : rs.Nodup) (h : ∀ x, x ∈ rs ↔ x ∈ roots) : Bfs fs vals roots rs (rs.map fun r => (r, none)) 0 (fun _ => 0) [] where
  keys := by rw [List.map_map]; exact List.map_id' _
  nd := nd
  lv := fun x hx => (h x).mp hx
  mono := fun _ _ _ _ _ _ _ => Nat.le_refl _
  last := fun _ _ _ _ => Nat.zero_le _
  done := fun i x hi _ => absurd hi (Nat.not_lt_zero _)
  prt := fun _ _ y hy => by cases hy
  root := fun r hr => ⟨(h r).mpr hr, rfl⟩
  dp := fun _ _ _ => Nat.zero_le _
  bk := fun q hq => by
    obtain ⟨r, _, rfl⟩ := List.mem_map.mp hq
    exact ⟨fun _ => rfl, fun p z => by cases z⟩
/-- a follower that is there already -/
theorem Bfs.old {row bf at_ dep part x0 y} (B : Bfs fs vals roots row bf at_ dep part) (h0 : row[at_]? = some x0) (hy : y ∈ row) : Bfs fs vals roots row bf at_ dep (part ++ [y]) :=
  have p : ∀ x0' : Int, row[at_]? = some x0' → ∀ z ∈ part ++ [y], z ∈ row ∧ dep z ≤ dep x0' + 1 := fun x h z hz => by
    rw [h0] at h
    cases h
    rcases List.mem_append.mp hz with hz | hz
    · exact B.prt _ h0 z hz
    · rw [List.mem_singleton.mp hz]; exact ⟨hy, B.last _ h0 _ hy⟩
  ⟨B.keys, B.nd, B.lv, B.mono, B.last, B.done, p, B.root, B.dp, B.bk⟩
/-- a new one -/
theorem Bfs.new {row bf at_ dep part x0 y} (B : Bfs fs vals roots row bf at_ dep part) (h0 : row[at_]? = some x0) (hy : y ∉ row) (hn : y ∈ nextsAt fs vals x0) :
    Bfs fs vals roots (row ++ [y]) (bf ++ [(y, some x0)]) at_ (fun z => if z = y then dep x0 + 1 else dep z) (part ++ [y]) := by
  have m0 : x0 ∈ row := List.mem_of_getElem? h0
  have lt : at_ < row.length := (List.getElem?_eq_some_iff.mp h0).1
  have h0' : (row ++ [y])[at_]? = some x0 := by rw [List.getElem?_append_left lt]; exact h0
  have dold : ∀ {z : Int}, z ∈ row → (if z = y then dep x0 + 1 else dep z) = dep z := fun {z} hz => if_neg (fun e => hy (by rw [← e]; exact hz))
  have dnew : (if y = y then dep x0 + 1 else dep y) = dep x0 + 1 := if_pos rfl
  have cases_ : ∀ {z : Int}, z ∈ row ++ [y] → z ∈ row ∨ z = y := fun hz => (List.mem_append.mp hz).imp id List.mem_singleton.mp
  have get : ∀ {i : Nat} {z : Int}, (row ++ [y])[i]? = some z → (i < row.length ∧ row[i]? = some z) ∨ (i = row.length ∧ z = y) := fun {i z} h => by
    rcases Nat.lt_or_ge i row.length with l | l
    · rw [List.getElem?_append_left l] at h; exact .inl ⟨l, h⟩
    · rw [List.getElem?_append_right l] at h
      have : i - row.length < 1 := (List.getElem?_eq_some_iff.mp h).1
      have e : i - row.length = 0 := by omega
      rw [e] at h
      injection h with h
      exact .inr ⟨by omega, h.symm⟩
  refine ⟨?_, ?_, fun x hx => ?_, fun i j x z hij hx hz => ?_, fun x hx z hz => ?_, fun i x hi hx z hz => ?_, fun x hx z hz => ?_, fun r hr => ?_, fun i x hx => ?_, fun q hq => ?_⟩
  · rw [List.map_append, B.keys]; rfl
  · rw [List.nodup_append]
    exact ⟨B.nd, by simp, fun a ha b hb e => hy (by rw [← List.mem_singleton.mp hb, ← e]; exact ha)⟩
  · rcases cases_ hx with hx | rfl
    · rw [dold hx]; exact B.lv x hx
    · rw [dnew]; exact ⟨x0, B.lv x0 m0, hn⟩
  · rcases get hx with ⟨l1, h1⟩ | ⟨l1, rfl⟩
    · rw [dold (List.mem_of_getElem? h1)]
      rcases get hz with ⟨l2, h2⟩ | ⟨l2, rfl⟩
      · rw [dold (List.mem_of_getElem? h2)]
        exact B.mono i j x z hij h1 h2
      · rw [dnew]; exact B.last _ h0 x (List.mem_of_getElem? h1)
    · rcases get hz with ⟨l2, h2⟩ | ⟨l2, rfl⟩
      · omega
      · exact Nat.le_refl _
  · rw [h0'] at hx
    cases hx
    rw [dold m0]
    rcases cases_ hz with hz | rfl
    · rw [dold hz]; exact B.last _ h0 z hz
    · rw [dnew]; exact Nat.le_refl _
  · have hx' : row[i]? = some x := by rw [List.getElem?_append_left (by omega)] at hx; exact hx
    obtain ⟨h1, h2⟩ := B.done i x hi hx' z hz
    rw [dold h1, dold (List.mem_of_getElem? hx')]
    exact ⟨List.mem_append_left _ h1, h2⟩
  · rw [h0'] at hx
    cases hx
    rw [dold m0]
    rcases List.mem_append.mp hz with hz | hz
    · obtain ⟨h1, h2⟩ := B.prt _ h0 z hz
      rw [dold h1]
      exact ⟨List.mem_append_left _ h1, h2⟩
    · rw [List.mem_singleton.mp hz, dnew]
      exact ⟨List.mem_append_right _ (List.mem_singleton.mpr rfl), Nat.le_refl _⟩
  · obtain ⟨h1, h2⟩ := B.root r hr
    rw [dold h1]
    exact ⟨List.mem_append_left _ h1, h2⟩
  · rcases get hx with ⟨l1, h1⟩ | ⟨l1, rfl⟩
    · rw [dold (List.mem_of_getElem? h1)]
      exact B.dp i x h1
    · rw [dnew]
      have := B.dp _ _ h0
      omega
  · rcases List.mem_append.mp hq with hq | hq
    · have hk : q.1 ∈ row := by rw [← B.keys]; exact List.mem_map.mpr ⟨q, hq, rfl⟩
      obtain ⟨h1, h2⟩ := B.bk q hq
      refine ⟨fun z => by rw [dold hk]; exact h1 z, fun p z => ?_⟩
      obtain ⟨a, b, c⟩ := h2 p z
      rw [dold hk, dold a]
      exact ⟨List.mem_append_left _ a, b, c⟩
    · rw [List.mem_singleton.mp hq]
      refine ⟨(fun z => by cases z), fun p z => ?_⟩
      have z : some x0 = some p := z
      injection z with z
      subst z
      rw [dold m0]
      exact ⟨List.mem_append_left _ m0, dnew, hn⟩
/-- the next one -/
theorem Bfs.step {row bf at_ dep x0} (B : Bfs fs vals roots row bf at_ dep (nextsAt fs vals x0)) (h0 : row[at_]? = some x0) : Bfs fs vals roots row bf (at_ + 1) dep [] :=
  have l : ∀ x1 : Int, row[at_ + 1]? = some x1 → ∀ x ∈ row, dep x ≤ dep x1 + 1 := fun x1 h1 x hx => by
    have := B.last _ h0 x hx
    have := B.mono at_ (at_ + 1) x0 x1 (Nat.le_succ _) h0 h1
    omega
  have d : ∀ (i : Nat) (x : Int), i < at_ + 1 → row[i]? = some x → ∀ y ∈ nextsAt fs vals x, y ∈ row ∧ dep y ≤ dep x + 1 := fun i x hi hx y hy => by
    rcases Nat.lt_or_ge i at_ with l | l
    · exact B.done i x l hx y hy
    · have e : i = at_ := by omega
      subst e
      rw [h0] at hx
      cases hx
      exact B.prt _ h0 y hy
  ⟨B.keys, B.nd, B.lv, B.mono, l, d, (fun _ _ y hy => by cases hy), B.root, B.dp, B.bk⟩
theorem Bfs.near {row bf at_ dep part} (B : Bfs fs vals roots row bf at_ dep part) : ∀ (m : Nat) (q : Int), (∀ x0, row[at_]? = some x0 → m ≤ dep x0) → Lv fs vals roots m q → q ∈ row ∧ dep q ≤ m := by
  intro m
  induction m with
  | zero =>
    intro q _ h
    obtain ⟨h1, h2⟩ := B.root q h
    exact ⟨h1, by omega⟩
  | succ m ih =>
    rintro q hm ⟨p, hp, hq⟩
    obtain ⟨h1, h2⟩ := ih p (fun x0 h => Nat.le_of_succ_le (hm x0 h)) hp
    obtain ⟨i, hi, e⟩ := List.mem_iff_getElem.mp h1
    have h1' : row[i]? = some p := by rw [List.getElem?_eq_getElem hi, e]
    rcases Nat.lt_or_ge i at_ with l | l
    · obtain ⟨a, b⟩ := B.done i p l h1' q hq
      exact ⟨a, by omega⟩
    · have lt : at_ < row.length := by omega
      have h0 : row[at_]? = some row[at_] := List.getElem?_eq_getElem lt
      have := hm _ h0
      have := B.mono at_ i _ _ l h0 h1'
      omega
/-- a place that is there has been found on a shortest way -/
theorem Bfs.far {row bf at_ dep part q} (B : Bfs fs vals roots row bf at_ dep part) (hq : q ∈ row) : Far fs vals roots q (dep q) :=
  ⟨B.lv q hq, fun m hm h => by
    have := (B.near m q (fun x0 h0 => by have := B.last x0 h0 q hq; omega) h).2
    omega⟩
theorem Bfs.low {row bf at_ dep part q} (B : Bfs fs vals roots row bf at_ dep part) (hq : q ∈ row) : dep q < row.length := by
  obtain ⟨i, hi, e⟩ := List.mem_iff_getElem.mp hq
  have := B.dp i q (by rw [List.getElem?_eq_getElem hi, e])
  omega
/-- a place that is not there yet: there is a next one -/
theorem Bfs.more {row bf at_ dep part q} (B : Bfs fs vals roots row bf at_ dep part) (hq : q ∉ row) (hr : Rch fs vals roots q) : at_ < row.length := by
  rcases Nat.lt_or_ge at_ row.length with l | l
  · exact l
  · obtain ⟨n, hn⟩ := hr.lv
    exact (hq (B.near n q (fun x0 h => by rw [List.getElem?_eq_none l] at h; cases h) hn).1).elim
theorem Bfs.len {row bf at_ dep part} {ks : List Int} (B : Bfs fs vals roots row bf at_ dep part) (h : ∀ y, Rch fs vals roots y → y ∈ ks) : row.length ≤ ks.length :=
  sub_len B.nd fun x hx => h x (B.lv x hx).rch
/-- a told way -/
structure Way (fs : List FD) (vals roots : List Int) (q : Int) (ws : List Int) : Prop where
  far : ∃ n, Far fs vals roots q n ∧ ws.length = n + 1
  hd : ∃ r, ws[0]? = some r ∧ r ∈ roots
  tl : ws[ws.length - 1]? = some q
  st : ∀ k x y, ws[k]? = some x → ws[k + 1]? = some y → y ∈ nextsAt fs vals x
/-- a way told from its end -/
structure Back (fs : List FD) (vals roots : List Int) (bf : BF) (dep : Int → Nat) (q : Int) (ws : List Int) (x : Int) : Prop where
  hd : ws[0]? = some q
  tl : ws[ws.length - 1]? = some x
  st : ∀ k x y, ws[k]? = some x → ws[k + 1]? = some y → x ∈ nextsAt fs vals y
  len : ws.length + dep x = dep q + 1
  inn : x ∈ bf.map (·.1)
theorem Back.pos {bf dep q ws x} (h : Back fs vals roots bf dep q ws x) : 0 < ws.length := (List.getElem?_eq_some_iff.mp h.hd).1
theorem Back.more {row bf at_ dep part q ws x p} (B : Bfs fs vals roots row bf at_ dep part) (h : Back fs vals roots bf dep q ws x) (hx : (x, some p) ∈ bf) : Back fs vals roots bf dep q (ws ++ [p]) p := by
  have pos := h.pos
  obtain ⟨h1, h2, h3⟩ := (B.bk _ hx).2 p rfl
  have h2 : dep x = dep p + 1 := h2
  refine ⟨by rw [List.getElem?_append_left pos]; exact h.hd, by rw [List.length_append]; show (ws ++ [p])[ws.length + 1 - 1]? = _; rw [Nat.add_sub_cancel, List.getElem?_append_right (Nat.le_refl _), Nat.sub_self]; rfl, fun k a b ha hb => ?_, ?_, by rw [B.keys]; exact h1⟩
  · have lb : k + 1 < (ws ++ [p]).length := (List.getElem?_eq_some_iff.mp hb).1
    rw [List.length_append] at lb
    have lb : k + 1 < ws.length + 1 := lb
    rw [List.getElem?_append_left (by omega)] at ha
    rcases Nat.lt_or_ge (k + 1) ws.length with l | l
    · rw [List.getElem?_append_left l] at hb
      exact h.st k a b ha hb
    · have e : k + 1 = ws.length := by omega
      rw [e, List.getElem?_append_right (Nat.le_refl _), Nat.sub_self] at hb
      injection hb with hb
      subst hb
      have hk : k = ws.length - 1 := by omega
      rw [hk, h.tl] at ha
      cases ha
      exact h3
  · rw [List.length_append]
    have := h.len
    show ws.length + 1 + dep p = _
    omega
theorem Back.done {row bf at_ dep part q ws x} (B : Bfs fs vals roots row bf at_ dep part) (hq : q ∈ row) (h : Back fs vals roots bf dep q ws x) (hx : (x, none) ∈ bf) : Way fs vals roots q ws.reverse := by
  have pos := h.pos
  have d0 : dep x = 0 := (B.bk _ hx).1 rfl
  have len := h.len
  have lvx := B.lv x (by rw [← B.keys]; exact h.inn)
  rw [d0] at lvx
  refine ⟨⟨dep q, B.far hq, by rw [List.length_reverse]; omega⟩, ⟨x, ?_, lvx⟩, ?_, fun k a b ha hb => ?_⟩
  · rw [List.getElem?_reverse pos]; exact h.tl
  · rw [List.length_reverse, List.getElem?_reverse (by omega), show ws.length - 1 - (ws.length - 1) = 0 by omega]; exact h.hd
  · have lb : k + 1 < ws.reverse.length := (List.getElem?_eq_some_iff.mp hb).1
    rw [List.length_reverse] at lb
    rw [List.getElem?_reverse (by omega)] at ha hb
    refine h.st (ws.length - 1 - (k + 1)) b a hb ?_
    rw [show ws.length - 1 - (k + 1) + 1 = ws.length - 1 - k by omega]; exact ha
end

end My
namespace My
open PySem PySem.Spec PyProof.Rows L2
/-! ### a program's followers, what covers an address, ways -/
def oV : Option Int → V
  | none => .non
  | some p => .int p
def kvsB (b : BF) : List (Key × V) := b.map fun q => (.inl q.1, oV q.2)
theorem kvsB_len (b : BF) : (kvsB b).length = b.length := List.length_map _
theorem valB_mem {b : BF} {q : Int × Option Int} (nd : (b.map (·.1)).Nodup) (hq : q ∈ b) : valV (kvsB b) (.inl q.1) = some (oV q.2) := by
  have : ((kvsB b).map (·.1)).Nodup := by
    have e : (kvsB b).map (·.1) = (b.map (·.1)).map (fun x => (Sum.inl x : Key)) := by unfold kvsB; rw [List.map_map, List.map_map]; rfl
    rw [e]; exact nodup_inl nd
  exact valV_mem this (List.mem_map.mpr ⟨q, hq, rfl⟩)
theorem valB_none {b : BF} {p : Int} (h : p ∉ b.map (·.1)) : valV (kvsB b) (.inl p) = none := by
  unfold valV kvsB
  rw [Option.map_eq_none_iff, List.find?_eq_none]
  intro y hy z
  obtain ⟨q, hq, rfl⟩ := List.mem_map.mp hy
  exact h (List.mem_map.mpr ⟨q, hq, Sum.inl.inj (of_decide_eq_true z)⟩)
theorem valB_in {b : BF} {p : Int} (nd : (b.map (·.1)).Nodup) : (valV (kvsB b) (.inl p)).isSome = decide (p ∈ b.map (·.1)) := by
  by_cases h : p ∈ b.map (·.1)
  · obtain ⟨q, hq, rfl⟩ := List.mem_map.mp h
    rw [valB_mem nd hq, decide_eq_true h]; rfl
  · rw [valB_none h, decide_eq_false h]; rfl
theorem putB {b : BF} {p : Int} {x : Option Int} (h : p ∉ b.map (·.1)) : putK (kvsB b) (.inl p) (oV x) = kvsB (b ++ [(p, x)]) := by
  rw [putK_new _ (valB_none h)]
  unfold kvsB
  rw [List.map_append]; rfl
theorem valF_mem {l : LL} {q : Int × (List Int × Addr)} (nd : (l.map (·.1)).Nodup) (hq : q ∈ l) : valV (kvsF l) (.inl q.1) = some (.ref q.2.2) := by
  have : ((kvsF l).map (·.1)).Nodup := by
    have e : (kvsF l).map (·.1) = (l.map (·.1)).map (fun x => (Sum.inl x : Key)) := by unfold kvsF; rw [List.map_map, List.map_map]; rfl
    rw [e]; exact nodup_inl nd
  exact valV_mem this (List.mem_map.mpr ⟨q, hq, rfl⟩)
/-- the places that follow, in the heap -/
theorem ProgIs.lead {A : Ad} {K : PySem.W.Frag} {H : Hp} {fs : List FD} {vals roots : List Int} {o : ProgO} (I : ProgIs fs vals roots o) (hA : o.At A K H) {n : Int} (h : Rch fs vals roots n) :
    ∃ t, valV (kvsF o.leads) (.inl n) = some (.ref t) ∧ H t = some (.tup ((nextsAt fs vals n).map V.int)) := by
  have hn : n ∈ o.leads.map (·.1) := by rw [I.lk]; exact I.sp.mem_iff.mpr ((I.mem n).mpr h)
  have nd : (o.leads.map (·.1)).Nodup := by rw [I.lk]; exact I.sp.nodup_iff.mpr hA.nd
  obtain ⟨q, hq, rfl⟩ := List.mem_map.mp hn
  refine ⟨q.2.2, valF_mem nd hq, ?_⟩
  rw [← I.lv q hq]; exact hA.ft q hq
theorem ProgIs.perm {fs gs : List FD} {bs roots : List Int} {o : ProgO} (p : fs.Perm gs) (nd : (fs.map (·.byte)).Nodup) (h : ProgIs fs bs roots o) : ProgIs gs bs roots o where
  mem := fun q => (h.mem q).trans ⟨fun r => r.perm p nd, fun r => r.perm p.symm ((p.map _).nodup_iff.mp nd)⟩
  ins := fun q hq => (h.ins q hq).trans (instr_perm p nd _ _)
  rs := h.rs
  rm := h.rm
  sp := h.sp
  ss := h.ss
  lk := h.lk
  lv := fun q hq => (h.lv q hq).trans (nexts_perm p nd _ _)
theorem Way.rch {fs : List FD} {bs roots : List Int} {q : Int} {ws : List Int} (h : Way fs bs roots q ws) : ∀ (k : Nat) (x : Int), ws[k]? = some x → Rch fs bs roots x
  | 0, x, hx => by
    obtain ⟨r, hr, hm⟩ := h.hd
    rw [hr] at hx
    cases hx
    exact .root hm
  | k + 1, x, hx => by
    have lt : k + 1 < ws.length := (List.getElem?_eq_some_iff.mp hx).1
    have h0 : ws[k]? = some ws[k] := List.getElem?_eq_getElem (by omega)
    exact .next (Way.rch h k _ h0) (h.st k _ x h0 hx)
def insD (fs : List FD) (vals : List Int) (p : Int) : List Int := (instrAt fs vals p).getD []
def covD (fs : List FD) (vals spots : List Int) (n : Int) : List Int := spots.filter fun p => decide (p ≤ n) && decide (n < p + (insD fs vals p).length)
def spProgFoll (A : Ad) (K : PySem.W.Frag) : Sp := fun vs H Q E => ∃ (o : ProgO) (n : Int) (fs : List FD) (bs roots : List Int), vs = [.ref o.p, .int n] ∧ o.At A K H ∧ ProgIs fs bs roots o ∧
  (Rch fs bs roots n → ∀ t, H t = some (.tup ((nextsAt fs bs n).map V.int)) → Q (.ref t) H) ∧
  (¬ Rch fs bs roots n → ∀ d H', Vc.Ed [] H H' → H' d = some (.xd [("at", .int n)]) → E (.ref A.C_BadAddress) (some d) H')
def spProgCov (A : Ad) (K : PySem.W.Frag) : Sp := fun vs H Q _ => ∃ (o : ProgO) (n : Int) (fs : List FD) (bs roots : List Int), vs = [.ref o.p, .int n] ∧ o.At A K H ∧ ProgIs fs bs roots o ∧ Whole fs bs roots ∧
  ∀ L H', H L = none → Vc.Ed [] H H' → H' L = some (.lst ((covD fs bs o.spots n).map V.int)) → Q (.ref L) H'
def spChain : Sp := fun vs H Q _ => ∃ (b : Addr) (q : Int) (fs : List FD) (bs roots row : List Int) (bf : BF) (at_ : Nat) (dep : Int → Nat) (part : List Int), vs = [.ref b, .int q] ∧ H b = some (.dK (kvsB bf)) ∧ Bfs fs bs roots row bf at_ dep part ∧ q ∈ row ∧ row.length ≤ 64 ∧
  ∀ L ws H', H L = none → Vc.Ed [] H H' → H' L = some (.lst (ws.map V.int)) → Way fs bs roots q ws → ws.length ≤ 65 → Q (.ref L) H'
def spWay (A : Ad) (K : PySem.W.Frag) : Sp := fun vs H Q E => ∃ (o : ProgO) (n : Int) (fs : List FD) (bs roots : List Int), vs = [.ref o.p, .int n] ∧ o.At A K H ∧ ProgIs fs bs roots o ∧ o.l.length ≤ 64 ∧
  (Rch fs bs roots n → ∀ L ws H', H L = none → Vc.Ed [] H H' → H' L = some (.lst (ws.map V.int)) → Way fs bs roots n ws → ws.length ≤ 65 → Q (.ref L) H') ∧
  (¬ Rch fs bs roots n → ∀ d H', Vc.Ed [] H H' → H' d = some (.xd [("at", .int n)]) → E (.ref A.C_BadAddress) (some d) H')
section
variable {w : World} {K : PySem.W.Frag} {mg : Str → Option Value} {base : Heap} {A : Ad}
theorem ok_chain (T : Txt K mg A) : FnOk PG w K mg base CX0 1 A.f_chain A.d_chain ["before", "place"] spChain := by
  refine T.F_chain.ok sc_chain (fun vs H Q E h => ?_) (fun cdv Ar outer s H vs Q E hr h => ?_)
  · obtain ⟨b, q, fs, bs, roots, row, bf, at_, dep, part, rfl, _⟩ := h
    rfl
  · obtain ⟨b, q, fs, bs, roots, row, bf, at_, dep, part, rfl, hb, B, hq, r64, k⟩ := h
    have hu := hu_of hr
    have nd : (bf.map (·.1)).Nodup := by rw [B.keys]; exact B.nd
    refine ⟨_, (pss_cons (ps_set (i := 2) sc_chain.nd rfl (Or.inl rfl) (pe_lst (pa_cons (pv 1) pa_nil))) (pss_cons (ps_while PassesOwn.never (pt_cmpR op_notN (pe_dget (by exact hu) (pv 0) (pe_ix ix_list (pv 2) (pe_un un_neg pe_int) (fun _ _ => rfl)) (fun _ _ => rfl)) pe_non (nomark _)) (pss_one (ps_expr (pe_bm PySem.F.plainAttrs_list PySem.F.slot_list_append PySem.F.type_list_append mt_append (pv 2) (pa_cons (pe_dget (by exact hu) (pv 0) (pe_ix ix_list (pv 2) (pe_un un_neg pe_int) (fun _ _ => rfl)) (fun _ _ => rfl)) pa_nil))))) (pss_one (ps_ret (pe_revL (pv 2)))))), ?_⟩
    walk_at "go"
    intro F nF
    generalize hu1 : upd _ F _ = H1
    obtain ⟨e1, hF⟩ := Vc.alloc hu1 nF
    have nbF : b ≠ F := ne_of_none hb nF
    walk_at "go"
    refine ⟨fun mm σ H' => ∃ (ws : List Int) (x : Int), mm = dep x ∧ σ = [some (.ref b), some (.int q), some (.ref F)] ∧ Vc.Ed [F] H1 H' ∧ H' F = some (.lst (ws.map V.int)) ∧ Back fs bs roots bf dep q ws x, ⟨dep q, [q], q, rfl, rfl, .refl, hF, ⟨rfl, rfl, (fun k x y h1 h2 => by cases h2), by show 1 + dep q = _; omega, by rw [B.keys]; exact hq⟩⟩, ?_⟩
    rintro mm σ H2 ⟨ws, x, rfl, rfl, e2, hF2, W⟩
    have dq := B.low hq
    have hlen := W.len
    have pos := W.pos
    have hi : atI (ws.map V.int) (-1) = some (.int x) := Vc.at_m1 (by rw [List.length_map, List.getElem?_map, W.tl]; rfl)
    have hb2 := e2.at1 nbF (e1.at0 hb)
    obtain ⟨⟨x', y⟩, hxy, rfl⟩ := List.mem_map.mp W.inn
    have hv := valB_mem nd hxy
    have hl : (ws.map V.int).length ≤ 1000 := by rw [List.length_map]; omega
    cases y with
    | none =>
      have hv : valV (kvsB bf) (.inl x') = some .non := hv
      walk_at "go"
      intro R nR
      generalize hu3 : upd _ R _ = H3
      obtain ⟨e3, hR⟩ := Vc.alloc hu3 nR
      rw [← List.map_reverse] at hR
      exact k R ws.reverse H3 (e1.dom _ (e2.dom _ nR)) ((e1.one e2 (.inr nF)).ex e3) hR (W.done B hq hxy) (by rw [List.length_reverse]; omega)
    | some p =>
      have hv : valV (kvsB bf) (.inl x') = some (.int p) := hv
      have hdp : dep x' = dep p + 1 := ((B.bk _ hxy).2 p rfl).2.1
      walk_at "go"
      refine Vc.go_iten (fun _ => ?_) (fun z => by cases z)
      refine ⟨fun σ' H' => ∃ ws : List Int, σ' = [some (.ref b), some (.int q), some (.ref F)] ∧ Vc.Ed [F] H1 H' ∧ H' F = some (.lst (ws.map V.int)) ∧ Back fs bs roots bf dep q ws p, ?_, ?_⟩
      · rintro σ' H' ⟨ws', rfl, a1, a2, a3⟩
        exact ⟨dep p, by show dep p < dep x'; omega, ws', p, rfl, rfl, a1, a2, a3⟩
      walk_at "go"
      generalize hu3 : upd _ F _ = H3
      obtain ⟨e3, hF3⟩ := Vc.chg hu3 hF2
      exact ⟨ws ++ [p], rfl, e2.one e3 (.inl (by simp)), by rw [List.map_append]; exact hF3, W.more B hxy⟩
theorem ok_Program_followers (T : Txt K mg A) : FnOk PG w K mg base (CX PG w) 3 A.f_Program_followers A.d_Program_followers ["self", "place"] (spProgFoll A K) := by
  have G_Programu_containsu := ok_Programu_containsu (P := PG) (w := w) (base := base) T
  have G_BadAddressu_initu := ok_BadAddressu_initu (w := w) (base := base) T
  refine T.F_Program_followers.okX sc_Program_followers (fun vs H Q E h => ?_) (fun cdv Ar outer s H vs Q E hr h => ?_)
  · obtain ⟨o, n, fs, bs, roots, rfl, _⟩ := h
    rfl
  · obtain ⟨o, n, fs, bs, roots, rfl, hA, I, k, kE⟩ := h
    have hu := hu_of hr
    have cl := T.cl_Program
    have no1 := T.no_Program_leads
    have hx := hA.ob
    have hf := hA.fw
    have l1 := prog_leads (r := o.r) (d := o.d) (s := o.s) (t := o.t)
    refine ⟨_, (pss_cons (ps_if (pt_cmpR (Vc.op_notinO G_Programu_containsu (by exact hr.mono (by decide)) T.sp_Program_Programu_containsu T.b_Programu_containsu) (pv 1) (pv 0) (by rfl)) (pss_one (Vc.ps_raiseT rfl (takes_of rfl rfl rfl rfl) (pmk_oex T.ox_BadAddress T.i_BadAddress T.ti_BadAddress G_BadAddressu_initu (by exact hr.mono (by decide)) T.b_BadAddressu_initu .nil pass0 (by rfl) T.g_BadAddress (pa_cons (pv 1) pa_nil)))) pss_nil) (pss_one (ps_ret (pe_dget (by exact hu) (pe_fld (pv 0) rfl) (pv 1) (fun _ _ => rfl))))), ?_⟩
    walk_at "go"
    refine ⟨o, .int n, rfl, hA, .inl ⟨n, rfl, _, rfl, ?_⟩⟩
    walk_at "go"
    by_cases hn : n ∈ o.l.map (·.1)
    · have hr := (I.mem n).mp hn
      obtain ⟨t, hv, ht⟩ := I.lead hA hr
      rw [decide_eq_true hn, show (true ^^ true) = false from rfl]
      walk_at "go"
      exact k hr t ht
    · rw [decide_eq_false hn, show (true ^^ false) = true from rfl]
      walk_at "go"
      exact fun d H' _ e h => kE (fun z => hn ((I.mem n).mpr z)) d H' (by walk_at "ed") h
theorem ok_Program_covers (T : Txt K mg A) : FnOk PG w K mg base CX0 2 A.f_Program_covers A.d_Program_covers ["self", "address"] (spProgCov A K) := by
  refine T.F_Program_covers.ok sc_Program_covers (fun vs H Q E h => ?_) (fun cdv Ar outer s H vs Q E hr h => ?_)
  · obtain ⟨o, n, fs, bs, roots, rfl, _⟩ := h
    rfl
  · obtain ⟨o, n, fs, bs, roots, rfl, hA, I, W, k⟩ := h
    have hu := hu_of hr
    have cl := T.cl_Program
    have no1 := T.no_Program_spots
    have no2 := T.no_Program_laid
    have hx := hA.ob
    have hs := hA.sp
    have hd := hA.ld.ob
    have l1 := prog_spots (r := o.r) (d := o.d) (s := o.s) (t := o.t)
    have l2 := prog_laid (r := o.r) (d := o.d) (s := o.s) (t := o.t)
    have le := hA.le
    have sl : o.spots.length = o.l.length := by rw [I.sp.length_eq, List.length_map]
    refine ⟨_, (pss_one (ps_ret (pe_lc (own := [("place", 2)]) (g := gName 2) rfl sc_Program_covers.nd (pi_list (pe_fld (pv 0) rfl)) (blkOk_by (own := [("place", 2)]) (N := ["self", "address", "place"]) (sc := defScope s_Program_covers) (by decide +kernel)) (fun _ _ _ _ _ => by exact (pg_name (i := 2) sc_Program_covers.nd rfl (Or.inl rfl))) (fun _ _ _ _ _ => by (refine' Vc.blkT ?h ?q; (case h => exact pts_one (pt_chain op_le op_lt (pv 2) (pv 1) (pe_op op_add (pv 2) (pe_callB call_len_seq (by rfl) T.n_len (by decide +kernel) (pa_cons (pe_dget (by exact hu) (pe_fld (pv 0) rfl) (pv 2) (fun _ _ => rfl)) pa_nil))))); (case q => first | exact rfl | (dsimp only; done) | (dsimp only; exact rfl)))) (fun _ _ _ _ _ => by (refine' Vc.blkE ?h ?q; (case h => exact (pv 2)); (case q => first | exact rfl | (dsimp only; done) | (dsimp only; exact rfl))))))), ?_⟩
    walk_at "go"
    refine ⟨⟨_, .of hs⟩, Vc.lc_by (walk_list (xs := o.spots.map V.int)) (fun D i H' => Vc.Ed [] H H' ∧ H' D = some (.lst ((covD fs bs (o.spots.take i) n).map V.int))) (fun D H1 nD e1 hD => ⟨e1, hD⟩) (fun D i H' _ _ p => .of (p.1.at0 hs)) ?_ ?_⟩
    · rintro D i v H1 H2 nD hi ⟨e1, hD⟩ ⟨rfl, hx1⟩
      rw [List.length_map] at hi
      rw [List.getElem?_map] at hx1
      obtain ⟨p, hp, rfl⟩ := Option.map_eq_some_iff.mp hx1
      have hm := I.sp.mem_iff.mp (List.mem_of_getElem? hp)
      obtain ⟨q, hq, rfl⟩ := List.mem_map.mp hm
      obtain ⟨ins, hins⟩ : ∃ ins, q.2.1 = some ins := Option.ne_none_iff_exists'.mp (by rw [I.ins q hq]; exact W q.1 ((I.mem _).mp hm))
      have hI : insD fs bs q.1 = ins := by unfold insD; rw [← I.ins q hq, hins]; rfl
      have eV : vOf q.2 = .ref q.2.2 := by unfold vOf; rw [hins]; rfl
      have hv := valL_mem hA.nd hq
      rw [eV] at hv
      have hx2 := e1.at0 hx
      have hd2 := e1.at0 hd
      have ht2 := e1.tup _ _ (hA.ld.tp q hq ins hins)
      have ct : covD fs bs (o.spots.take (i + 1)) n = covD fs bs (o.spots.take i) n ++ (if (decide (q.1 ≤ n) && decide (n < q.1 + ins.length)) = true then [q.1] else []) := by
        unfold covD
        rw [List.take_add_one, hp, List.filter_append]
        congr 1
        show List.filter _ [q.1] = _
        rw [List.filter_cons, List.filter_nil, hI]
      have cl64 : (covD fs bs (o.spots.take i) n).length ≤ 1000 := by
        unfold covD
        have := List.length_filter_le (fun p => decide (p ≤ n) && decide (n < p + (insD fs bs p).length)) (o.spots.take i)
        rw [List.length_take] at this
        omega
      walk_at "go"
      refine ⟨rfl, ?_⟩
      have fin : ∀ b, (decide (q.1 ≤ n) && decide (n < q.1 + ins.length)) = b → (if b = true then H2 D = some (.lst ((covD fs bs (o.spots.take i) n).map V.int)) else True) → ∀ (H3 : Hp), (if b = true then H3 D = some (.lst ((covD fs bs (o.spots.take i) n).map V.int ++ [V.int q.1])) else H3 = H2) → H3 D = some (.lst ((covD fs bs (o.spots.take (i + 1)) n).map V.int)) := fun b hb _ H3 h3 => by
        rw [ct, hb, List.map_append]
        cases b with
        | true => exact h3
        | false =>
          have h3 : H3 = H2 := h3
          subst h3
          show H3 D = some (.lst (_ ++ []))
          rw [List.append_nil]; exact hD
      walk_at "go"
      refine Vc.go_ite (c := q.1 ≤ n) (fun h1 => ?_) (fun h1 => ?_)
      · walk_at "go"
        rw [List.length_map]
        refine Vc.go_iteb (fun h2 => ?_) (fun h2 => ?_)
        · walk_at "go"
          refine ⟨_, hD, by rw [List.length_map]; exact small1000 cl64, ?_⟩
          generalize hu3 : upd _ D _ = H3
          obtain ⟨e3, hD3⟩ := Vc.chg hu3 hD
          exact ⟨e1.one e3 (.inr nD), fin true (by rw [decide_eq_true h1, h2]; rfl) hD H3 hD3⟩
        · exact ⟨e1, fin false (by rw [h2, Bool.and_false]) trivial H2 rfl⟩
      · walk_at "go"
        exact ⟨e1, fin false (by rw [decide_eq_false h1]; rfl) trivial H2 rfl⟩
    · rintro D H1 nD ⟨e1, hD⟩
      rw [List.length_map, List.take_length] at hD
      exact k D H1 nD e1 hD
theorem ok_Program_way (T : Txt K mg A) : FnOk PG w K mg base (CX PG w) 3 A.f_Program_way A.d_Program_way ["self", "place"] (spWay A K) := by
  have G_Programu_containsu := ok_Programu_containsu (P := PG) (w := w) (base := base) T
  have G_BadAddressu_initu := ok_BadAddressu_initu (w := w) (base := base) T
  have G_chain := ok_chain (w := w) (base := base) T
  refine T.F_Program_way.okX sc_Program_way (fun vs H Q E h => ?_) (fun cdv Ar outer s H vs Q E hr h => ?_)
  · obtain ⟨o, n, fs, bs, roots, rfl, _⟩ := h
    rfl
  · obtain ⟨o, n, fs, bs, roots, rfl, hA, I, l64, k, kE⟩ := h
    have hu := hu_of hr
    have cl := T.cl_Program
    have no1 := T.no_Program_leads
    have no2 := T.no_Program_roots
    have hx := hA.ob
    have hf := hA.fw
    have hrt := hA.rt
    have l1 := prog_leads (r := o.r) (d := o.d) (s := o.s) (t := o.t)
    have l2 := prog_roots (r := o.r) (d := o.d) (s := o.s) (t := o.t)
    refine ⟨_, (pss_cons (ps_if (pt_cmpR (Vc.op_notinO G_Programu_containsu (by exact hr.mono (by decide)) T.sp_Program_Programu_containsu T.b_Programu_containsu) (pv 1) (pv 0) (by rfl)) (pss_one (Vc.ps_raiseT rfl (takes_of rfl rfl rfl rfl) (pmk_oex T.ox_BadAddress T.i_BadAddress T.ti_BadAddress G_BadAddressu_initu (by exact hr.mono (by decide)) T.b_BadAddressu_initu .nil pass0 (by rfl) T.g_BadAddress (pa_cons (pv 1) pa_nil)))) pss_nil) (pss_cons (Vc.ps_setDc (i := 2) (own := [("root", 6)]) (g := gName 6) rfl sc_Program_way.nd rfl rfl (Vc.swapD rfl rfl rfl (by decide +kernel)) (pi_tup (pe_fld (pv 0) rfl)) (blkOk_by (own := [("root", 6)]) (N := ["self", "place", "before", "row", "at", "following", "root"]) (sc := defScope s_Program_way) (by decide +kernel)) (fun _ _ _ _ _ => by exact (pg_name (i := 6) sc_Program_way.nd rfl (Or.inl rfl))) (fun _ _ _ _ _ => by exact pts_nil) (fun _ _ _ _ _ => by (refine' Vc.blkE ?h ?q; (case h => exact (pv 6)); (case q => first | exact rfl | (dsimp only; done) | (dsimp only; exact rfl)))) (fun _ _ _ _ _ => by (refine' Vc.blkE ?h ?q; (case h => exact pe_non); (case q => first | exact rfl | (dsimp only; done) | (dsimp only; exact rfl))))) (pss_cons (ps_set (i := 3) sc_Program_way.nd rfl (Or.inl rfl) (pe_callTy Vc.call_lstD (by rfl) T.n_list (by decide +kernel) (pa_cons (pe_fld (pv 0) rfl) pa_nil))) (pss_cons (ps_set (i := 4) sc_Program_way.nd rfl (Or.inl rfl) pe_int) (pss_cons (ps_while (passes_of rfl) (pt_cmp (pc_dnotin (by exact hu) (pv 1) (pv 2))) (pss_cons (ps_for (passes_of rfl) rfl (pi_tup (pe_dget (by exact hu) (pe_fld (pv 0) rfl) (pe_ix ix_list (pv 3) (pv 4) (fun _ _ => rfl)) (fun _ _ => rfl))) (pg_name (i := 5) sc_Program_way.nd rfl (Or.inl rfl)) (pss_one (ps_if (pt_cmp (pc_dnotin (by exact hu) (pv 5) (pv 2))) (pss_cons (ps_dput (by exact hu) (pv 2) (pv 5) (pe_ix ix_list (pv 3) (pv 4) (fun _ _ => rfl)) rfl) (pss_one (ps_expr (pe_bm PySem.F.plainAttrs_list PySem.F.slot_list_append PySem.F.type_list_append mt_append (pv 3) (pa_cons (pv 5) pa_nil))))) pss_nil))) (pss_one (ps_aug (i := 4) sc_Program_way.nd rfl (.inl rfl) pe_int ip_add)))) (pss_one (ps_ret (pe_call G_chain (by exact hr.mono (by decide)) (by rfl) T.g_chain T.F_chain.kp T.b_chain .nil pass0 (pa_cons (pv 2) (pa_cons (pv 1) pa_nil)))))))))), ?_⟩
    walk_at "go"
    refine ⟨o, .int n, rfl, hA, .inl ⟨n, rfl, _, rfl, ?_⟩⟩
    walk_at "go"
    by_cases hn : n ∈ o.l.map (·.1)
    rotate_left
    · rw [decide_eq_false hn, show (true ^^ false) = true from rfl]
      walk_at "go"
      exact fun d H' _ e h => kE (fun z => hn ((I.mem n).mpr z)) d H' (by walk_at "ed") h
    have hr := (I.mem n).mp hn
    have B0 : Bfs fs bs roots o.roots (o.roots.map fun r => (r, none)) 0 (fun _ => 0) [] := Bfs.init (asc_nd I.rs) I.rm
    have ol : ∀ {row bf at_ dep part}, Bfs fs bs roots row bf at_ dep part → row.length ≤ o.l.length := fun B => by
      have := B.len (ks := o.l.map (·.1)) fun y hy => (I.mem y).mpr hy
      rwa [List.length_map] at this
    have rl := ol B0
    rw [decide_eq_true hn, show (true ^^ true) = false from rfl]
    walk_at "go"
    refine ⟨⟨_, hrt⟩, Vc.dc_by (walk_tup (xs := o.roots.map V.int)) (fun D i H' => Vc.Ed [] H H' ∧ H' D = some (.dK (kvsB ((o.roots.take i).map fun r => (r, none))))) (fun D H1 nD e1 hD => ⟨e1, hD⟩) (fun D i H' _ _ p => p.1.sqt hrt) ?_ ?_⟩
    · rintro D i v H1 H2 nD hi ⟨e1, hD⟩ ⟨rfl, hx1⟩
      rw [List.getElem?_map] at hx1
      obtain ⟨r, hr1, rfl⟩ := Option.map_eq_some_iff.mp hx1
      walk_at "go"
      refine ⟨rfl, ?_⟩
      walk_at "go"
      refine ⟨_, .inl r, rfl, hD, small1000 (by rw [kvsB_len, List.length_map, List.length_take]; omega), ?_⟩
      generalize hu3 : upd _ D _ = H3
      obtain ⟨e3, hD3⟩ := Vc.chg hu3 hD
      refine ⟨e1.one e3 (.inr nD), ?_⟩
      have fresh : r ∉ ((o.roots.take i).map fun r => (r, (none : Option Int))).map (·.1) := by
        rw [List.map_map]
        intro z
        obtain ⟨r', hr', e⟩ := List.mem_map.mp z
        have e : r' = r := e
        subst e
        obtain ⟨j, hj, e⟩ := List.mem_take_iff_getElem.mp hr'
        have h1 : o.roots[j]? = some r' := by rw [List.getElem?_eq_getElem (by omega), e]
        have := (List.getElem?_inj (by omega) (asc_nd I.rs)).mp (h1.trans hr1.symm)
        omega
      rw [show V.non = oV none from rfl, putB fresh] at hD3
      rw [hD3, List.take_add_one, hr1, List.map_append]; rfl
    · rintro D H1 nD ⟨e1, hD⟩
      rw [List.length_map, List.take_length] at hD
      walk_at "go"
      intro R nR
      generalize hu2 : upd _ R _ = H2
      obtain ⟨e2, hR⟩ := Vc.alloc hu2 nR
      have nRD : R ≠ D := fun z => by rw [z, hD] at nR; cases nR
      have nR0 : H R = none := e1.dom _ nR
      have hD2 := e2.at0 hD
      walk_at "go"
      refine ⟨fun mm σ H' => ∃ (row : List Int) (bf : BF) (at_ : Nat) (dep : Int → Nat) (y5 : Option V), mm = o.l.length - at_ ∧ σ = [some (.ref o.p), some (.int n), some (.ref D), some (.ref R), some (.int at_), y5, none] ∧ Vc.Ed [] H H' ∧ H' D = some (.dK (kvsB bf)) ∧ H' R = some (.lst (row.map V.int)) ∧ Bfs fs bs roots row bf at_ dep [], ⟨_, o.roots, _, 0, _, none, rfl, rfl, e1.ex e2, hD2, hR, B0⟩, ?_⟩
      clear hD hD2 hR hu2 e1 e2 B0 rl
      rintro mm σ H3 ⟨row, bf, at_, dep, y5, rfl, rfl, e3, hD3, hR3, B⟩
      have nd : (bf.map (·.1)).Nodup := by rw [B.keys]; exact B.nd
      have rl := ol B
      have bl : (kvsB bf).length ≤ 1000 := by rw [kvsB_len, ← List.length_map (f := (·.1)), B.keys]; omega
      walk_at "go"
      rw [valB_in nd]
      refine Vc.go_iten (fun h1 => ?_) (fun h1 => ?_)
      rotate_left
      · walk_at "go"
        refine ⟨D, n, fs, bs, roots, row, bf, at_, dep, [], rfl, hD3, B, by rw [← B.keys]; exact h1, by omega, fun L ws H4 nL e4 hL W wl => ?_⟩
        walk_at "go"
        exact k hr L ws H4 (e3.dom _ nL) (e3.ex e4) hL W wl
      rw [B.keys] at h1
      have lt := B.more h1 hr
      have h0 : row[at_]? = some row[at_] := List.getElem?_eq_getElem lt
      generalize row[at_] = x0 at h0
      have m0 : x0 ∈ row := List.mem_of_getElem? h0
      obtain ⟨t, hv, ht⟩ := I.lead hA (B.lv x0 m0).rch
      have hx3 := e3.at0 hx
      have hf3 := e3.at0 hf
      have ht3 := e3.tup _ _ ht
      have hi0 : atI (row.map V.int) (at_ : Int) = some (.int x0) := at_of rfl (by rw [List.getElem?_map, h0]; rfl)
      refine ⟨fun σ' H' => ∃ (row : List Int) (bf : BF) (dep : Int → Nat) (y5 : Option V), σ' = [some (.ref o.p), some (.int n), some (.ref D), some (.ref R), some (.int (at_ + 1 : Nat)), y5, none] ∧ Vc.Ed [] H H' ∧ H' D = some (.dK (kvsB bf)) ∧ H' R = some (.lst (row.map V.int)) ∧ Bfs fs bs roots row bf (at_ + 1) dep [], ?_, ?_⟩
      · rintro σ' H' ⟨row', bf', dep', y5', rfl, a1, a2, a3, a4⟩
        exact ⟨o.l.length - (at_ + 1), by omega, row', bf', at_ + 1, dep', y5', rfl, rfl, a1, a2, a3, a4⟩
      walk_at "go"
      refine ⟨⟨_, .of ht3⟩, for_tup (xs := (nextsAt fs bs x0).map V.int) (fun i σ H' => ∃ (row : List Int) (bf : BF) (dep : Int → Nat) (y5 : Option V), σ = [some (.ref o.p), some (.int n), some (.ref D), some (.ref R), some (.int at_), y5, none] ∧ Vc.Ed [] H H' ∧ H' D = some (.dK (kvsB bf)) ∧ H' R = some (.lst (row.map V.int)) ∧ row[at_]? = some x0 ∧ Bfs fs bs roots row bf at_ dep ((nextsAt fs bs x0).take i)) ⟨row, bf, dep, y5, rfl, e3, hD3, hR3, h0, B⟩ (fun i σ H' _ ⟨_, _, _, _, _, e, _⟩ => .of (e.tup _ _ ht)) ?_ ?_⟩
      · clear hD3 hR3 B nd rl bl h1 lt h0 m0 hx3 hf3 ht3 hi0 e3 y5 hv
        rintro i v σ H4 hi ⟨row, bf, dep, y5, rfl, e4, hD4, hR4, h0, B⟩
        rw [List.getElem?_map] at hi
        obtain ⟨y, hy, rfl⟩ := Option.map_eq_some_iff.mp hi
        have nd : (bf.map (·.1)).Nodup := by rw [B.keys]; exact B.nd
        have rl := ol B
        have bl : (kvsB bf).length ≤ 1000 := by rw [kvsB_len, ← List.length_map (f := (·.1)), B.keys]; omega
        have tk : (nextsAt fs bs x0).take (i + 1) = (nextsAt fs bs x0).take i ++ [y] := by rw [List.take_add_one, hy]; rfl
        have hi0 : atI (row.map V.int) (at_ : Int) = some (.int x0) := at_of rfl (by rw [List.getElem?_map, h0]; rfl)
        have lR : (row.map V.int).length ≤ 1000 := by rw [List.length_map]; omega
        walk_at "go"
        rw [valB_in nd, B.keys]
        refine Vc.go_iten (fun h1 => ?_) (fun h1 => ?_)
        · have fresh : y ∉ bf.map (·.1) := by rw [B.keys]; exact h1
          walk_at "go"
          generalize hu5 : upd _ D _ = H5
          obtain ⟨e5, hD5⟩ := Vc.chg hu5 hD4
          rw [show V.int x0 = oV (some x0) from rfl, putB fresh] at hD5
          have hR5 := e5.at1 nRD hR4
          walk_at "go"
          generalize hu6 : upd _ R _ = H6
          obtain ⟨e6, hR6⟩ := Vc.chg hu6 hR5
          have hD6 := e6.at1 nRD.symm hD5
          refine ⟨row ++ [y], bf ++ [(y, some x0)], _, _, rfl, (e4.one e5 (.inr nD)).one e6 (.inr nR0), hD6, by rw [List.map_append]; exact hR6, ?_, by rw [tk]; exact B.new h0 h1 (List.mem_of_getElem? hy)⟩
          rw [List.getElem?_append_left (List.getElem?_eq_some_iff.mp h0).1]; exact h0
        · walk_at "go"
          exact ⟨row, bf, dep, _, rfl, e4, hD4, hR4, h0, by rw [tk]; exact B.old h0 h1⟩
      · rintro σ H4 ⟨row', bf', dep', y5', rfl, e4, hD4, hR4, h0', B'⟩
        rw [List.length_map, List.take_length] at B'
        walk_at "go"
        exact ⟨row', bf', dep', _, rfl, e4, hD4, hR4, B'.step h0'⟩
end

end My
namespace My
open PySem PySem.Spec PyProof.Rows L2
/-! ### the same program of other bytes, of bytes ahead, of more roots -/
section
variable {fs : List FD} {vals ws roots : List Int}
/-- what an instruction is read of, at a place that is whole -/
theorem whole_at (F : Fit fs vals) {p : Int} (h : instrAt fs vals p ≠ none) : ∃ f ∈ fs, 0 ≤ p ∧ p + f.len ≤ vals.length ∧ 1 ≤ f.len ∧ fs.find? (fun f => decide (f.byte = vals.getD p.toNat 0)) = some f ∧
    instrAt fs vals p = some ((vals.drop p.toNat).take f.len.toNat) ∧ (insD fs vals p).length = f.len.toNat ∧ nextsAt fs vals p = foll f.flow f.len (vals.getD (p + f.len - 1).toNat 0) p := by
  rcases at_cases F p with ⟨e, _⟩ | ⟨f, hf, bs, last, p0, p1, _, hfind, hins, ebs, ln, _, _, _, _⟩
  · exact (h e).elim
  · have l1 := (F.ok f hf).l1
    refine ⟨f, hf, p0, p1, l1, hfind, by rw [hins, ebs], ?_, ?_⟩
    · unfold insD
      rw [hins]
      show bs.length = _
      omega
    · unfold nextsAt
      rw [if_neg (by omega), hfind]
      exact if_neg (by omega)
/-- at a place that is whole, other values that are alike where its instruction stands tell the same -/
theorem like_at (F : Fit fs vals) {p : Int} (h : instrAt fs vals p ≠ none) (same : ∀ a : Nat, p ≤ a → (a : Int) < p + (insD fs vals p).length → ws[a]? = vals[a]?) : instrAt fs ws p = instrAt fs vals p ∧ nextsAt fs ws p = nextsAt fs vals p := by
  obtain ⟨f, hf, p0, p1, l1, hfind, hins, hlen, hnx⟩ := whole_at F h
  rw [hlen] at same
  have at_ : ∀ k : Nat, (k : Int) < f.len → ws[p.toNat + k]? = vals[p.toNat + k]? := fun k hk => same _ (by omega) (by omega)
  have e0 := at_ 0 (by omega)
  rw [Nat.add_zero] at e0
  have lst := at_ (f.len.toNat - 1) (by omega)
  have hsome : vals[p.toNat + (f.len.toNat - 1)]? = some vals[p.toNat + (f.len.toNat - 1)] := List.getElem?_eq_getElem (by omega)
  have wl : p + f.len ≤ ws.length := by
    rw [hsome] at lst
    have := (List.getElem?_eq_some_iff.mp lst).1
    omega
  have g0 : ws.getD p.toNat 0 = vals.getD p.toNat 0 := by rw [List.getD_eq_getElem?_getD, List.getD_eq_getElem?_getD, e0]
  have gl : ws.getD (p + f.len - 1).toNat 0 = vals.getD (p + f.len - 1).toNat 0 := by
    rw [List.getD_eq_getElem?_getD, List.getD_eq_getElem?_getD, show (p + f.len - 1).toNat = p.toNat + (f.len.toNat - 1) by omega, lst]
  have hf' : fs.find? (fun f => decide (f.byte = ws.getD p.toNat 0)) = some f := by rw [g0]; exact hfind
  have cut : (ws.drop p.toNat).take f.len.toNat = (vals.drop p.toNat).take f.len.toNat := by
    apply List.ext_getElem?
    intro k
    rcases Nat.lt_or_ge k f.len.toNat with l | l
    · rw [List.getElem?_take_of_lt l, List.getElem?_take_of_lt l, List.getElem?_drop, List.getElem?_drop]
      exact at_ k (by omega)
    · rw [List.getElem?_take_eq_none l, List.getElem?_take_eq_none l]
  refine ⟨?_, ?_⟩
  · rw [hins, instr_ok (by omega) hf' (by omega), cut]
  · rw [hnx]
    unfold nextsAt
    rw [if_neg (by omega), hf']
    show (if _ then _ else _) = _
    rw [if_neg (by omega), gl]
/-- an address that an instruction covers -/
def Cov (fs : List FD) (vals roots : List Int) (a : Int) : Prop := ∃ p, Rch fs vals roots p ∧ p ≤ a ∧ a < p + (insD fs vals p).length
theorem like_rch (F : Fit fs vals) (W : Whole fs vals roots) (same : ∀ a : Nat, Cov fs vals roots a → ws[a]? = vals[a]?) {p : Int} (r : Rch fs vals roots p) : instrAt fs ws p = instrAt fs vals p ∧ nextsAt fs ws p = nextsAt fs vals p :=
  like_at F (W p r) fun a h1 h2 => same a ⟨p, r, h1, h2⟩
theorem like_iff (F : Fit fs vals) (W : Whole fs vals roots) (same : ∀ a : Nat, Cov fs vals roots a → ws[a]? = vals[a]?) (q : Int) : Rch fs ws roots q ↔ Rch fs vals roots q := by
  constructor
  · intro h
    induction h with
    | root h => exact .root h
    | next _ n ih =>
      rw [(like_rch F W same ih).2] at n
      exact .next ih n
  · intro h
    induction h with
    | root h => exact .root h
    | next r n ih =>
      rw [← (like_rch F W same r).2] at n
      exact .next ih n
theorem like_whole (F : Fit fs vals) (W : Whole fs vals roots) (same : ∀ a : Nat, Cov fs vals roots a → ws[a]? = vals[a]?) : Whole fs ws roots := fun q r => by
  have r' := (like_iff F W same q).mp r
  rw [(like_rch F W same r').1]
  exact W q r'
/-! bytes ahead -/
theorem foll_shift {fl : Str} {n l p m : Int} : foll fl n l (p + m) = (foll fl n l p).map (· + m) := by
  unfold foll
  generalize (if l ≥ 128 then l - 256 else l) = d
  have e1 : p + m + n = p + n + m := by omega
  have e2 : p + n + m + d = p + n + d + m := by omega
  rw [e1, e2]
  split
  · rfl
  · split
    · rfl
    · split <;> rfl
theorem shift_at (F : Fit fs vals) (ahead : List Int) {p : Int} (h : instrAt fs vals p ≠ none) : instrAt fs (ahead ++ vals) (p + ahead.length) = instrAt fs vals p ∧ nextsAt fs (ahead ++ vals) (p + ahead.length) = (nextsAt fs vals p).map (· + (ahead.length : Int)) := by
  obtain ⟨f, hf, p0, p1, l1, hfind, hins, hlen, hnx⟩ := whole_at F h
  have ll : (ahead ++ vals).length = ahead.length + vals.length := List.length_append
  have at_ : ∀ k : Nat, (ahead ++ vals)[(p + ahead.length).toNat + k]? = vals[p.toNat + k]? := fun k => by
    rw [List.getElem?_append_right (by omega)]
    congr 1
    omega
  have e0 := at_ 0
  rw [Nat.add_zero, Nat.add_zero] at e0
  have g0 : (ahead ++ vals).getD (p + ahead.length).toNat 0 = vals.getD p.toNat 0 := by rw [List.getD_eq_getElem?_getD, List.getD_eq_getElem?_getD, e0]
  have gl : (ahead ++ vals).getD (p + ahead.length + f.len - 1).toNat 0 = vals.getD (p + f.len - 1).toNat 0 := by
    have := at_ (f.len.toNat - 1)
    rw [List.getD_eq_getElem?_getD, List.getD_eq_getElem?_getD, show (p + f.len - 1).toNat = p.toNat + (f.len.toNat - 1) by omega, ← this]
    congr 2
    omega
  have hf' : fs.find? (fun f => decide (f.byte = (ahead ++ vals).getD (p + ahead.length).toNat 0)) = some f := by rw [g0]; exact hfind
  have cut : ((ahead ++ vals).drop (p + ahead.length).toNat).take f.len.toNat = (vals.drop p.toNat).take f.len.toNat := by
    congr 1
    rw [show (p + (ahead.length : Int)).toNat = ahead.length + p.toNat by omega, List.drop_append]
    rw [List.drop_of_length_le (by omega), List.nil_append]
    congr 1
    omega
  refine ⟨?_, ?_⟩
  · rw [hins, instr_ok (by omega) hf' (by omega), cut]
  · rw [hnx, ← foll_shift]
    unfold nextsAt
    rw [if_neg (by omega), hf']
    show (if _ then _ else _) = _
    rw [if_neg (by omega), gl]
theorem shift_iff (F : Fit fs vals) (W : Whole fs vals roots) (ahead : List Int) (q : Int) : Rch fs (ahead ++ vals) (roots.map (· + (ahead.length : Int))) q ↔ ∃ p, Rch fs vals roots p ∧ q = p + ahead.length := by
  constructor
  · intro h
    induction h with
    | root h =>
      obtain ⟨r, hr, rfl⟩ := List.mem_map.mp h
      exact ⟨r, .root hr, rfl⟩
    | next _ n ih =>
      obtain ⟨p, hp, rfl⟩ := ih
      rw [(shift_at F ahead (W p hp)).2] at n
      obtain ⟨y, hy, rfl⟩ := List.mem_map.mp n
      exact ⟨y, .next hp hy, rfl⟩
  · rintro ⟨p, h, rfl⟩
    induction h with
    | root h => exact .root (List.mem_map.mpr ⟨_, h, rfl⟩)
    | next r n ih =>
      refine .next ih ?_
      rw [(shift_at F ahead (W _ r)).2]
      exact List.mem_map.mpr ⟨_, n, rfl⟩
theorem shift_whole (F : Fit fs vals) (W : Whole fs vals roots) (ahead : List Int) : Whole fs (ahead ++ vals) (roots.map (· + (ahead.length : Int))) := fun q r => by
  obtain ⟨p, hp, rfl⟩ := (shift_iff F W ahead q).mp r
  rw [(shift_at F ahead (W p hp)).1]
  exact W p hp
/-! more roots -/
theorem rch_app {one other : List Int} (q : Int) : Rch fs vals (one ++ other) q ↔ Rch fs vals one q ∨ Rch fs vals other q := by
  constructor
  · intro h
    induction h with
    | root h => exact (List.mem_append.mp h).imp .root .root
    | next _ n ih => exact ih.imp (fun r => .next r n) fun r => .next r n
  · intro h
    have mono : ∀ {as bs : List Int} {q : Int}, (∀ x ∈ as, x ∈ bs) → Rch fs vals as q → Rch fs vals bs q := fun hs r => by
      induction r with
      | root h => exact .root (hs _ h)
      | next _ n ih => exact .next ih n
    exact h.elim (mono fun x hx => List.mem_append_left _ hx) (mono fun x hx => List.mem_append_right _ hx)
theorem rch_sub {x : Int} (h : Rch fs vals roots x) {q : Int} (r : Rch fs vals [x] q) : Rch fs vals roots q := by
  induction r with
  | root h' => rw [List.mem_singleton.mp h']; exact h
  | next _ n ih => exact .next ih n
theorem lv_add {x : Int} {k : Nat} (h : Lv fs vals roots k x) : ∀ (m : Nat) {q : Int}, Lv fs vals [x] m q → Lv fs vals roots (k + m) q
  | 0, q, hq => by rw [List.mem_singleton.mp hq]; exact h
  | m + 1, q, ⟨p, hp, hn⟩ => ⟨p, lv_add h m hp, hn⟩
/-- the rest of a shortest way is a shortest way -/
theorem Way.rest {q : Int} {ws : List Int} (w : Way fs vals roots q ws) {k : Nat} {x : Int} (hx : ws[k]? = some x) {us : List Int} (u : Way fs vals [x] q us) : us.length = ws.length - k := by
  obtain ⟨n, Fn, wl⟩ := w.far
  obtain ⟨j, Fj, ul⟩ := u.far
  have lt : k < ws.length := (List.getElem?_eq_some_iff.mp hx).1
  have lvk : ∀ (i : Nat) (y : Int), ws[i]? = some y → Lv fs vals roots i y := by
    intro i
    induction i with
    | zero =>
      intro y hy
      obtain ⟨r, hr, hm⟩ := w.hd
      rw [hr] at hy
      cases hy
      exact hm
    | succ i ih =>
      intro y hy
      have l : i + 1 < ws.length := (List.getElem?_eq_some_iff.mp hy).1
      have h0 : ws[i]? = some ws[i] := List.getElem?_eq_getElem (by omega)
      exact ⟨_, ih _ h0, w.st i _ _ h0 hy⟩
  have lvx : ∀ (i : Nat) (y : Int), ws[k + i]? = some y → Lv fs vals [x] i y := by
    intro i
    induction i with
    | zero =>
      intro y hy
      rw [Nat.add_zero, hx] at hy
      cases hy
      exact List.mem_singleton.mpr rfl
    | succ i ih =>
      intro y hy
      have l : k + (i + 1) < ws.length := (List.getElem?_eq_some_iff.mp hy).1
      have h0 : ws[k + i]? = some ws[k + i] := List.getElem?_eq_getElem (by omega)
      exact ⟨_, ih _ h0, w.st (k + i) _ _ h0 hy⟩
  have h1 : Lv fs vals [x] (n - k) q := lvx (n - k) q (by rw [show k + (n - k) = ws.length - 1 by omega]; exact w.tl)
  have h2 : ¬ j < n - k := fun l => Fn.no (k + j) (by omega) (lv_add (lvk k x hx) j Fj.lv)
  have h3 : ¬ n - k < j := fun l => Fj.no (n - k) l h1
  omega
end
/-! what is left of an image: made, or the least place -/
theorem least_app {fs : List FD} {vals one other : List Int} {pl : Int} (L : Least fs vals (one ++ other) pl) : (Whole fs vals one → Least fs vals other pl) ∧ (Whole fs vals other → Least fs vals one pl) := by
  refine ⟨fun W => ?_, fun W => ?_⟩
  · rcases (rch_app pl).mp L.r with r | r
    · exact (W pl r L.n).elim
    · exact ⟨r, L.n, fun q hq hn => L.l q ((rch_app q).mpr (.inr hq)) hn⟩
  · rcases (rch_app pl).mp L.r with r | r
    · exact ⟨r, L.n, fun q hq hn => L.l q ((rch_app q).mpr (.inl hq)) hn⟩
    · exact (W pl r L.n).elim
theorem Least.inj {fs : List FD} {vals roots : List Int} {a b : Int} (h : Least fs vals roots a) (k : Least fs vals roots b) : a = b := by
  have h1 := h.l b k.r k.n
  have h2 := k.l a h.r h.n
  omega
theorem least_both {fs : List FD} {vals one other : List Int} {pl a b : Int} (L : Least fs vals (one ++ other) pl) (h : Least fs vals one a) (k : Least fs vals other b) : (pl = a ∨ pl = b) ∧ pl ≤ a ∧ pl ≤ b := by
  have h1 := L.l a ((rch_app a).mpr (.inl h.r)) h.n
  have h2 := L.l b ((rch_app b).mpr (.inr k.r)) k.n
  rcases (rch_app pl).mp L.r with r | r
  · have := h.l pl r L.n
    exact ⟨.inl (by omega), h1, h2⟩
  · have := k.l pl r L.n
    exact ⟨.inr (by omega), h1, h2⟩
theorem whole_app {fs : List FD} {vals one other : List Int} : Whole fs vals (one ++ other) ↔ Whole fs vals one ∧ Whole fs vals other :=
  ⟨fun W => ⟨fun q r => W q ((rch_app q).mpr (.inl r)), fun q r => W q ((rch_app q).mpr (.inr r))⟩, fun W q r => ((rch_app q).mp r).elim (W.1 q) (W.2 q)⟩

end My
namespace My
open PySem PySem.Spec PyProof.Rows L2
/-! ### programs made by the law, or the least place that is not whole; all that a program tells -/
def oP : Option ProgO → V
  | none => .non
  | some o => .ref o.p
structure GoodO (A : Ad) (K : PySem.W.Frag) (H H' : Hp) (fs : List FD) (bs roots : List Int) (o : ProgO) : Prop where
  w : Whole fs bs roots
  n : ProgNew H o
  a : o.At A K H'
  i : ProgIs fs bs roots o
/-- what comes of making a program -/
def Res (A : Ad) (K : PySem.W.Frag) (H H' : Hp) (fs : List FD) (bs roots : List Int) (mo : Option ProgO) (bo : Option Int) : Prop :=
  (∃ pl, mo = none ∧ bo = some pl ∧ Least fs bs roots pl) ∨ ∃ o, mo = some o ∧ bo = none ∧ GoodO A K H H' fs bs roots o
theorem Res.ed0 {A : Ad} {K : PySem.W.Frag} {H H1 H2 : Hp} {fs bs roots mo bo} (e : Vc.Ed [] H1 H2) (h : Res A K H H1 fs bs roots mo bo) : Res A K H H2 fs bs roots mo bo := by
  rcases h with h | ⟨o, h1, h2, h3⟩
  · exact .inl h
  · exact .inr ⟨o, h1, h2, h3.w, h3.n, h3.a.ed0 e, h3.i⟩
def spMade (A : Ad) (K : PySem.W.Frag) : Sp := fun vs H Q _ => ∃ (v r : Addr) (x : CodeO) (bs roots : List Int), vs = [.ref x.c, .ref v, .ref r] ∧ x.At A H ∧ x.Ok ∧ H v = some (.lst (bs.map V.int)) ∧ Fit x.fs bs ∧ H r = some (.lst (roots.map V.int)) ∧ 1 ≤ roots.length ∧ roots.length ≤ 6 ∧ (∀ y ∈ roots, -3 ≤ y ∧ y ≤ bs.length + 2) ∧
  ∀ mo bo t H', Vc.Ed [] H H' → Res A K H H' x.fs bs roots mo bo → H' t = some (.tup [oP mo, oV bo]) → Q (.ref t) H'
/-- a place with its instruction and what follows, as the law lists it -/
structure ARow where
  p : Int
  ins : List Int
  nx : List Int
def ARow.d (r : ARow) : PyData := .tuple [.int r.p, .tuple (r.ins.map .int), .list (r.nx.map .int)]
def allOf (fs : List FD) (bs : List Int) (less : Int) (spots : List Int) : List ARow := spots.map fun p => ⟨p - less, insD fs bs p, (nextsAt fs bs p).map (· - less)⟩
def allD (rs : List ARow) : PyData := .list (rs.map ARow.d)
theorem lay_row (r : ARow) : r.d.canLay0 = true ∧ r.d.depth ≤ 2 := by
  unfold ARow.d
  refine ⟨?_, ?_⟩
  · simp only [PyData.canLay0, PyData.canLayAll0, lay_ints, Bool.and_self, Bool.and_true]
  · simp only [PyData.depth, PyData.depthAll, dep_ints]
    decide
theorem lay_rows : ∀ rs : List ARow, PyData.canLayAll0 (rs.map ARow.d) = true ∧ PyData.depthAll (rs.map ARow.d) ≤ 2
  | [] => ⟨rfl, Nat.zero_le _⟩
  | r :: q => by
    obtain ⟨a, b⟩ := lay_row r
    obtain ⟨c, d⟩ := lay_rows q
    refine ⟨?_, ?_⟩
    · rw [List.map_cons, PyData.canLayAll0, a, c]; rfl
    · rw [List.map_cons, PyData.depthAll]
      omega
theorem shp_all (rs : List ARow) : SeqAt.shaped (allD rs) = true := by
  obtain ⟨a, b⟩ := lay_rows rs
  unfold SeqAt.shaped allD
  rw [PyData.canLay0, a, PyData.depth]
  simp
  omega
theorem go_neAll {K : PySem.W.Frag} {H : Hp} {Q : VK} {p q : Addr} {rs : List ARow} (e1 : Dp K H (.ref p) (allD rs)) (e2 : Dp K H (.ref q) (allD rs)) (h : Q (.bl false) H) : rNeD K (.ref p) (.ref q) H Q := by
  refine ⟨_, _, e1, e2, shp_all rs, shp_all rs, ?_⟩
  have lay : (allD rs).canLay0 = true := by
    unfold allD
    rw [PyData.canLay0]; exact (lay_rows rs).1
  rw [PySem.SeqAt.eqv_refl _ lay]; exact h
/-- the list that the law makes, row by row -/
structure RowAt (K : PySem.W.Frag) (L : Addr) (H : Hp) (v : V) (r : ARow) : Prop where
  ex : ∃ t a b, v = .ref t ∧ H t = some (.tup [.int r.p, .ref a, .ref b]) ∧ SqT K H a (r.ins.map V.int) ∧ H b = some (.lst (r.nx.map V.int)) ∧ b ≠ L
theorem RowAt.ed1 {K : PySem.W.Frag} {L : Addr} {H H' : Hp} {v : V} {r : ARow} (e : Vc.Ed [L] H H') (h : RowAt K L H v r) : RowAt K L H' v r := by
  obtain ⟨t, a, b, rfl, h1, h2, h3, n⟩ := h
  exact ⟨t, a, b, rfl, e.tup _ _ h1, e.sqt h2, e.at1 n h3, n⟩
theorem RowAt.dp {K : PySem.W.Frag} {L : Addr} {H : Hp} {v : V} {r : ARow} (h : RowAt K L H v r) : Dp K H v r.d := by
  obtain ⟨t, a, b, rfl, h1, h2, h3, _⟩ := h
  exact .tup (.of h1) (.cons (.int _) (.cons (.tup h2 (dp_ints _)) (.cons (.lst (.of h3) (dp_ints _)) .nil)))
inductive RowsAt (K : PySem.W.Frag) (L : Addr) (H : Hp) : List V → List ARow → Prop
  | nil : RowsAt K L H [] []
  | snoc {vs : List V} {rs : List ARow} {v : V} {r : ARow} (h : RowsAt K L H vs rs) (k : RowAt K L H v r) : RowsAt K L H (vs ++ [v]) (rs ++ [r])
theorem RowsAt.ed1 {K : PySem.W.Frag} {L : Addr} {H H' : Hp} {vs : List V} {rs : List ARow} (e : Vc.Ed [L] H H') (h : RowsAt K L H vs rs) : RowsAt K L H' vs rs := by
  induction h with
  | nil => exact .nil
  | snoc _ k ih => exact .snoc ih (k.ed1 e)
theorem dpAll_app {K : PySem.W.Frag} {H : Hp} : ∀ {xs ys : List V} {ds es : List PyData}, DpAll K H xs ds → DpAll K H ys es → DpAll K H (xs ++ ys) (ds ++ es)
  | _, _, _, _, .nil, h => h
  | _, _, _, _, .cons a b, h => .cons a (dpAll_app b h)
theorem RowsAt.dp {K : PySem.W.Frag} {L : Addr} {H : Hp} {vs : List V} {rs : List ARow} (h : RowsAt K L H vs rs) : DpAll K H vs (rs.map ARow.d) := by
  induction h with
  | nil => exact .nil
  | snoc _ k ih => rw [List.map_append]; exact dpAll_app ih (.cons k.dp .nil)
theorem RowsAt.len {K : PySem.W.Frag} {L : Addr} {H : Hp} {vs : List V} {rs : List ARow} (h : RowsAt K L H vs rs) : vs.length = rs.length := by
  induction h with
  | nil => rfl
  | snoc _ _ ih => rw [List.length_append, List.length_append, ih]; rfl
theorem nexts_len (fs : List FD) (vals : List Int) (p : Int) : (nextsAt fs vals p).length ≤ 2 := by
  unfold nextsAt
  split
  · exact Nat.zero_le _
  · split
    · exact Nat.zero_le _
    · split
      · exact Nat.zero_le _
      · exact foll_len
def spAll (A : Ad) (K : PySem.W.Frag) : Sp := fun vs H Q _ => ∃ (o : ProgO) (less : Int) (fs : List FD) (bs roots : List Int), vs = [.ref o.p, .int less] ∧ o.At A K H ∧ ProgIs fs bs roots o ∧ Whole fs bs roots ∧
  ∀ L H', H L = none → Vc.Ed [] H H' → Dp K H' (.ref L) (allD (allOf fs bs less o.spots)) → Q (.ref L) H'
theorem rep_one {n : Nat} {r : Int} : (List.replicate n [V.int r]).flatten = (List.replicate n r).map V.int := by
  induction n with
  | zero => rfl
  | succ n ih => rw [List.replicate_succ, List.flatten_cons, ih, List.replicate_succ]; rfl
theorem len6 {l : List Int} (h : l.length = 6) : ∃ a b c d e f, l = [a, b, c, d, e, f] := by
  match l, h with
  | [a, b, c, d, e, f], _ => exact ⟨a, b, c, d, e, f, rfl⟩
theorem Least.congr {fs : List FD} {bs rs ss : List Int} {pl : Int} (h : ∀ x, x ∈ rs ↔ x ∈ ss) (L : Least fs bs rs pl) : Least fs bs ss pl :=
  ⟨L.r.congr h, L.n, fun q r n => L.l q (r.congr fun x => (h x).symm) n⟩
theorem Whole.congr {fs : List FD} {bs rs ss : List Int} (h : ∀ x, x ∈ rs ↔ x ∈ ss) (W : Whole fs bs rs) : Whole fs bs ss := fun q r => W q (r.congr fun x => (h x).symm)
theorem ProgIs.congr {fs : List FD} {bs rs ss : List Int} {o : ProgO} (h : ∀ x, x ∈ rs ↔ x ∈ ss) (I : ProgIs fs bs rs o) : ProgIs fs bs ss o where
  mem := fun q => (I.mem q).trans ⟨fun r => r.congr h, fun r => r.congr fun x => (h x).symm⟩
  ins := I.ins
  rs := I.rs
  rm := fun k => (I.rm k).trans (h k)
  sp := I.sp
  ss := I.ss
  lk := I.lk
  lv := I.lv
section
variable {w : World} {K : PySem.W.Frag} {mg : Str → Option Value} {base : Heap} {A : Ad}
theorem ok__law_made (T : Txt K mg A) : FnOk PG w K mg base CX0 8 A.f__law_made A.d__law_made ["_law_coding", "_law_values_here", "_law_roots_here"] (spMade A K) := by
  have G_Programu_initu := ok_Programu_initu (w := w) (base := base) T
  refine T.F__law_made.ok sc__law_made (fun vs H Q E h => ?_) (fun cdv Ar outer s H vs Q E hr h => ?_)
  · obtain ⟨v, r, x, bs, roots, rfl, _⟩ := h
    rfl
  · obtain ⟨v, r, x, bs, roots, rfl, hX, hO, hv, F, hR, l1, l6, rb, k⟩ := h
    have xf := T.xf_NotWhole
    have no := T.no_NotWhole_place
    refine ⟨_, (pss_cons (ps_set (i := 3) sc__law_made.nd rfl (Or.inl rfl) (pe_op op_cat (pv 2) (pe_op op_rep (pe_lst (pa_cons (pe_ix ix_list (pv 2) pe_int (fun _ _ => rfl)) pa_nil)) (pe_op op_sub pe_int (pe_callB call_len_seq (by rfl) T.n_len (by decide +kernel) (pa_cons (pv 2) pa_nil)))))) (pss_cons (ps_set (i := 4) sc__law_made.nd rfl (Or.inl rfl) pe_non) (pss_cons (ps_set (i := 5) sc__law_made.nd rfl (Or.inl rfl) pe_non) (pss_cons (Vc.ps_tryX (i := 6) rfl rfl sc__law_made.nd rfl rfl ⟨rfl, by decide, .inl T.g_NotWhole⟩ takes0 (fun W pn xe tk po => (pss_one (ps_set (i := 4) sc__law_made.nd rfl (Or.inl rfl) (Vc.pe_makeV T.mk_Program G_Programu_initu (by exact hr.mono (by decide)) (by rfl) T.g_Program (fun σ => passAt tk σ) (pa_cons (pv 0) (pa_cons (pv 1) (pa_cons (pe_ix (Vc.ix_listK (K := K) rfl) (pv 3) pe_int (fun _ _ => rfl)) (pa_cons (pe_ix (Vc.ix_listK (K := K) rfl) (pv 3) pe_int (fun _ _ => rfl)) (pa_cons (pe_ix (Vc.ix_listK (K := K) rfl) (pv 3) pe_int (fun _ _ => rfl)) (pa_cons (pe_ix (Vc.ix_listK (K := K) rfl) (pv 3) pe_int (fun _ _ => rfl)) (pa_cons (pe_ix (Vc.ix_listK (K := K) rfl) (pv 3) pe_int (fun _ _ => rfl)) (pa_cons (pe_ix (Vc.ix_listK (K := K) rfl) (pv 3) pe_int (fun _ _ => rfl)) pa_nil)))))))))))) (fun a pn => (pss_one (ps_set (i := 5) sc__law_made.nd rfl (Or.inl rfl) (by exact (Vc.pe_xfTK (K := K) rfl (pv 6))))))) (pss_one (ps_ret (pe_tup (pa_cons (pv 4) (pa_cons (pv 5) pa_nil))))))))), ?_⟩
    obtain ⟨r0, rest, rfl⟩ : ∃ r0 rest, roots = r0 :: rest := by
      cases roots with
      | nil => exact absurd l1 (by decide)
      | cons a q => exact ⟨a, q, rfl⟩
    have i0 : atI ((r0 :: rest).map V.int) 0 = some (.int r0) := at_of (j := 0) rfl rfl
    have ll : (r0 :: rest).length = rest.length + 1 := rfl
    walk_at "go"
    intro M nM
    generalize hu1 : upd _ M _ = H1
    obtain ⟨e1, hM⟩ := Vc.alloc hu1 nM
    have hR1 := e1.at0 hR
    walk_at "go"
    rw [List.length_map]
    refine ⟨M, _, _, rfl, rfl, hM, by omega, by omega, by rw [sizeLine_eq]; show 1 * _ ≤ _; omega, fun Z nZ => ?_⟩
    generalize hu2 : upd _ Z _ = H2
    obtain ⟨e2, hZ⟩ := Vc.alloc hu2 nZ
    rw [rep_one] at hZ
    refine Vc.go_cat (e2.at0 hR1) hZ (by rw [List.length_map, List.length_map, List.length_replicate]; omega) fun W nW => ?_
    generalize hu3 : upd _ W _ = H3
    obtain ⟨e3, hW⟩ := Vc.alloc hu3 nW
    rw [← List.map_append] at hW
    have hm : ∀ y, y ∈ (r0 :: rest) ++ List.replicate (6 - ((r0 :: rest).length : Int)).toNat r0 ↔ y ∈ r0 :: rest := fun y => by
      rw [List.mem_append]
      exact ⟨fun h => h.elim id fun h => by rw [(List.mem_replicate.mp h).2]; exact List.mem_cons_self, .inl⟩
    have hl6 : ((r0 :: rest) ++ List.replicate (6 - ((r0 :: rest).length : Int)).toNat r0).length = 6 := by
      rw [List.length_append, List.length_replicate]; omega
    generalize hto : (r0 :: rest) ++ List.replicate (6 - ((r0 :: rest).length : Int)).toNat r0 = told at hW hm hl6
    obtain ⟨a0, a1, a2, a3, a4, a5, rfl⟩ := len6 hl6
    have e13 : Vc.Ed [] H H3 := (e1.ex e2).ex e3
    clear hM hR1 hZ hu1 hu2 hu3 e1 e2 e3 hto
    walk_at "go"
    refine make_prog [a0, a1, a2, a3, a4, a5] (hX.ed0 e13) hO ⟨.inl (.of (e13.at0 hv))⟩ F (by show 6 ≤ 24; decide) (fun y hy => rb y ((hm y).mp hy)) (fun pl d H4 e4 hL hd => ?_) (fun hw o H4 e4 hN hA hI => ?_)
    · refine Vc.go_wX T.exm_NotWhole_NotWhole fun a H5 na e5 ha => ?_
      have hE := Vc.ErrAt.of ha e5 hd
      walk_at "go"
      intro t nt
      generalize hu6 : upd _ t _ = H6
      obtain ⟨e6, ht⟩ := Vc.alloc hu6 nt
      walk_at "go"
      exact k none (some pl) t H6 (e13.ex ((e4.ex e5).ex e6)) (.inl ⟨pl, rfl, rfl, hL.congr hm⟩) ht
    · walk_at "go"
      intro t nt
      generalize hu6 : upd _ t _ = H6
      obtain ⟨e6, ht⟩ := Vc.alloc hu6 nt
      walk_at "go"
      exact k (some o) none t H6 (e13.ex (e4.ex e6)) (.inr ⟨o, rfl, rfl, hw.congr hm, hN.back e13, hA.ed0 e6, hI.congr hm⟩) ht
theorem ok__law_all (T : Txt K mg A) : FnOk PG w K mg base CX0 6 A.f__law_all A.d__law_all ["_law_made_here", "_law_less"] (spAll A K) := by
  have G_Program_places := ok_Program_places (P := PG) (w := w) (base := base) T
  have G_Program_followers := ok_Program_followers (w := w) (base := base) T
  have G_Programu_getitemu := ok_Programu_getitemu (w := w) (base := base) T
  refine T.F__law_all.ok sc__law_all (fun vs H Q E h => ?_) (fun cdv Ar outer s H vs Q E hr h => ?_)
  · obtain ⟨o, less, fs, bs, roots, rfl, _⟩ := h
    rfl
  · obtain ⟨o, less, fs, bs, roots, rfl, hA, I, W, k⟩ := h
    have hu := hu_of hr
    have lk1 : (progF o.r o.d o.s o.t).lookup ("places" : Str) = none := rfl
    have lk2 : (progF o.r o.d o.s o.t).lookup ("followers" : Str) = none := rfl
    have le := hA.le
    have sl : o.spots.length = o.l.length := by rw [I.sp.length_eq, List.length_map]
    refine ⟨_, (pss_cons (ps_set (i := 2) sc__law_all.nd rfl (Or.inl rfl) (pe_lst pa_nil)) (pss_cons (ps_for PassesOwn.never rfl (pi_list (pe_meth0 (pv 0) T.cl_Program T.m_Program_places G_Program_places (by exact hr.mono (by decide)) T.b_Program_places .nil pass0)) (pg_name (i := 3) sc__law_all.nd rfl (Or.inl rfl)) (pss_cons (ps_setLc (i := 4) (own := [("_law_other", 5)]) (g := gName 5) rfl sc__law_all.nd rfl rfl (sw_true rfl rfl rfl (by decide +kernel)) (pi_tup (pe_meth (pv 0) T.cl_Program T.m_Program_followers G_Program_followers (by exact hr.mono (by decide)) T.b_Program_followers .nil passL (pa_cons (pv 3) pa_nil))) (blkOk_by (own := [("_law_other", 5)]) (N := ["_law_made_here", "_law_less", "_law_found", "_law_place", "_law_behind", "_law_other"]) (sc := defScope s__law_all) (by decide +kernel)) (fun _ _ _ _ _ => by exact (pg_name (i := 5) sc__law_all.nd rfl (Or.inl rfl))) (fun _ _ _ _ _ => by exact pts_nil) (fun _ _ _ _ _ => by (refine' Vc.blkE ?h ?q; (case h => exact (pe_op op_sub (pv 5) (pv 1))); (case q => first | exact rfl | (dsimp only; done) | (dsimp only; exact rfl))))) (pss_one (ps_expr (pe_bm PySem.F.plainAttrs_list PySem.F.slot_list_append PySem.F.type_list_append mt_append (pv 2) (pa_cons (pe_tup (pa_cons (pe_op op_sub (pv 3) (pv 1)) (pa_cons (Vc.pe_ixO (pv 0) (pv 3) T.sp_Program_Programu_getitemu T.spf_Programu_getitemu G_Programu_getitemu (by exact hr.mono (by decide)) T.b_Programu_getitemu Vc.passSL) (pa_cons (pv 4) pa_nil)))) pa_nil)))))) (pss_one (ps_ret (pv 2))))), ?_⟩
    walk_at "go"
    intro L nL
    generalize hu1 : upd _ L _ = H1
    obtain ⟨e1, hL⟩ := Vc.alloc hu1 nL
    have hA1 := hA.ed0 e1
    have hx1 := hA1.ob
    walk_at "go"
    refine ⟨o, rfl, hA1, fun S H2 e2 nS hS => ?_⟩
    have hL2 := e2.at0 hL
    have nSL : S ≠ L := fun z => by rw [z, hL] at nS; cases nS
    have e2' : Vc.Ed [] H H2 := e1.ex e2
    clear hx1 hL hu1 e1 e2 hA1
    walk_at "go"
    refine ⟨⟨_, .of hS⟩, for_list (xs := o.spots.map V.int) (fun i σ H' => ∃ (vs : List V) (y3 y4 : Option V), σ = [some (.ref o.p), some (.int less), some (.ref L), y3, y4, none] ∧ Vc.Ed [] H H' ∧ H' S = some (.lst (o.spots.map V.int)) ∧ H' L = some (.lst vs) ∧ RowsAt K L H' vs (allOf fs bs less (o.spots.take i))) ⟨[], none, none, rfl, e2', hS, hL2, .nil⟩ (fun i σ H' _ ⟨_, _, _, _, _, h, _⟩ => .of h) ?_ ?_⟩
    · rintro i v σ H3 hi ⟨vs, y3, y4, rfl, e3, hS3, hL3, R⟩
      rw [List.getElem?_map] at hi
      obtain ⟨p, hp, rfl⟩ := Option.map_eq_some_iff.mp hi
      have hm := I.sp.mem_iff.mp (List.mem_of_getElem? hp)
      have hrp := (I.mem p).mp hm
      have hil : i < o.spots.length := (List.getElem?_eq_some_iff.mp hp).1
      have hA3 := hA.ed0 e3
      have hx3 := hA3.ob
      walk_at "go"
      refine ⟨o, p, fs, bs, roots, rfl, hA3, I, fun _ t ht => ?_, fun h => (h hrp).elim⟩
      walk_at "go"
      refine ⟨⟨_, .of ht⟩, Vc.lc_by (walk_tup (xs := (nextsAt fs bs p).map V.int)) (fun D j H' => Vc.Ed [] H3 H' ∧ H' D = some (.lst ((((nextsAt fs bs p).take j).map (· - less)).map V.int))) (fun D H4 nD e4 hD => ⟨e4, hD⟩) (fun D j H' _ _ q => .of (q.1.tup _ _ ht)) ?_ ?_⟩
      · rintro D j y H4 H5 nD hj ⟨e4, hD⟩ ⟨rfl, hy⟩
        rw [List.getElem?_map] at hy
        obtain ⟨z, hz, rfl⟩ := Option.map_eq_some_iff.mp hy
        rw [List.length_map] at hj
        have nl := nexts_len fs bs p
        walk_at "go"
        refine ⟨rfl, ?_⟩
        walk_at "go"
        refine ⟨_, hD, by rw [List.length_map, List.length_map, List.length_take]; exact small1000 (by omega), ?_⟩
        generalize hu6 : upd _ D _ = H6
        obtain ⟨e6, hD6⟩ := Vc.chg hu6 hD
        refine ⟨e4.one e6 (.inr nD), ?_⟩
        rw [hD6, List.take_add_one, hz, List.map_append, List.map_append]; rfl
      · rintro D H4 nD ⟨e4, hD⟩
        rw [List.length_map, List.take_length] at hD
        have hA4 := hA3.ed0 e4
        have hL4 := e4.at0 hL3
        have hx4 := hA4.ob
        clear hx3
        walk_at "go"
        refine ⟨o, p, rfl, hA4, fun q hq hq1 => ?_, fun h => (h hm).elim⟩
        obtain ⟨ins, hins⟩ : ∃ ins, q.2.1 = some ins := Option.ne_none_iff_exists'.mp (by rw [I.ins q hq, hq1]; exact W p hrp)
        have hI : insD fs bs p = ins := by unfold insD; rw [← hq1, ← I.ins q hq, hins]; rfl
        have eV : vOf q.2 = .ref q.2.2 := by unfold vOf; rw [hins]; rfl
        have ht4 := hA4.ld.tp q hq ins hins
        rw [eV]
        walk_at "go"
        intro t2 nt2
        generalize hu5 : upd _ t2 _ = H5
        obtain ⟨e5, ht2⟩ := Vc.alloc hu5 nt2
        have hL5 := e5.at0 hL4
        have e35 : Vc.Ed [] H3 H5 := e4.ex e5
        have nDL : D ≠ L := fun z => by rw [z, hL3] at nD; cases nD
        have vl : vs.length ≤ 1000 := by
          rw [R.len]
          unfold allOf
          rw [List.length_map, List.length_take]
          omega
        walk_at "go"
        generalize hu6 : upd _ L _ = H6
        obtain ⟨e6, hL6⟩ := Vc.chg hu6 hL5
        have e36 : Vc.Ed [L] H3 H6 := (e35.mono fun _ z => nomatch z).one e6 (.inl (by simp))
        have hS6 := e36.at1 nSL hS3
        refine ⟨_, _, _, rfl, (e3.ex e35).one e6 (.inr nL), hS6, hL6, ?_⟩
        have ak : allOf fs bs less (o.spots.take (i + 1)) = allOf fs bs less (o.spots.take i) ++ [⟨p - less, insD fs bs p, (nextsAt fs bs p).map (· - less)⟩] := by
          unfold allOf
          rw [List.take_add_one, hp, List.map_append]; rfl
        rw [ak]
        refine .snoc (R.ed1 e36) ⟨t2, q.2.2, D, rfl, e6.tup _ _ ht2, ?_, ?_, nDL⟩
        · rw [hI]; exact .of (e6.tup _ _ (e5.tup _ _ ht4))
        · exact e6.at1 nDL (e5.at0 hD)
    · rintro σ H3 ⟨vs, y3, y4, rfl, e3, hS3, hL3, R⟩
      rw [List.length_map, List.take_length] at R
      walk_at "go"
      exact k L H3 nL e3 (.lst (.of hL3) R.dp)
end

end My
namespace My
open PySem PySem.Spec PyProof.Rows L2
/-! ### a program with both lots of roots -/
def wrongOf (bs : List (Option Int)) : List Int := bs.filterMap id
theorem wrong_min {fs : List FD} {bs one other : List Int} {pl mn : Int} {b2 b3 : Option Int} (L : Least fs bs (one ++ other) pl) (h2 : (∃ a, b2 = some a ∧ Least fs bs one a) ∨ (b2 = none ∧ Whole fs bs one)) (h3 : (∃ a, b3 = some a ∧ Least fs bs other a) ∨ (b3 = none ∧ Whole fs bs other))
    (hm : mn ∈ wrongOf [b2, b3]) (hl : ∀ y, y ∈ wrongOf [b2, b3] → mn ≤ y) : pl = mn := by
  rcases h2 with ⟨a, rfl, La⟩ | ⟨rfl, Wa⟩ <;> rcases h3 with ⟨b, rfl, Lb⟩ | ⟨rfl, Wb⟩
  · obtain ⟨h, ha, hb⟩ := least_both L La Lb
    have e : wrongOf [some a, some b] = [a, b] := rfl
    rw [e] at hm hl
    have h1 := hl a (by simp)
    have h2 := hl b (by simp)
    simp only [List.mem_cons, List.not_mem_nil, or_false] at hm
    omega
  · have e : wrongOf [some a, none] = [a] := rfl
    rw [e] at hm
    rw [List.mem_singleton.mp hm]
    exact ((least_app L).2 Wb).inj La
  · have e : wrongOf [none, some b] = [b] := rfl
    rw [e] at hm
    rw [List.mem_singleton.mp hm]
    exact ((least_app L).1 Wa).inj Lb
  · cases hm
theorem Res.cut {A : Ad} {K : PySem.W.Frag} {H H' : Hp} {fs bs roots mo bo} (h : Res A K H H' fs bs roots mo bo) : (∃ a, bo = some a ∧ Least fs bs roots a) ∨ (bo = none ∧ Whole fs bs roots) :=
  h.imp (fun ⟨pl, _, h, L⟩ => ⟨pl, h, L⟩) fun ⟨_, _, h, G⟩ => ⟨h, G.w⟩
theorem Least.not_whole {fs : List FD} {bs roots : List Int} {pl : Int} (L : Least fs bs roots pl) (W : Whole fs bs roots) : False := W pl L.r L.n
def spJoined (A : Ad) (K : PySem.W.Frag) : Sp := fun vs H Q _ => ∃ (v r1 r2 : Addr) (x : CodeO) (bs one other : List Int), vs = [.ref x.c, .ref v, .ref r1, .ref r2] ∧ x.At A H ∧ x.Ok ∧ H v = some (.lst (bs.map V.int)) ∧ Fit x.fs bs ∧ H r1 = some (.lst (one.map V.int)) ∧ H r2 = some (.lst (other.map V.int)) ∧
  1 ≤ one.length ∧ one.length ≤ 3 ∧ 1 ≤ other.length ∧ other.length ≤ 3 ∧ (∀ y ∈ one, -3 ≤ y ∧ y ≤ bs.length + 2) ∧ (∀ y ∈ other, -3 ≤ y ∧ y ≤ bs.length + 2) ∧ ∀ H', Vc.Ed [] H H' → Q (.bl true) H'
theorem ProgIs.few {A : Ad} {K : PySem.W.Frag} {H : Hp} {fs : List FD} {bs roots : List Int} {o : ProgO} (I : ProgIs fs bs roots o) (hA : o.At A K H) : o.spots.Nodup := I.sp.nodup_iff.mpr hA.nd
theorem ProgIs.smem {fs : List FD} {bs roots : List Int} {o : ProgO} (I : ProgIs fs bs roots o) (q : Int) : q ∈ o.spots ↔ Rch fs bs roots q := I.sp.mem_iff.trans (I.mem q)
theorem few_spots {fs : List FD} {bs roots : List Int} {ks : List Int} (F : Fit fs bs) (r24 : roots.length ≤ 24) (rb : ∀ x ∈ roots, -3 ≤ x ∧ x ≤ bs.length + 2) (nd : ks.Nodup) (h : ∀ q, q ∈ ks → Rch fs bs roots q) : ks.length < 64 := by
  obtain ⟨m, R, hrun⟩ := run_ex F _ roots [] (Nat.le_refl _) (RInv.init F r24 rb)
  have hend := hrun.end_ F (RInv.init F r24 rb)
  have few := hend.few F
  have := sub_len (bs := R.map (·.1)) nd fun q hq => (hrun.mem q).mpr (h q hq)
  rw [List.length_map] at this
  omega
theorem go_neTs {K : PySem.W.Frag} {H : Hp} {Q : VK} {p q : Addr} {ns : List Int} (e1 : SqT K H p (ns.map V.int)) (e2 : SqT K H q (ns.map V.int)) (h : Q (.bl false) H) : rNeD K (.ref p) (.ref q) H Q :=
  ⟨_, _, .tup e1 (dp_ints ns), .tup e2 (dp_ints ns), shp_tup _, shp_tup _, by rw [eqv_tups, decide_eq_true rfl]; exact h⟩
def spn (o1 o2 o3 : ProgO) : Nat → List Int
  | 0 => o1.spots
  | 1 => o2.spots
  | _ => o3.spots
section
variable {w : World} {K : PySem.W.Frag} {mg : Str → Option Value} {base : Heap} {A : Ad}
theorem ok__law_joined_right (T : Txt K mg A) : FnOk PG w K mg base CX0 9 A.f__law_joined_right A.d__law_joined_right ["_law_coding", "_law_values_here", "_law_one", "_law_other"] (spJoined A K) := by
  have G__law_made := ok__law_made (w := w) (base := base) T
  have G_Program_places := ok_Program_places (P := PG) (w := w) (base := base) T
  have G_Programu_lenu := ok_Programu_lenu (P := PG) (w := w) (base := base) T
  have G_Program_followers := ok_Program_followers (w := w) (base := base) T
  have G_Programu_getitemu := ok_Programu_getitemu (w := w) (base := base) T
  refine T.F__law_joined_right.ok sc__law_joined_right (fun vs H Q E h => ?_) (fun cdv Ar outer s H vs Q E hr h => ?_)
  · obtain ⟨v, r1, r2, x, bs, one, other, rfl, _⟩ := h
    rfl
  · obtain ⟨v, r1, r2, x, bs, one, other, rfl, hX, hO, hv, F, hR1, hR2, l1, l3, m1, m3, rb1, rb2, k⟩ := h
    have hu := hu_of hr
    refine ⟨_, (pss_cons (ps_asg (pe_call G__law_made (by exact hr.mono (by decide)) (by rfl) T.g__law_made T.F__law_made.kp T.b__law_made .nil pass0 (pa_cons (pv 0) (pa_cons (pv 1) (pa_cons (pe_op op_cat (pv 2) (pv 3)) pa_nil)))) (pg_tup rfl (pgs_cons (pg_name (i := 4) sc__law_joined_right.nd rfl (Or.inl rfl)) (pgs_cons (pg_name (i := 5) sc__law_joined_right.nd rfl (Or.inl rfl)) pgs_nil)))) (pss_cons (ps_asg (pe_call G__law_made (by exact hr.mono (by decide)) (by rfl) T.g__law_made T.F__law_made.kp T.b__law_made .nil pass0 (pa_cons (pv 0) (pa_cons (pv 1) (pa_cons (pv 2) pa_nil)))) (pg_tup rfl (pgs_cons (pg_name (i := 6) sc__law_joined_right.nd rfl (Or.inl rfl)) (pgs_cons (pg_name (i := 7) sc__law_joined_right.nd rfl (Or.inl rfl)) pgs_nil)))) (pss_cons (ps_asg (pe_call G__law_made (by exact hr.mono (by decide)) (by rfl) T.g__law_made T.F__law_made.kp T.b__law_made .nil pass0 (pa_cons (pv 0) (pa_cons (pv 1) (pa_cons (pv 3) pa_nil)))) (pg_tup rfl (pgs_cons (pg_name (i := 8) sc__law_joined_right.nd rfl (Or.inl rfl)) (pgs_cons (pg_name (i := 9) sc__law_joined_right.nd rfl (Or.inl rfl)) pgs_nil)))) (pss_cons (ps_setLc (i := 10) (own := [("_law_spot", 14)]) (g := gName 14) rfl sc__law_joined_right.nd rfl rfl (sw_true rfl rfl rfl (by decide +kernel)) (pi_tup (pe_tup (pa_cons (pv 7) (pa_cons (pv 9) pa_nil)))) (blkOk_by (own := [("_law_spot", 14)]) (N := ["_law_coding", "_law_values_here", "_law_one", "_law_other", "_law_both", "_law_place", "_law_first", "_law_bad", "_law_last", "_law_worse", "_law_wrong", "_law_told", "_law_k", "_law_part", "_law_spot"]) (sc := defScope s__law_joined_right) (by decide +kernel)) (fun _ _ _ _ _ => by exact (pg_name (i := 14) sc__law_joined_right.nd rfl (Or.inl rfl))) (fun _ _ _ _ _ => by (refine' Vc.blkT ?h ?q; (case h => exact pts_one (pt_cmpR op_notN (pv 14) pe_non (nomark _))); (case q => first | exact rfl | (dsimp only; done) | (dsimp only; exact rfl)))) (fun _ _ _ _ _ => by (refine' Vc.blkE ?h ?q; (case h => exact (pv 14)); (case q => first | exact rfl | (dsimp only; done) | (dsimp only; exact rfl))))) (pss_cons (ps_if (pt_cmpR (op_neD (by exact hr.units)) (pv 10) (pe_lst pa_nil) (nomark _)) (pss_one (ps_ret (pe_and (pe_cmpR op_isN (pv 4) pe_non (nomark _)) (pe_one (pe_cmpR op_eq (pv 5) (pe_callB (cr_min rfl) (by rfl) T.n_min (by decide +kernel) (pa_cons (pv 10) pa_nil)) (nomark _)))))) pss_nil) (pss_cons (ps_if (pt_cmpR op_isN (pv 4) pe_non (nomark _)) (pss_one (ps_ret pe_bl)) pss_nil) (pss_cons (ps_setLc (i := 11) (own := [("_law_part", 13)]) (g := gName 13) rfl sc__law_joined_right.nd rfl rfl (sw_true rfl rfl rfl (by decide +kernel)) (pi_tup (pe_tup (pa_cons (pv 4) (pa_cons (pv 6) (pa_cons (pv 8) pa_nil))))) (blkOk_by (own := [("_law_part", 13)]) (N := ["_law_coding", "_law_values_here", "_law_one", "_law_other", "_law_both", "_law_place", "_law_first", "_law_bad", "_law_last", "_law_worse", "_law_wrong", "_law_told", "_law_k", "_law_part", "_law_spot"]) (sc := defScope s__law_joined_right) (by decide +kernel)) (fun _ _ _ _ _ => by exact (pg_name (i := 13) sc__law_joined_right.nd rfl (Or.inl rfl))) (fun _ _ _ _ _ => by exact pts_nil) (fun _ _ _ _ _ => by (refine' Vc.blkE ?h ?q; (case h => exact (pe_meth0 (pv 13) T.cl_Program T.m_Program_places G_Program_places (by exact hr.mono (by decide)) T.b_Program_places .nil pass0)); (case q => first | exact rfl | (dsimp only; done) | (dsimp only; exact rfl))))) (pss_cons (ps_if (pt_cmpR (op_neD (by exact hr.units)) (pe_callB (cr_sortedSet (by rfl)) (by rfl) T.n_sorted (by decide +kernel) (pa_cons (pe_callTy (Vc.cr_setC (by rfl)) (by rfl) T.n_set (by decide +kernel) (pa_cons (pe_op op_cat (pe_ix ix_list (pv 11) pe_int (fun _ _ => rfl)) (pe_ix ix_list (pv 11) pe_int (fun _ _ => rfl))) pa_nil)) pa_nil)) (pe_ix ix_list (pv 11) pe_int (fun _ _ => rfl)) (nomark _)) (pss_one (ps_ret pe_bl)) pss_nil) (pss_cons (ps_for PassesOwn.never rfl (pi_tup (pe_tup (pa_cons (pe_tup (pa_cons pe_int (pa_cons (pv 6) pa_nil))) (pa_cons (pe_tup (pa_cons pe_int (pa_cons (pv 8) pa_nil))) pa_nil)))) (pg_tup rfl (pgs_cons (pg_name (i := 12) sc__law_joined_right.nd rfl (Or.inl rfl)) (pgs_cons (pg_name (i := 13) sc__law_joined_right.nd rfl (Or.inl rfl)) pgs_nil))) (pss_one (ps_for PassesOwn.never rfl (pi_list (pe_ix ix_list (pv 11) (pv 12) (fun _ _ => rfl))) (pg_name (i := 14) sc__law_joined_right.nd rfl (Or.inl rfl)) (pss_one (ps_if (PW.pt (pw_or (pt_cmpR (op_neD (by exact hr.units)) (Vc.pe_ixO (pv 13) (pv 14) T.sp_Program_Programu_getitemu T.spf_Programu_getitemu G_Programu_getitemu (by exact hr.mono (by decide)) T.b_Programu_getitemu Vc.passSL) (Vc.pe_ixO (pv 4) (pv 14) T.sp_Program_Programu_getitemu T.spf_Programu_getitemu G_Programu_getitemu (by exact hr.mono (by decide)) T.b_Programu_getitemu Vc.passSL) (nomark _)) (pw_or1 (pt_cmpR (op_neD (by exact hr.units)) (pe_meth (pv 13) T.cl_Program T.m_Program_followers G_Program_followers (by exact hr.mono (by decide)) T.b_Program_followers .nil passL (pa_cons (pv 14) pa_nil)) (pe_meth (pv 4) T.cl_Program T.m_Program_followers G_Program_followers (by exact hr.mono (by decide)) T.b_Program_followers .nil passL (pa_cons (pv 14) pa_nil)) (nomark _))))) (pss_one (ps_ret pe_bl)) pss_nil))))) (pss_one (ps_ret (pe_cmpR op_eq (pe_callB (Vc.call_lenO G_Programu_lenu (by exact hr.mono (by decide)) T.sp_Program_Programu_lenu T.b_Programu_lenu) (by rfl) T.n_len (by decide +kernel) (pa_cons (pv 4) pa_nil)) (pe_callB call_len_seq (by rfl) T.n_len (by decide +kernel) (pa_cons (pe_ix ix_list (pv 11) pe_int (fun _ _ => rfl)) pa_nil)) (nomark _))))))))))))), ?_⟩
    walk_at "go"
    refine Vc.go_cat hR1 hR2 (by rw [List.length_map, List.length_map]; omega) fun S nS => ?_
    generalize hu1 : upd _ S _ = H1
    obtain ⟨e1, hS⟩ := Vc.alloc hu1 nS
    rw [← List.map_append] at hS
    have rbS : ∀ y ∈ one ++ other, -3 ≤ y ∧ y ≤ bs.length + 2 := fun y hy => (List.mem_append.mp hy).elim (rb1 y) (rb2 y)
    walk_at "go"
    refine ⟨v, S, x, bs, one ++ other, rfl, hX.ed0 e1, hO, e1.at0 hv, F, hS, by rw [List.length_append]; omega, by rw [List.length_append]; omega, rbS, fun mo1 b1 t1 H2 e2 R1 ht1 => ?_⟩
    refine ⟨t1, _, rfl, .of ht1, rfl, _, _, rfl, ?_⟩
    walk_at "go"
    refine ⟨_, _, rfl, ?_⟩
    walk_at "go"
    refine ⟨rfl, ?_⟩
    have e2' : Vc.Ed [] H H2 := e1.ex e2
    walk_at "go"
    refine ⟨v, r1, x, bs, one, rfl, hX.ed0 e2', hO, e2'.at0 hv, F, e2'.at0 hR1, l1, by omega, rb1, fun mo2 b2 t2 H3 e3 R2 ht2 => ?_⟩
    refine ⟨t2, _, rfl, .of ht2, rfl, _, _, rfl, ?_⟩
    walk_at "go"
    refine ⟨_, _, rfl, ?_⟩
    walk_at "go"
    refine ⟨rfl, ?_⟩
    have e3' : Vc.Ed [] H H3 := e2'.ex e3
    walk_at "go"
    refine ⟨v, r2, x, bs, other, rfl, hX.ed0 e3', hO, e3'.at0 hv, F, e3'.at0 hR2, m1, by omega, rb2, fun mo3 b3 t3 H4 e4 R3 ht3 => ?_⟩
    refine ⟨t3, _, rfl, .of ht3, rfl, _, _, rfl, ?_⟩
    walk_at "go"
    refine ⟨_, _, rfl, ?_⟩
    walk_at "go"
    refine ⟨rfl, ?_⟩
    have e4' : Vc.Ed [] H H4 := e3'.ex e4
    have R1 := R1.ed0 (e3.ex e4)
    have R2 := R2.ed0 e4
    walk_at "go"
    intro tw ntw
    generalize hu5 : upd _ tw _ = H5
    obtain ⟨e5, htw⟩ := Vc.alloc hu5 ntw
    have e5' : Vc.Ed [] H H5 := e4'.ex e5
    have R1 := R1.ed0 e5
    have R2 := R2.ed0 e5
    have R3 := R3.ed0 e5
    clear hS ht1 ht2 ht3 hu1 hu5 e1 e2 e3 e4 e5 e2' e3' e4'
    walk_at "go"
    refine ⟨⟨_, .of htw⟩, Vc.lc_by (walk_tup (xs := [oV b2, oV b3])) (fun D j H' => Vc.Ed [] H5 H' ∧ H' D = some (.lst ((wrongOf ([b2, b3].take j)).map V.int))) (fun D H6 nD e6 hD => ⟨e6, hD⟩) (fun D j H' _ _ q => .of (q.1.tup _ _ htw)) ?_ ?_⟩
    · rintro D j y H6 H7 nD hj ⟨e6, hD⟩ ⟨rfl, hy⟩
      obtain ⟨bb, hbb, rfl⟩ : ∃ bb, [b2, b3][j]? = some bb ∧ y = oV bb := by
        have : ([b2, b3].map oV)[j]? = some y := hy
        rw [List.getElem?_map] at this
        obtain ⟨bb, h1, h2⟩ := Option.map_eq_some_iff.mp this
        exact ⟨bb, h1, h2.symm⟩
      have wt : wrongOf ([b2, b3].take (j + 1)) = wrongOf ([b2, b3].take j) ++ bb.toList := by
        unfold wrongOf
        rw [List.take_add_one, hbb, List.filterMap_append]
        cases bb <;> rfl
      have wl : (wrongOf ([b2, b3].take j)).length ≤ 2 := by
        unfold wrongOf
        have := List.length_filterMap_le id ([b2, b3].take j)
        rw [List.length_take] at this
        have h2 : [b2, b3].length = 2 := rfl
        omega
      cases bb with
      | none =>
        walk_at "go"
        refine ⟨rfl, ?_⟩
        walk_at "go"
        refine Vc.go_iten (fun h => (h rfl).elim) (fun _ => ?_)
        refine ⟨e6, ?_⟩
        rw [wt]
        show H7 D = some (.lst ((_ ++ []).map V.int))
        rw [List.append_nil]; exact hD
      | some z =>
        walk_at "go"
        refine ⟨rfl, ?_⟩
        walk_at "go"
        refine Vc.go_iten (fun _ => ?_) (fun h => by cases h)
        walk_at "go"
        refine ⟨_, hD, by rw [List.length_map]; exact small1000 (by omega), ?_⟩
        generalize hu8 : upd _ D _ = H8
        obtain ⟨e8, hD8⟩ := Vc.chg hu8 hD
        refine ⟨e6.one e8 (.inr nD), ?_⟩
        rw [wt, List.map_append]; exact hD8
    · rintro Wr H6 nD ⟨e6, hD⟩
      have hD : H6 Wr = some (.lst ((wrongOf [b2, b3]).map V.int)) := hD
      have e6' : Vc.Ed [] H H6 := e5'.ex e6
      have R1 := R1.ed0 e6
      have R2 := R2.ed0 e6
      have R3 := R3.ed0 e6
      clear e5' e6 htw
      walk_at "go"
      intro M nM
      generalize hu7 : upd _ M _ = H7
      obtain ⟨e7, hM⟩ := Vc.alloc hu7 nM
      have hD7 := e7.at0 hD
      refine go_neLs (ns := wrongOf [b2, b3]) (ms := []) (.of hD7) (.of hM) ?_
      have e7' : Vc.Ed [] H H7 := e6'.ex e7
      have R1 := R1.ed0 e7
      have R2 := R2.ed0 e7
      have R3 := R3.ed0 e7
      clear hM hD e6' e7 hu7
      walk_at "go"
      refine Vc.go_iten (fun hw => ?_) (fun hw => ?_)
      · rcases R1 with ⟨pl, rfl, rfl, L1⟩ | ⟨o, rfl, rfl, G1⟩
        rotate_left
        · obtain ⟨w2, w3⟩ := whole_app.mp G1.w
          rcases R2 with ⟨_, _, _, L⟩ | ⟨_, _, rfl, _⟩
          · exact (L.not_whole w2).elim
          rcases R3 with ⟨_, _, _, L⟩ | ⟨_, _, rfl, _⟩
          · exact (L.not_whole w3).elim
          exact (hw rfl).elim
        rw [show oP none = V.non from rfl, show oV (some pl) = V.int pl from rfl]
        walk_at "go"
        refine Vc.go_minL (.of hD7) (List.length_pos_iff.mpr hw) fun mn hmn hle => ?_
        have := wrong_min L1 R2.cut R3.cut hmn hle
        subst this
        walk_at "go"
        show Q (.bl (decide _)) H7
        rw [decide_eq_true rfl]
        exact k H7 e7'
      · rcases R2 with ⟨_, _, rfl, L⟩ | ⟨o2, rfl, rfl, G2⟩
        · cases b3 <;> cases hw
        rcases R3 with ⟨_, _, rfl, L⟩ | ⟨o3, rfl, rfl, G3⟩
        · cases hw
        rcases R1 with ⟨pl, rfl, rfl, L1⟩ | ⟨o1, rfl, rfl, G1⟩
        · exact (L1.not_whole (whole_app.mpr ⟨G2.w, G3.w⟩)).elim
        have hA1 := G1.a
        have hA2 := G2.a
        have hA3 := G3.a
        have I1 := G1.i
        have I2 := G2.i
        have I3 := G3.i
        rw [show oP (some o1) = V.ref o1.p from rfl, show oP (some o2) = V.ref o2.p from rfl, show oP (some o3) = V.ref o3.p from rfl]
        walk_at "go"
        intro tp ntp
        generalize hu8 : upd _ tp _ = H8
        obtain ⟨e8, htp⟩ := Vc.alloc hu8 ntp
        have hA1 := hA1.ed0 e8
        have hA2 := hA2.ed0 e8
        have hA3 := hA3.ed0 e8
        have e8' : Vc.Ed [] H H8 := e7'.ex e8
        clear hD7 hu8 e7' e8
        walk_at "go"
        refine ⟨⟨_, .of htp⟩, Vc.lc_by (walk_tup (xs := [.ref o1.p, .ref o2.p, .ref o3.p])) (fun D i H' => Vc.Ed [] H8 H' ∧ ∃ as : List Addr, H' D = some (.lst (as.map V.ref)) ∧ as.length = i ∧ ∀ j a, as[j]? = some a → a ≠ D ∧ H' a = some (.lst ((spn o1 o2 o3 j).map V.int))) (fun D H9 nD e9 hD => ⟨e9, [], hD, rfl, by intro j a h; cases h⟩) (fun D j H' _ _ q => .of (q.1.tup _ _ htp)) ?_ ?_⟩
        · rintro D i y H9 H10 nD hi ⟨e9, as, hD, al, has⟩ ⟨rfl, hy⟩
          obtain ⟨o, rfl, hA, hs⟩ : ∃ o : ProgO, y = .ref o.p ∧ o.At A K H8 ∧ o.spots = spn o1 o2 o3 i := by
            have hi : i < 3 := hi
            have : i = 0 ∨ i = 1 ∨ i = 2 := by omega
            rcases this with rfl | rfl | rfl <;> cases hy
            · exact ⟨o1, rfl, hA1, rfl⟩
            · exact ⟨o2, rfl, hA2, rfl⟩
            · exact ⟨o3, rfl, hA3, rfl⟩
          have hA10 := hA.ed0 e9
          have hx10 := hA10.ob
          have lk : (progF o.r o.d o.s o.t).lookup ("places" : Str) = none := rfl
          have i3 : i < 3 := hi
          walk_at "go"
          refine ⟨rfl, ?_⟩
          walk_at "go"
          refine ⟨o, rfl, hA10, fun q H11 e11 nq hq => ?_⟩
          have hD11 := e11.at0 hD
          have nqD : q ≠ D := fun z => by rw [z, hD] at nq; cases nq
          refine ⟨_, hD11, by rw [List.length_map]; exact small1000 (by omega), ?_⟩
          generalize hu12 : upd _ D _ = H12
          obtain ⟨e12, hD12⟩ := Vc.chg hu12 hD11
          refine ⟨(e9.ex e11).one e12 (.inr nD), as ++ [q], by rw [List.map_append]; exact hD12, by rw [List.length_append, al]; rfl, fun j a hj => ?_⟩
          rcases Nat.lt_or_ge j as.length with l | l
          · rw [List.getElem?_append_left l] at hj
            obtain ⟨n1, h1⟩ := has j a hj
            exact ⟨n1, e12.at1 n1 (e11.at0 h1)⟩
          · rw [List.getElem?_append_right l] at hj
            have l2 : j - as.length < 1 := (List.getElem?_eq_some_iff.mp hj).1
            have e : j - as.length = 0 := by omega
            rw [e] at hj
            injection hj with hj
            subst hj
            have ej : j = i := by omega
            rw [ej, ← hs]
            exact ⟨nqD, e12.at1 nqD hq⟩
        · rintro D H9 nD ⟨e9, as, hD, al, has⟩
          have al : as.length = 3 := al
          obtain ⟨a0, a1, a2, rfl⟩ : ∃ a0 a1 a2, as = [a0, a1, a2] := by
            match as, al with
            | [a0, a1, a2], _ => exact ⟨a0, a1, a2, rfl⟩
          have h0 : H9 a0 = some (.lst (o1.spots.map V.int)) := (has 0 a0 rfl).2
          have h1 : H9 a1 = some (.lst (o2.spots.map V.int)) := (has 1 a1 rfl).2
          have h2 : H9 a2 = some (.lst (o3.spots.map V.int)) := (has 2 a2 rfl).2
          have hD : H9 D = some (.lst [.ref a0, .ref a1, .ref a2]) := hD
          have e9' : Vc.Ed [] H H9 := e8'.ex e9
          have hA1 := hA1.ed0 e9
          have hA2 := hA2.ed0 e9
          have hA3 := hA3.ed0 e9
          have r24 : (one ++ other).length ≤ 24 := by rw [List.length_append]; omega
          have l2 := few_spots F r24 rbS (I2.few hA2) fun q hq => (rch_app q).mpr (.inl ((I2.smem q).mp hq))
          have l3' := few_spots F r24 rbS (I3.few hA3) fun q hq => (rch_app q).mpr (.inr ((I3.smem q).mp hq))
          clear has e9 e8' htp
          walk_at "go"
          refine Vc.go_cat h1 h2 (by rw [List.length_map, List.length_map]; omega) fun C nC => ?_
          generalize hu10 : upd _ C _ = H10
          obtain ⟨e10, hC⟩ := Vc.alloc hu10 nC
          rw [← List.map_append] at hC
          walk_at "go"
          refine Vc.go_setC (.of hC) (by rw [List.length_append]; omega) fun a ks na knd hk => ?_
          generalize hu11 : upd _ a _ = H11
          obtain ⟨e11, ha⟩ := Vc.alloc hu11 na
          have hk' : ∀ q, q ∈ ks ↔ Rch x.fs bs (one ++ other) q := fun q => by
            rw [hk, List.mem_append, rch_app, I2.smem, I3.smem]
          have kfew := few_spots F r24 rbS knd fun q hq => (hk' q).mp hq
          walk_at "go"
          refine go_sortedN ha kfew fun ms u pw hm ml nu => ?_
          generalize hu12 : upd _ u _ = H12
          obtain ⟨e12, hu'⟩ := Vc.alloc hu12 nu
          have es : ms = o1.spots := srt_eq (pw.imp fun h => Int.le_of_lt h) I1.ss (nodup_len (asc_nd pw) (I1.few hA1) fun q => by rw [hm, ← hk, hk', I1.smem])
          have e912 : Vc.Ed [] H9 H12 := (e10.ex e11).ex e12
          have hD12 := e912.at0 hD
          have h0' := e912.at0 h0
          walk_at "go"
          refine go_neLs (ns := ms) (ms := o1.spots) (.of hu') (.of h0') ?_
          subst es
          walk_at "go"
          have h1' := e912.at0 h1
          have h2' := e912.at0 h2
          have hA1 := hA1.ed0 e912
          have hA2 := hA2.ed0 e912
          have hA3 := hA3.ed0 e912
          have e12' : Vc.Ed [] H H12 := e9'.ex e912
          clear hC ha hu' h0 h1 h2 hD e10 e11 e12 e912 e9' hu10 hu11 hu12
          intro ta nta
          generalize hu13 : upd _ ta _ = H13
          obtain ⟨e13, hta⟩ := Vc.alloc hu13 nta
          walk_at "go"
          intro tb ntb
          generalize hu14 : upd _ tb _ = H14
          obtain ⟨e14, htb⟩ := Vc.alloc hu14 ntb
          walk_at "go"
          intro tc ntc
          generalize hu15 : upd _ tc _ = H15
          obtain ⟨e15, htc⟩ := Vc.alloc hu15 ntc
          have e1215 : Vc.Ed [] H12 H15 := (e13.ex e14).ex e15
          have hta' := e15.tup _ _ (e14.tup _ _ hta)
          have htb' := e15.tup _ _ htb
          have hD15 := e1215.at0 hD12
          have h0 := e1215.at0 h0'
          have h1 := e1215.at0 h1'
          have h2 := e1215.at0 h2'
          have hA1 := hA1.ed0 e1215
          have hA2 := hA2.ed0 e1215
          have hA3 := hA3.ed0 e1215
          have e15' : Vc.Ed [] H H15 := e12'.ex e1215
          clear hta htb hD12 h0' h1' h2' e13 e14 e15 e1215 e12' hu13 hu14 hu15
          walk_at "go"
          refine ⟨⟨_, .of htc⟩, for_tup (xs := [.ref ta, .ref tb]) (fun i σ H' => ∃ y12 y13 y14 : Option V, σ = [some (.ref x.c), some (.ref v), some (.ref r1), some (.ref r2), some (.ref o1.p), some (oV none), some (.ref o2.p), some (oV none), some (.ref o3.p), some (oV none), some (.ref Wr), some (.ref D), y12, y13, y14] ∧ Vc.Ed [] H15 H') ⟨_, _, _, rfl, .refl⟩ (fun i σ H' _ ⟨_, _, _, _, e⟩ => .of (e.tup _ _ htc)) ?_ ?_⟩
          · rintro i y σ H16 hy ⟨y12, y13, y14, rfl, e16⟩
            obtain ⟨t, ki, o, sp, rs, rfl, ht, hat, hsp, hA, I, sub⟩ : ∃ (t : Addr) (ki : Int) (o : ProgO) (sp : Addr) (rs : List Int), y = .ref t ∧ H16 t = some (.tup [.int ki, .ref o.p]) ∧ atI [V.ref a0, .ref a1, .ref a2] ki = some (.ref sp) ∧ H16 sp = some (.lst (o.spots.map V.int)) ∧ o.At A K H16 ∧ ProgIs x.fs bs rs o ∧ ∀ q, Rch x.fs bs rs q → Rch x.fs bs (one ++ other) q := by
              have hi : i < 2 := (List.getElem?_eq_some_iff.mp hy).1
              have : i = 0 ∨ i = 1 := by omega
              rcases this with rfl | rfl <;> cases hy
              · exact ⟨ta, 1, o2, a1, one, rfl, e16.tup _ _ hta', rfl, e16.at0 h1, hA2.ed0 e16, I2, fun q h => (rch_app q).mpr (.inl h)⟩
              · exact ⟨tb, 2, o3, a2, other, rfl, e16.tup _ _ htb', rfl, e16.at0 h2, hA3.ed0 e16, I3, fun q h => (rch_app q).mpr (.inr h)⟩
            refine ⟨t, _, rfl, .of ht, rfl, _, _, rfl, ?_⟩
            walk_at "go"
            refine ⟨_, _, rfl, ?_⟩
            walk_at "go"
            refine ⟨rfl, ?_⟩
            have hD16 := e16.at0 hD15
            walk_at "go"
            refine ⟨⟨_, .of hsp⟩, for_list (xs := o.spots.map V.int) (fun j σ H' => ∃ y14 : Option V, σ = [some (.ref x.c), some (.ref v), some (.ref r1), some (.ref r2), some (.ref o1.p), some (oV none), some (.ref o2.p), some (oV none), some (.ref o3.p), some (oV none), some (.ref Wr), some (.ref D), some (.int ki), some (.ref o.p), y14] ∧ Vc.Ed [] H16 H') ⟨_, rfl, .refl⟩ (fun i σ H' _ ⟨_, _, e⟩ => .of (e.at0 hsp)) ?_ ?_⟩
            · rintro j y σ H17 hj ⟨y14, rfl, e17⟩
              rw [List.getElem?_map] at hj
              obtain ⟨q, hq, rfl⟩ := Option.map_eq_some_iff.mp hj
              have hrq := (I.smem q).mp (List.mem_of_getElem? hq)
              have hrq1 := sub q hrq
              have hA17 := hA.ed0 e17
              have hB17 := (hA1.ed0 e16).ed0 e17
              have hx17 := hA17.ob
              have hy17 := hB17.ob
              have lk1 : (progF o.r o.d o.s o.t).lookup ("followers" : Str) = none := rfl
              have lk2 : (progF o1.r o1.d o1.s o1.t).lookup ("followers" : Str) = none := rfl
              obtain ⟨ins, hins⟩ : ∃ ins, instrAt x.fs bs q = some ins := Option.ne_none_iff_exists'.mp (G1.w q hrq1)
              walk_at "go"
              refine ⟨o, q, rfl, hA17, fun z hz hz1 => ?_, fun h => (h ((I.mem q).mpr hrq)).elim⟩
              have hz2 : z.2.1 = some ins := by rw [I.ins z hz, hz1]; exact hins
              have ez : vOf z.2 = .ref z.2.2 := by unfold vOf; rw [hz2]; rfl
              have tz := hA17.ld.tp z hz ins hz2
              rw [ez]
              walk_at "go"
              refine ⟨o1, q, rfl, hB17, fun u hu hu1 => ?_, fun h => (h ((I1.mem q).mpr hrq1)).elim⟩
              have hu2 : u.2.1 = some ins := by rw [I1.ins u hu, hu1]; exact hins
              have eu : vOf u.2 = .ref u.2.2 := by unfold vOf; rw [hu2]; rfl
              have tu := hB17.ld.tp u hu ins hu2
              rw [eu]
              refine go_neTs (.of tz) (.of tu) ?_
              walk_at "go"
              refine ⟨o, q, x.fs, bs, rs, rfl, hA17, I, fun _ p1 hp1 => ?_, fun h => (h hrq).elim⟩
              walk_at "go"
              refine ⟨o1, q, x.fs, bs, one ++ other, rfl, hB17, I1, fun _ p2 hp2 => ?_, fun h => (h hrq1).elim⟩
              refine go_neTs (.of hp1) (.of hp2) ?_
              walk_at "go"
              exact ⟨_, rfl, e17⟩
            · rintro σ H17 ⟨y14, rfl, e17⟩
              walk_at "go"
              exact ⟨_, _, _, rfl, e16.ex e17⟩
          · rintro σ H16 ⟨y12, y13, y14, rfl, e16⟩
            have hA16 := hA1.ed0 e16
            have hx16 := hA16.ob
            have hD16 := e16.at0 hD15
            have h016 := e16.at0 h0
            have f1 := few_spots F r24 rbS (I1.few hA1) fun q hq => (I1.smem q).mp hq
            walk_at "go"
            refine ⟨o1, rfl, hA16, _, rfl, by omega, by omega, ?_⟩
            walk_at "go"
            rw [List.length_map]
            show Q (.bl (decide _)) H16
            rw [decide_eq_true rfl]
            exact k H16 (e15'.ex e16)
end

end My
namespace My
open PySem PySem.Spec PyProof.Rows L2
/-! ### what covers, told by the spots; programs alike, programs shifted -/
theorem covD_nil {fs : List FD} {bs roots : List Int} {o : ProgO} (I : ProgIs fs bs roots o) (a : Int) : covD fs bs o.spots a = [] ↔ ¬ Cov fs bs roots a := by
  unfold covD
  rw [List.filter_eq_nil_iff]
  constructor
  · rintro h ⟨p, r, h1, h2⟩
    exact h p ((I.smem p).mpr r) (by rw [decide_eq_true h1, decide_eq_true h2]; rfl)
  · intro h p hp z
    rw [Bool.and_eq_true] at z
    exact h ⟨p, (I.smem p).mp hp, of_decide_eq_true z.1, of_decide_eq_true z.2⟩
def rngI (n : Nat) : List Int := (List.range n).map fun i : Nat => (i : Int)
theorem rngI_mem {n : Nat} {a : Int} : a ∈ rngI n ↔ 0 ≤ a ∧ a < n := by
  unfold rngI
  rw [List.mem_map]
  constructor
  · rintro ⟨i, hi, rfl⟩
    have := List.mem_range.mp hi
    exact ⟨by omega, by omega⟩
  · rintro ⟨h0, h1⟩
    exact ⟨a.toNat, List.mem_range.mpr (by omega), by omega⟩
theorem rngI_snoc (n : Nat) : rngI (n + 1) = rngI n ++ [(n : Int)] := by unfold rngI; rw [List.range_succ, List.map_append]; rfl
theorem rngI_len (n : Nat) : (rngI n).length = n := by unfold rngI; rw [List.length_map, List.length_range]
/-- a covered address lies within -/
theorem cov_in {fs : List FD} {bs roots : List Int} (F : Fit fs bs) (W : Whole fs bs roots) {a : Int} (h : Cov fs bs roots a) : 0 ≤ a ∧ a < bs.length := by
  obtain ⟨p, r, h1, h2⟩ := h
  obtain ⟨f, hf, p0, p1, l1, _, _, hlen, _⟩ := whole_at F (W p r)
  rw [hlen] at h2
  exact ⟨by omega, by omega⟩
theorem cov_self {fs : List FD} {bs roots : List Int} (F : Fit fs bs) (W : Whole fs bs roots) {p : Int} (r : Rch fs bs roots p) : Cov fs bs roots p := by
  obtain ⟨f, hf, p0, p1, l1, _, _, hlen, _⟩ := whole_at F (W p r)
  exact ⟨p, r, Int.le_refl _, by rw [hlen]; omega⟩
theorem insD_eq {fs : List FD} {bs zs : List Int} {p q : Int} (h : instrAt fs zs q = instrAt fs bs p) : insD fs zs q = insD fs bs p := by unfold insD; rw [h]
/-- programs of alike bytes tell the same -/
theorem like_all {fs : List FD} {bs zs roots : List Int} {o o' : ProgO} {A : Ad} {K : PySem.W.Frag} {H H' : Hp} (F : Fit fs bs) (W : Whole fs bs roots) (same : ∀ a : Nat, Cov fs bs roots a → zs[a]? = bs[a]?) (I : ProgIs fs bs roots o) (J : ProgIs fs zs roots o') (hA : o.At A K H) (hB : o'.At A K H') :
    allOf fs zs 0 o'.spots = allOf fs bs 0 o.spots := by
  have es : o'.spots = o.spots := srt_eq J.ss I.ss (nodup_len (J.few hB) (I.few hA) fun q => by rw [J.smem, I.smem, like_iff F W same])
  rw [es]
  unfold allOf
  refine List.map_congr_left fun p hp => ?_
  obtain ⟨h1, h2⟩ := like_rch F W same ((I.smem p).mp hp)
  rw [insD_eq h1, h2]
theorem shift_spots {fs : List FD} {bs ahead roots : List Int} {o o' : ProgO} {A : Ad} {K : PySem.W.Frag} {H H' : Hp} (F : Fit fs bs) (W : Whole fs bs roots) (I : ProgIs fs bs roots o) (J : ProgIs fs (ahead ++ bs) (roots.map (· + (ahead.length : Int))) o') (hA : o.At A K H) (hB : o'.At A K H') :
    o'.spots = o.spots.map (· + (ahead.length : Int)) := by
  have nd : (o.spots.map (· + (ahead.length : Int))).Nodup := by
    refine List.Pairwise.map _ (fun a b (h : a ≠ b) z => h ?_) (I.few hA)
    have z : a + (ahead.length : Int) = b + ahead.length := z
    omega
  refine srt_eq J.ss (List.Pairwise.map _ (fun a b h => ?_) I.ss) (nodup_len (J.few hB) nd fun q => ?_)
  · show a + (ahead.length : Int) ≤ b + ahead.length
    omega
  · rw [J.smem, shift_iff F W]
    constructor
    · rintro ⟨p, hp, rfl⟩
      exact List.mem_map.mpr ⟨p, (I.smem p).mpr hp, rfl⟩
    · intro h
      obtain ⟨p, hp, rfl⟩ := List.mem_map.mp h
      exact ⟨p, (I.smem p).mp hp, rfl⟩
theorem shift_all {fs : List FD} {bs ahead roots : List Int} {o o' : ProgO} {A : Ad} {K : PySem.W.Frag} {H H' : Hp} (F : Fit fs bs) (W : Whole fs bs roots) (I : ProgIs fs bs roots o) (J : ProgIs fs (ahead ++ bs) (roots.map (· + (ahead.length : Int))) o') (hA : o.At A K H) (hB : o'.At A K H') :
    allOf fs (ahead ++ bs) ahead.length o'.spots = allOf fs bs 0 o.spots := by
  rw [shift_spots F W I J hA hB]
  unfold allOf
  rw [List.map_map]
  refine List.map_congr_left fun p hp => ?_
  obtain ⟨h1, h2⟩ := shift_at F ahead (W p ((I.smem p).mp hp))
  show (⟨p + (ahead.length : Int) - ahead.length, insD fs (ahead ++ bs) (p + ahead.length), (nextsAt fs (ahead ++ bs) (p + ahead.length)).map (· - (ahead.length : Int))⟩ : ARow) = ⟨p - 0, insD fs bs p, (nextsAt fs bs p).map (· - 0)⟩
  rw [insD_eq h1, h2, List.map_map]
  congr 1
  · omega
  · refine List.map_congr_left fun q _ => ?_
    show q + (ahead.length : Int) - ahead.length = q - 0
    omega
theorem shift_cov {fs : List FD} {bs ahead roots : List Int} {o o' : ProgO} {A : Ad} {K : PySem.W.Frag} {H H' : Hp} (F : Fit fs bs) (W : Whole fs bs roots) (I : ProgIs fs bs roots o) (J : ProgIs fs (ahead ++ bs) (roots.map (· + (ahead.length : Int))) o') (hA : o.At A K H) (hB : o'.At A K H') (a : Int) :
    covD fs (ahead ++ bs) o'.spots a = (covD fs bs o.spots (a - ahead.length)).map (· + (ahead.length : Int)) := by
  rw [shift_spots F W I J hA hB]
  unfold covD
  rw [List.filter_map]
  congr 1
  refine List.filter_congr fun p hp => ?_
  obtain ⟨h1, _⟩ := shift_at F ahead (W p ((I.smem p).mp hp))
  show (decide (p + (ahead.length : Int) ≤ a) && decide (a < p + ahead.length + ((insD fs (ahead ++ bs) (p + ahead.length)).length : Int))) = (decide (p ≤ a - ahead.length) && decide (a - ahead.length < p + ((insD fs bs p).length : Int)))
  rw [insD_eq h1]
  congr 1
  · exact decide_eq_decide.mpr ⟨fun h => by omega, fun h => by omega⟩
  · exact decide_eq_decide.mpr ⟨fun h => by omega, fun h => by omega⟩
theorem Way.rch_rest {fs : List FD} {bs roots : List Int} {q : Int} {ws : List Int} (w : Way fs bs roots q ws) {k : Nat} {x : Int} (hx : ws[k]? = some x) : Rch fs bs [x] q := by
  have lt : k < ws.length := (List.getElem?_eq_some_iff.mp hx).1
  have lvx : ∀ (i : Nat) (y : Int), ws[k + i]? = some y → Rch fs bs [x] y := by
    intro i
    induction i with
    | zero =>
      intro y hy
      rw [Nat.add_zero, hx] at hy
      cases hy
      exact .root (List.mem_singleton.mpr rfl)
    | succ i ih =>
      intro y hy
      have l : k + (i + 1) < ws.length := (List.getElem?_eq_some_iff.mp hy).1
      have h0 : ws[k + i]? = some ws[k + i] := List.getElem?_eq_getElem (by omega)
      exact .next (ih _ h0) (w.st (k + i) _ _ h0 hy)
  exact lvx (ws.length - 1 - k) q (by rw [show k + (ws.length - 1 - k) = ws.length - 1 by omega]; exact w.tl)

end My
namespace My
open PySem PySem.Spec PyProof.Rows L2
/-! ### other bytes where nothing is covered -/
structure Kept (A : Ad) (K : PySem.W.Frag) (H : Hp) (x : CodeO) (v r : Addr) (bs roots : List Int) (o : ProgO) : Prop where
  X : x.At A H
  ok : x.Ok
  v : H v = some (.lst (bs.map V.int))
  F : Fit x.fs bs
  r : H r = some (.lst (roots.map V.int))
  l1 : 1 ≤ roots.length
  l3 : roots.length ≤ 3
  rb : ∀ y ∈ roots, -3 ≤ y ∧ y ≤ bs.length + 2
  w : Whole x.fs bs roots
  a : o.At A K H
  i : ProgIs x.fs bs roots o
theorem Kept.ed0 {A : Ad} {K : PySem.W.Frag} {H H' : Hp} {x v r bs roots o} (e : Vc.Ed [] H H') (h : Kept A K H x v r bs roots o) : Kept A K H' x v r bs roots o :=
  ⟨h.X.ed0 e, h.ok, e.at0 h.v, h.F, e.at0 h.r, h.l1, h.l3, h.rb, h.w, h.a.ed0 e, h.i⟩
theorem ProgO.At.pen {A : Ad} {K : PySem.W.Frag} {H H' : Hp} {o : ProgO} {b c : Addr} {n : Nat} (e : Vc.Ed [b] H H') (B : Pen H b c n) (h : o.At A K H) : o.At A K H' := by
  obtain ⟨y, a, r, hb⟩ := B.lst
  refine h.ed e (fun z => ?_) (fun z => ?_) (fun z => B.ne_ints h.sp (List.mem_singleton.mp z)) (fun z => ?_)
  · have := h.ob; rw [List.mem_singleton.mp z, hb] at this; cases this
  · have := h.ld.ob; rw [List.mem_singleton.mp z, hb] at this; cases this
  · have := h.fw; rw [List.mem_singleton.mp z, hb] at this; cases this
theorem Kept.pen {A : Ad} {K : PySem.W.Frag} {H H' : Hp} {x v r bs roots o} {b c : Addr} {n : Nat} (e : Vc.Ed [b] H H') (B : Pen H b c n) (h : Kept A K H x v r bs roots o) : Kept A K H' x v r bs roots o :=
  ⟨h.X.pen e B, h.ok, e.at1 (B.ne_ints h.v) h.v, h.F, e.at1 (B.ne_ints h.r) h.r, h.l1, h.l3, h.rb, h.w, h.a.pen e B, h.i⟩
/-- a change of what was not there -/
theorem Kept.new {A : Ad} {K : PySem.W.Frag} {H0 H H' : Hp} {x v r bs roots o} {q : Addr} (e : Vc.Ed [q] H H') (n : H0 q = none) (h0 : Kept A K H0 x v r bs roots o) (h : Kept A K H x v r bs roots o) : Kept A K H' x v r bs roots o := by
  have ne : ∀ {z : Addr} {u : HO}, H0 z = some u → z ∉ [q] := fun h z => ne_of_none h n (List.mem_singleton.mp z)
  have ne' : ∀ {z : Addr} {u : HO}, H0 z = some u → z ≠ q := fun h => ne_of_none h n
  exact ⟨CodeO.At.new e n h0.X h.X, h.ok, e.at1 (ne' h0.v) h.v, h.F, e.at1 (ne' h0.r) h.r, h.l1, h.l3, h.rb, h.w, h.a.ed e (ne h0.a.ob) (ne h0.a.ld.ob) (ne h0.a.sp) (ne h0.a.fw), h.i⟩
def spBytes (A : Ad) (K : PySem.W.Frag) : Sp := fun vs H Q _ => ∃ (b c : Addr) (n : Nat) (v r : Addr) (x : CodeO) (bs roots : List Int) (o : ProgO), vs = [.ref b, .ref x.c, .ref v, .ref r, .ref o.p] ∧ Pen H b c n ∧ n + 30 ≤ LIM ∧ Kept A K H x v r bs roots o ∧ ∀ H', Vc.Ed [b] H H' → Pen H' b c (n + 30) → Q (.bl true) H'
theorem rngI_filter (P : Int → Bool) (i : Nat) : (rngI (i + 1)).filter P = (rngI i).filter P ++ (if P i = true then [(i : Int)] else []) := by
  rw [rngI_snoc, List.filter_append, List.filter_cons, List.filter_nil]
theorem rngI_flen (P : Int → Bool) (i : Nat) : ((rngI i).filter P).length ≤ i := by
  have := List.length_filter_le P (rngI i)
  rwa [rngI_len] at this
theorem cut_upto {ns : List Int} {m : Int} (h : 0 ≤ m) : cutV (ns.map V.int) none (some (m + 1)) = (ns.take (m.toNat + 1)).map V.int := by
  rw [show m + 1 = ((m.toNat + 1 : Nat) : Int) by omega, Vc.cut_take, List.map_take]
theorem take_upto {ns : List Int} {m a : Nat} (h : a ≤ m) : (ns.take (m + 1))[a]? = ns[a]? := List.getElem?_take_of_lt (by omega)
section
variable {w : World} {K : PySem.W.Frag} {mg : Str → Option Value} {base : Heap} {A : Ad}
theorem ok__law_bytes_right (T : Txt K mg A) : FnOk PG w K mg base CX0 9 A.f__law_bytes_right A.d__law_bytes_right ["_law_pen_here", "_law_coding", "_law_values_here", "_law_roots_here", "_law_made_here"] (spBytes A K) := by
  have G__law_made := ok__law_made (w := w) (base := base) T
  have G__law_all := ok__law_all (w := w) (base := base) T
  have G__law_draw := ok__law_draw (P := PG) (w := w) (base := base) T
  have G_Program_covers := ok_Program_covers (w := w) (base := base) T
  refine T.F__law_bytes_right.ok sc__law_bytes_right (fun vs H Q E h => ?_) (fun cdv Ar outer s H vs Q E hr h => ?_)
  · obtain ⟨b, c, n, v, r, x, bs, roots, o, rfl, _⟩ := h
    rfl
  · obtain ⟨b, c, n, v, r, x, bs, roots, o, rfl, hB, nl, hK, k⟩ := h
    have hu := hu_of hr
    have bl := hK.F.len
    have hv := hK.v
    have lk : (progF o.r o.d o.s o.t).lookup ("covers" : Str) = none := rfl
    refine ⟨_, (pss_cons (ps_set (i := 5) sc__law_bytes_right.nd rfl (Or.inr rfl) (pe_lc (own := [("_law_spot", 7)]) (g := gName 7) rfl sc__law_bytes_right.nd (pi_range1 (by rfl) T.n_range (pa_cons (pe_callB call_len_seq (by rfl) T.n_len (by decide +kernel) (pa_cons (pv 2) pa_nil)) pa_nil)) (blkOk_by (own := [("_law_spot", 7)]) (N := ["_law_pen_here", "_law_coding", "_law_values_here", "_law_roots_here", "_law_made_here", "_law_blank", "_law_other", "_law_spot", "_law_last", "_law_row", "_law_found", "_law_place"]) (sc := defScope s__law_bytes_right) (by decide +kernel)) (fun _ _ _ _ _ => by exact (pg_name (i := 7) sc__law_bytes_right.nd rfl (Or.inl rfl))) (fun _ _ _ _ _ => by (refine' Vc.blkT ?h ?q; (case h => exact pts_one (pt_cmpR (op_eqD (by exact hr.units)) (pe_meth (pv 4) T.cl_Program T.m_Program_covers G_Program_covers (by exact hr.mono (by decide)) T.b_Program_covers .nil pass0 (pa_cons (pv 7) pa_nil)) (pe_lst pa_nil) (nomark _))); (case q => first | exact rfl | (dsimp only; done) | (dsimp only; exact rfl)))) (fun _ _ _ _ _ => by (refine' Vc.blkE ?h ?q; (case h => exact (pv 7)); (case q => first | exact rfl | (dsimp only; done) | (dsimp only; exact rfl)))))) (pss_cons (ps_set (i := 6) sc__law_bytes_right.nd rfl (Or.inl rfl) (pe_callTy Vc.call_lstD (by rfl) T.n_list (by decide +kernel) (pa_cons (pv 2) pa_nil))) (pss_cons (ps_for PassesOwn.never rfl (pi_list (pv 5)) (pg_name (i := 7) sc__law_bytes_right.nd rfl (Or.inl rfl)) (pss_one (ps_asg (pe_call G__law_draw (by exact hr.mono (by decide)) (by rfl) T.g__law_draw T.F__law_draw.kp T.b__law_draw .nil pass0 (pa_cons (pv 0) (pa_cons pe_int pa_nil))) (pg_sub (pv 6) (pv 7) set_list)))) (pss_cons (ps_set (i := 8) sc__law_bytes_right.nd rfl (Or.inl rfl) (pe_callB (cr_max rfl) (by rfl) T.n_max (by decide +kernel) (pa_cons (pe_lc (own := [("_law_spot", 7)]) (g := gName 7) rfl sc__law_bytes_right.nd (pi_range1 (by rfl) T.n_range (pa_cons (pe_callB call_len_seq (by rfl) T.n_len (by decide +kernel) (pa_cons (pv 2) pa_nil)) pa_nil)) (blkOk_by (own := [("_law_spot", 7)]) (N := ["_law_pen_here", "_law_coding", "_law_values_here", "_law_roots_here", "_law_made_here", "_law_blank", "_law_other", "_law_spot", "_law_last", "_law_row", "_law_found", "_law_place"]) (sc := defScope s__law_bytes_right) (by decide +kernel)) (fun _ _ _ _ _ => by exact (pg_name (i := 7) sc__law_bytes_right.nd rfl (Or.inl rfl))) (fun _ _ _ _ _ => by (refine' Vc.blkT ?h ?q; (case h => exact pts_one (pt_cmpR op_notIn_seq (pv 7) (pv 5) (by rfl))); (case q => first | exact rfl | (dsimp only; done) | (dsimp only; exact rfl)))) (fun _ _ _ _ _ => by (refine' Vc.blkE ?h ?q; (case h => exact (pv 7)); (case q => first | exact rfl | (dsimp only; done) | (dsimp only; exact rfl))))) pa_nil))) (pss_cons (ps_for PassesOwn.never rfl (pi_tup (pe_tup (pa_cons (pv 6) (pa_cons (pe_slice sl_list (pv 2) po_none (po_some (pe_op op_add (pv 8) pe_int))) (pa_cons (pe_slice sl_list (pv 6) po_none (po_some (pe_op op_add (pv 8) pe_int))) pa_nil))))) (pg_name (i := 9) sc__law_bytes_right.nd rfl (Or.inl rfl)) (pss_cons (ps_asg (pe_call G__law_made (by exact hr.mono (by decide)) (by rfl) T.g__law_made T.F__law_made.kp T.b__law_made .nil pass0 (pa_cons (pv 1) (pa_cons (pv 9) (pa_cons (pv 3) pa_nil)))) (pg_tup rfl (pgs_cons (pg_name (i := 10) sc__law_bytes_right.nd rfl (Or.inl rfl)) (pgs_cons (pg_name (i := 11) sc__law_bytes_right.nd rfl (Or.inl rfl)) pgs_nil)))) (pss_one (ps_if (PW.pt (pw_or (pt_cmpR op_isN (pv 10) pe_non (nomark _)) (pw_or1 (pt_cmpR (op_neD (by exact hr.units)) (pe_call G__law_all (by exact hr.mono (by decide)) (by rfl) T.g__law_all T.F__law_all.kp T.b__law_all .nil pass0 (pa_cons (pv 10) (pa_cons pe_int pa_nil))) (pe_call G__law_all (by exact hr.mono (by decide)) (by rfl) T.g__law_all T.F__law_all.kp T.b__law_all .nil pass0 (pa_cons (pv 4) (pa_cons pe_int pa_nil))) (nomark _))))) (pss_one (ps_ret pe_bl)) pss_nil)))) (pss_one (ps_ret pe_bl))))))), ?_⟩
    walk_at "go"
    rw [List.length_map]
    refine ⟨by omega, by omega, Vc.lc_by (walk_range (lo := 0)) (fun D i H' => Vc.Ed [] H H' ∧ H' D = some (.lst (((rngI i).filter fun a => decide (covD x.fs bs o.spots a = [])).map V.int))) (fun D H1 nD e1 hD => ⟨e1, hD⟩) (fun _ _ _ _ _ _ => trivial) ?_ ?_⟩
    · rintro D i y H1 H2 nD hi ⟨e1, hD⟩ ⟨rfl, rfl⟩
      have hA := hK.a.ed0 e1
      have hx1 := hA.ob
      walk_at "go"
      refine ⟨rfl, ?_⟩
      walk_at "go"
      refine ⟨o, 0 + (i : Int), x.fs, bs, roots, rfl, hA, hK.i, hK.w, fun C H3 nC e3 hC => ?_⟩
      walk_at "go"
      intro M nM
      generalize hu4 : upd _ M _ = H4
      obtain ⟨e4, hM⟩ := Vc.alloc hu4 nM
      have hD4 := e4.at0 (e3.at0 hD)
      refine go_eqLs (ns := covD x.fs bs o.spots (0 + (i : Int))) (ms := []) (.of (e4.at0 hC)) (.of hM) ?_
      have ei : (0 : Int) + (i : Int) = i := by omega
      have rf := rngI_filter (fun a => decide (covD x.fs bs o.spots a = [])) i
      have rl := rngI_flen (fun a => decide (covD x.fs bs o.spots a = [])) i
      have e14 : Vc.Ed [] H H4 := (e1.ex e3).ex e4
      walk_at "go"
      refine Vc.go_ite (c := covD x.fs bs o.spots (0 + (i : Int)) = []) (fun h1 => ?_) (fun h1 => ?_)
      · rw [ei] at h1
        walk_at "go"
        refine ⟨_, hD4, by rw [List.length_map]; exact small1000 (by omega), ?_⟩
        generalize hu5 : upd _ D _ = H5
        obtain ⟨e5, hD5⟩ := Vc.chg hu5 hD4
        refine ⟨e14.one e5 (.inr nD), ?_⟩
        rw [rf, if_pos (decide_eq_true h1), List.map_append, ← ei]; exact hD5
      · rw [ei] at h1
        walk_at "go"
        refine ⟨e14, ?_⟩
        rw [rf, if_neg (fun z => h1 (of_decide_eq_true z)), List.append_nil]; exact hD4
    · rintro D H1 nD ⟨e1, hD⟩
      have hD : H1 D = some (.lst (((rngI bs.length).filter fun a => decide (covD x.fs bs o.spots a = [])).map V.int)) := hD
      have blm : ∀ a, a ∈ (rngI bs.length).filter (fun a => decide (covD x.fs bs o.spots a = [])) ↔ (0 ≤ a ∧ a < bs.length) ∧ ¬ Cov x.fs bs roots a := fun a => by
        rw [List.mem_filter, rngI_mem, decide_eq_true_iff, covD_nil hK.i]
      have bll := rngI_flen (fun a => decide (covD x.fs bs o.spots a = [])) bs.length
      generalize (rngI bs.length).filter (fun a => decide (covD x.fs bs o.spots a = [])) = blank at hD blm bll
      have hB1 := hB.ed0 e1
      have hK1 := hK.ed0 e1
      have hv1 := hK1.v
      have nDb := hB.fb nD
      clear hB hv
      walk_at "go"
      intro O nO
      generalize hu2 : upd _ O _ = H2
      obtain ⟨e2, hO⟩ := Vc.alloc hu2 nO
      have hB2 := hB1.ed0 e2
      have hK2 := hK1.ed0 e2
      have nOb := hB1.fb nO
      have nOD : O ≠ D := fun z => by rw [z, hD] at nO; cases nO
      have hD2 := e2.at0 hD
      have nO0 : H O = none := e1.dom _ nO
      have e2' : Vc.Ed [b] H H2 := (e1.ex e2).mono fun _ z => nomatch z
      clear hD hu2 e1 e2 hB1 hK1 hv1 nO
      walk_at "go"
      refine ⟨⟨_, .of hD2⟩, for_list (xs := blank.map V.int) (fun i σ H' => ∃ (ws : List Int) (y7 : Option V), σ = [some (.ref b), some (.ref x.c), some (.ref v), some (.ref r), some (.ref o.p), some (.ref D), some (.ref O), y7, none, none, none, none] ∧ Vc.Ed [b] H H' ∧ Pen H' b c (n + i) ∧ Kept A K H' x v r bs roots o ∧ H' D = some (.lst (blank.map V.int)) ∧ H' O = some (.lst (ws.map V.int)) ∧ ws.length = bs.length ∧ (∀ z ∈ ws, 0 ≤ z ∧ z ≤ 255) ∧ ∀ a : Nat, Cov x.fs bs roots a → ws[a]? = bs[a]?) ⟨bs, none, rfl, e2', hB2, hK2, hD2, hO, rfl, hK.F.by_, fun _ _ => rfl⟩ (fun i σ H' _ ⟨_, _, _, _, _, _, h, _⟩ => .of h) ?_ ?_⟩
      · clear e2' hB2 hK2 hD2 hO
        rintro i y σ H3 hi ⟨ws, y7, rfl, e3, hB3, hK3, hD3, hO3, wl, wb, wc⟩
        rw [List.getElem?_map] at hi
        obtain ⟨a, ha, rfl⟩ := Option.map_eq_some_iff.mp hi
        have hil : i < blank.length := (List.getElem?_eq_some_iff.mp ha).1
        obtain ⟨⟨a0, a1⟩, nc⟩ := (blm a).mp (List.mem_of_getElem? ha)
        walk_at "go"
        refine ⟨b, c, _, 256, rfl, hB3, by omega, by omega, by omega, fun z H4 z0 z1 e4 hB4 => ?_⟩
        have hO4 := e4.at1 nOb.1.symm hO3
        have hD4 := e4.at1 nDb.1.symm hD3
        have hK4 := hK3.pen e4 hB3
        walk_at "go"
        refine Vc.go_setL hO4 (j := a.toNat) ?_ ?_
        · unfold ixN
          rw [List.length_map, if_pos (by omega), if_pos (by omega)]
        generalize hu5 : upd _ O _ = H5
        obtain ⟨e5, hO5⟩ := Vc.chg hu5 hO4
        rw [show (ws.map V.int).set a.toNat (.int z) = (ws.set a.toNat z).map V.int from (List.map_set ..).symm] at hO5
        refine ⟨ws.set a.toNat z, _, rfl, (e3.one e4 (.inl (by simp))).one e5 (.inr nO0), hB4.ed1 e5 nOb.1 nOb.2, hK.new e5 nO0 hK4, e5.at1 nOD.symm hD4, hO5, by rw [List.length_set]; exact wl, fun y hy => ?_, fun a' ca => ?_⟩
        · rcases List.mem_or_eq_of_mem_set hy with h | h
          · exact wb y h
          · rw [h]; exact ⟨z0, by omega⟩
        · rw [List.getElem?_set_ne, wc a' ca]
          intro z
          refine nc ?_
          rw [show a = (a' : Int) by omega]; exact ca
      · rintro σ H3 ⟨ws, y7, rfl, e3, hB3, hK3, hD3, hO3, wl, wb, wc⟩
        clear e2' hB2 hK2 hD2 hO
        have hv3 := hK3.v
        rw [List.length_map] at hB3
        have fb := flat_ints blank
        have e3O : Vc.Ed [b] H H3 := e3
        walk_at "go"
        rw [List.length_map]
        refine ⟨by omega, by omega, Vc.lc_by (walk_range (lo := 0)) (fun Z i H' => Vc.Ed [] H3 H' ∧ H' Z = some (.lst (((rngI i).filter fun a => decide (a ∉ blank)).map V.int))) (fun Z H4 nZ e4 hZ => ⟨e4, hZ⟩) (fun _ _ _ _ _ _ => trivial) ?_ ?_⟩
        · rintro Z i y H4 H5 nZ hi ⟨e4, hZ⟩ ⟨rfl, rfl⟩
          have hD5 := e4.at0 hD3
          have ei : (0 : Int) + (i : Int) = i := by omega
          have rf := rngI_filter (fun a => decide (a ∉ blank)) i
          have rl := rngI_flen (fun a => decide (a ∉ blank)) i
          walk_at "go"
          refine ⟨rfl, ?_⟩
          walk_at "go"
          rw [inV_ints, ei]
          refine Vc.go_iten (fun h1 => ?_) (fun h1 => ?_)
          · walk_at "go"
            refine ⟨_, hZ, by rw [List.length_map]; exact small1000 (by omega), ?_⟩
            generalize hu6 : upd _ Z _ = H6
            obtain ⟨e6, hZ6⟩ := Vc.chg hu6 hZ
            refine ⟨e4.one e6 (.inr nZ), ?_⟩
            rw [rf, if_pos (decide_eq_true h1), List.map_append, ← ei]; exact hZ6
          · walk_at "go"
            refine ⟨e4, ?_⟩
            rw [rf, if_neg (fun z => (of_decide_eq_true z) h1), List.append_nil]; exact hZ
        · rintro Z H4 nZ ⟨e4, hZ⟩
          have hZ : H4 Z = some (.lst (((rngI bs.length).filter fun a => decide (a ∉ blank)).map V.int)) := hZ
          have lvm : ∀ a, a ∈ (rngI bs.length).filter (fun a => decide (a ∉ blank)) ↔ Cov x.fs bs roots a := fun a => by
            rw [List.mem_filter, rngI_mem, decide_eq_true_iff, blm]
            constructor
            · rintro ⟨h1, h2⟩
              exact Classical.byContradiction fun z => h2 ⟨h1, z⟩
            · exact fun h => ⟨cov_in hK.F hK.w h, fun z => z.2 h⟩
          generalize (rngI bs.length).filter (fun a => decide (a ∉ blank)) = lv at hZ lvm
          obtain ⟨r0, hr0⟩ : ∃ r0, r0 ∈ roots := by
            cases hc : roots with
            | nil => have := hK.l1; rw [hc] at this; exact absurd this (by decide)
            | cons a q => exact ⟨a, List.mem_cons_self⟩
          have lne : 0 < lv.length := List.length_pos_of_mem ((lvm r0).mpr (cov_self hK.F hK.w (.root hr0)))
          walk_at "go"
          refine ⟨Z, lv, rfl, .of hZ, lne, fun m hm hmx => ?_⟩
          have cm := (lvm m).mp hm
          obtain ⟨m0, m1⟩ := cov_in hK.F hK.w cm
          have cle : ∀ a : Int, Cov x.fs bs roots a → a ≤ m := fun a h => hmx a ((lvm a).mpr h)
          have hO4 := e4.at0 hO3
          have hv4 := e4.at0 hv3
          have hK4 := hK3.ed0 e4
          have hB4 := hB3.ed0 e4
          have e4' : Vc.Ed [b] H H4 := e3.ex e4
          clear hZ hD3 hO3 hv3 hK3 hB3 e3 e3O e4
          walk_at "go"
          intro q1 nq1
          generalize hu5 : upd _ q1 _ = H5
          obtain ⟨e5, hq1⟩ := Vc.alloc hu5 nq1
          rw [cut_upto m0] at hq1
          have hO5 := e5.at0 hO4
          walk_at "go"
          intro q2 nq2
          generalize hu6 : upd _ q2 _ = H6
          obtain ⟨e6, hq2⟩ := Vc.alloc hu6 nq2
          rw [cut_upto m0] at hq2
          walk_at "go"
          intro tr ntr
          generalize hu7 : upd _ tr _ = H7
          obtain ⟨e7, htr⟩ := Vc.alloc hu7 ntr
          have e47 : Vc.Ed [] H4 H7 := (e5.ex e6).ex e7
          have hO7 := e7.at0 (e6.at0 hO5)
          have hq1' := e7.at0 (e6.at0 hq1)
          have hq2' := e7.at0 hq2
          have hK7 := hK4.ed0 e47
          have hB7 := hB4.ed0 e47
          have e7' : Vc.Ed [b] H H7 := e4'.ex e47
          clear hq1 hq2 hO4 hO5 hv4 hK4 hB4 e4' e5 e6 e7 e47 hu5 hu6 hu7
          walk_at "go"
          refine ⟨⟨_, .of htr⟩, for_tup (xs := [.ref O, .ref q1, .ref q2]) (fun i σ H' => ∃ y9 y10 y11 : Option V, σ = [some (.ref b), some (.ref x.c), some (.ref v), some (.ref r), some (.ref o.p), some (.ref D), some (.ref O), y7, some (.int m), y9, y10, y11] ∧ Vc.Ed [] H7 H') ⟨_, _, _, rfl, .refl⟩ (fun i σ H' _ ⟨_, _, _, _, e⟩ => .of (e.tup _ _ htr)) ?_ ?_⟩
          · rintro i y σ H8 hy ⟨y9, y10, y11, rfl, e8⟩
            obtain ⟨R, zs, rfl, hR, zl, zb, zc⟩ : ∃ (R : Addr) (zs : List Int), y = .ref R ∧ H8 R = some (.lst (zs.map V.int)) ∧ zs.length ≤ 24 ∧ (∀ z ∈ zs, 0 ≤ z ∧ z ≤ 255) ∧ ∀ a : Nat, Cov x.fs bs roots a → zs[a]? = bs[a]? := by
              have hi : i < 3 := (List.getElem?_eq_some_iff.mp hy).1
              have : i = 0 ∨ i = 1 ∨ i = 2 := by omega
              rcases this with rfl | rfl | rfl <;> cases hy
              · exact ⟨O, ws, rfl, e8.at0 hO7, by omega, wb, wc⟩
              · exact ⟨q1, bs.take (m.toNat + 1), rfl, e8.at0 hq1', by rw [List.length_take]; omega, fun z hz => hK.F.by_ z (List.mem_of_mem_take hz), fun a ca => take_upto (by have := cle a ca; omega)⟩
              · exact ⟨q2, ws.take (m.toNat + 1), rfl, e8.at0 hq2', by rw [List.length_take]; omega, fun z hz => wb z (List.mem_of_mem_take hz), fun a ca => by rw [take_upto (by have := cle a ca; omega)]; exact wc a ca⟩
            have hK8 := hK7.ed0 e8
            have Fz : Fit x.fs zs := ⟨hK.F.ok, zb, zl⟩
            have Wz := like_whole hK.F hK.w zc
            have rz : ∀ y ∈ roots, -3 ≤ y ∧ y ≤ zs.length + 2 := fun y hy => by
              have cy := cov_self hK.F hK.w (.root hy)
              obtain ⟨y0, y1⟩ := cov_in hK.F hK.w cy
              have e := zc y.toNat (by rw [show ((y.toNat : Nat) : Int) = y by omega]; exact cy)
              rw [List.getElem?_eq_getElem (show y.toNat < bs.length by omega)] at e
              have := (List.getElem?_eq_some_iff.mp e).1
              omega
            walk_at "go"
            refine ⟨R, r, x, zs, roots, rfl, hK8.X, hK8.ok, hR, Fz, hK8.r, hK8.l1, by have := hK8.l3; omega, rz, fun mo bo t H9 e9 Rs ht => ?_⟩
            refine ⟨t, _, rfl, .of ht, rfl, _, _, rfl, ?_⟩
            walk_at "go"
            refine ⟨_, _, rfl, ?_⟩
            walk_at "go"
            refine ⟨rfl, ?_⟩
            rcases Rs with ⟨_, _, _, L⟩ | ⟨o', rfl, rfl, G⟩
            · exact (L.not_whole Wz).elim
            rw [show oP (some o') = V.ref o'.p from rfl]
            walk_at "go"
            refine ⟨o', 0, x.fs, zs, roots, rfl, G.a, G.i, G.w, fun L1 H10 nL1 e10 hL1 => ?_⟩
            walk_at "go"
            refine ⟨o, 0, x.fs, bs, roots, rfl, (hK8.a.ed0 e9).ed0 e10, hK.i, hK.w, fun L2 H11 nL2 e11 hL2 => ?_⟩
            rw [like_all hK.F hK.w zc hK.i G.i hK8.a G.a] at hL1
            refine go_neAll (Vc.Dp.ed0 e11 hL1) hL2 ?_
            walk_at "go"
            exact ⟨_, _, _, rfl, e8.ex ((e9.ex e10).ex e11)⟩
          · rintro σ H8 ⟨y9, y10, y11, rfl, e8⟩
            walk_at "go"
            exact k H8 (e7'.ex e8) ((hB7.ed0 e8).up (by omega))
end

end My
namespace My
open PySem PySem.Spec PyProof.Rows L2
/-! ### bytes ahead; the rest of a way -/
def spWays (A : Ad) (K : PySem.W.Frag) : Sp := fun vs H Q _ => ∃ (b c : Addr) (n : Nat) (v r : Addr) (x : CodeO) (bs roots : List Int) (o : ProgO), vs = [.ref b, .ref x.c, .ref v, .ref o.p] ∧ Pen H b c n ∧ n + 30 ≤ LIM ∧ Kept A K H x v r bs roots o ∧ ∀ H', Vc.Ed [b] H H' → Pen H' b c (n + 30) → Q (.bl true) H'
section
variable {w : World} {K : PySem.W.Frag} {mg : Str → Option Value} {base : Heap} {A : Ad}
theorem ok__law_later_right (T : Txt K mg A) : FnOk PG w K mg base CX0 9 A.f__law_later_right A.d__law_later_right ["_law_pen_here", "_law_coding", "_law_values_here", "_law_roots_here", "_law_made_here"] (spBytes A K) := by
  have G__law_made := ok__law_made (w := w) (base := base) T
  have G__law_all := ok__law_all (w := w) (base := base) T
  have G__law_draw := ok__law_draw (P := PG) (w := w) (base := base) T
  have G_Program_covers := ok_Program_covers (w := w) (base := base) T
  refine T.F__law_later_right.ok sc__law_later_right (fun vs H Q E h => ?_) (fun cdv Ar outer s H vs Q E hr h => ?_)
  · obtain ⟨b, c, n, v, r, x, bs, roots, o, rfl, _⟩ := h
    rfl
  · obtain ⟨b, c, n, v, r, x, bs, roots, o, rfl, hB, nl, hK, k⟩ := h
    have hu := hu_of hr
    have bl := hK.F.len
    have hv := hK.v
    have lk : (progF o.r o.d o.s o.t).lookup ("covers" : Str) = none := rfl
    refine ⟨_, (pss_cons (ps_set (i := 5) sc__law_later_right.nd rfl (Or.inr rfl) (pe_call G__law_draw (by exact hr.mono (by decide)) (by rfl) T.g__law_draw T.F__law_draw.kp T.b__law_draw .nil pass0 (pa_cons (pv 0) (pa_cons (pe_op op_sub pe_int (pe_callB call_len_seq (by rfl) T.n_len (by decide +kernel) (pa_cons (pv 2) pa_nil))) pa_nil)))) (pss_cons (ps_setLc (i := 6) (own := [("_law_k", 11)]) (g := gName 11) rfl sc__law_later_right.nd rfl rfl (sw_true rfl rfl rfl (by decide +kernel)) (pi_range1 (by rfl) T.n_range (pa_cons (pv 5) pa_nil)) (blkOk_by (own := [("_law_k", 11)]) (N := ["_law_pen_here", "_law_coding", "_law_values_here", "_law_roots_here", "_law_made_here", "_law_many", "_law_ahead", "_law_found", "_law_place", "_law_address", "_law_due", "_law_k", "_law_root", "_law_spot"]) (sc := defScope s__law_later_right) (by decide +kernel)) (fun _ _ _ _ _ => by exact (pg_name (i := 11) sc__law_later_right.nd rfl (Or.inl rfl))) (fun _ _ _ _ _ => by exact pts_nil) (fun _ _ _ _ _ => by (refine' Vc.blkE ?h ?q; (case h => exact (pe_call G__law_draw (by exact hr.mono (by decide)) (by rfl) T.g__law_draw T.F__law_draw.kp T.b__law_draw .nil pass0 (pa_cons (pv 0) (pa_cons pe_int pa_nil)))); (case q => first | exact rfl | (dsimp only; done) | (dsimp only; exact rfl))))) (pss_cons (ps_asg (pe_call G__law_made (by exact hr.mono (by decide)) (by rfl) T.g__law_made T.F__law_made.kp T.b__law_made .nil pass0 (pa_cons (pv 1) (pa_cons (pe_op op_cat (pv 6) (pv 2)) (pa_cons (pe_lc (own := [("_law_root", 12)]) (g := gName 12) rfl sc__law_later_right.nd (pi_list (pv 3)) (blkOk_by (own := [("_law_root", 12)]) (N := ["_law_pen_here", "_law_coding", "_law_values_here", "_law_roots_here", "_law_made_here", "_law_many", "_law_ahead", "_law_found", "_law_place", "_law_address", "_law_due", "_law_k", "_law_root", "_law_spot"]) (sc := defScope s__law_later_right) (by decide +kernel)) (fun _ _ _ _ _ => by exact (pg_name (i := 12) sc__law_later_right.nd rfl (Or.inl rfl))) (fun _ _ _ _ _ => by exact pts_nil) (fun _ _ _ _ _ => by (refine' Vc.blkE ?h ?q; (case h => exact (pe_op op_add (pv 12) (pv 5))); (case q => first | exact rfl | (dsimp only; done) | (dsimp only; exact rfl))))) pa_nil)))) (pg_tup rfl (pgs_cons (pg_name (i := 7) sc__law_later_right.nd rfl (Or.inl rfl)) (pgs_cons (pg_name (i := 8) sc__law_later_right.nd rfl (Or.inl rfl)) pgs_nil)))) (pss_cons (ps_if (PW.pt (pw_or (pt_cmpR op_isN (pv 7) pe_non (nomark _)) (pw_or1 (pt_cmpR (op_neD (by exact hr.units)) (pe_call G__law_all (by exact hr.mono (by decide)) (by rfl) T.g__law_all T.F__law_all.kp T.b__law_all .nil pass0 (pa_cons (pv 7) (pa_cons (pv 5) pa_nil))) (pe_call G__law_all (by exact hr.mono (by decide)) (by rfl) T.g__law_all T.F__law_all.kp T.b__law_all .nil pass0 (pa_cons (pv 4) (pa_cons pe_int pa_nil))) (nomark _))))) (pss_one (ps_ret pe_bl)) pss_nil) (pss_cons (ps_for PassesOwn.never rfl (pi_range1 (by rfl) T.n_range (pa_cons (pe_op op_add (pv 5) (pe_callB call_len_seq (by rfl) T.n_len (by decide +kernel) (pa_cons (pv 2) pa_nil))) pa_nil)) (pg_name (i := 9) sc__law_later_right.nd rfl (Or.inl rfl)) (pss_cons (ps_setLc (i := 10) (own := [("_law_spot", 13)]) (g := gName 13) rfl sc__law_later_right.nd rfl rfl (sw_true rfl rfl rfl (by decide +kernel)) (pi_list (pe_meth (pv 4) T.cl_Program T.m_Program_covers G_Program_covers (by exact hr.mono (by decide)) T.b_Program_covers .nil pass0 (pa_cons (pe_op op_sub (pv 9) (pv 5)) pa_nil))) (blkOk_by (own := [("_law_spot", 13)]) (N := ["_law_pen_here", "_law_coding", "_law_values_here", "_law_roots_here", "_law_made_here", "_law_many", "_law_ahead", "_law_found", "_law_place", "_law_address", "_law_due", "_law_k", "_law_root", "_law_spot"]) (sc := defScope s__law_later_right) (by decide +kernel)) (fun _ _ _ _ _ => by exact (pg_name (i := 13) sc__law_later_right.nd rfl (Or.inl rfl))) (fun _ _ _ _ _ => by exact pts_nil) (fun _ _ _ _ _ => by (refine' Vc.blkE ?h ?q; (case h => exact (pe_op op_add (pv 13) (pv 5))); (case q => first | exact rfl | (dsimp only; done) | (dsimp only; exact rfl))))) (pss_one (ps_if (pt_cmpR (op_neD (by exact hr.units)) (pe_meth (pv 7) T.cl_Program T.m_Program_covers G_Program_covers (by exact hr.mono (by decide)) T.b_Program_covers .nil pass0 (pa_cons (pv 9) pa_nil)) (pv 10) (nomark _)) (pss_one (ps_ret pe_bl)) pss_nil)))) (pss_one (ps_ret pe_bl))))))), ?_⟩
    walk_at "go"
    rw [List.length_map]
    refine ⟨b, c, _, _, rfl, hB, by omega, by omega, by omega, fun many H1 m0 m1 e1 hB1 => ?_⟩
    obtain ⟨mn, rfl⟩ : ∃ mn : Nat, many = mn := ⟨many.toNat, by omega⟩
    have hK1 := hK.pen e1 hB
    walk_at "go"
    refine ⟨by omega, by omega, Vc.lc_by walk_range (fun D i H' => Vc.Ed [b] H1 H' ∧ Pen H' b c (n + 1 + i) ∧ ∃ rs : List Int, rs.length = i ∧ (∀ x ∈ rs, 0 ≤ x ∧ x ≤ 255) ∧ H' D = some (.lst (rs.map V.int))) (fun D H2 nD e2 hD => ⟨e2.mono (fun _ z => nomatch z), hB1.ed0 e2, [], rfl, (by intro x h; cases h), hD⟩) (fun _ _ _ _ _ _ => trivial) ?_ ?_⟩
    · rintro D i y H2 H3 nD hi ⟨e2, hB2, rs, rl, rb, hD⟩ ⟨rfl, rfl⟩
      have nDb := hB1.fb nD
      walk_at "go"
      refine ⟨rfl, ?_⟩
      walk_at "go"
      refine ⟨b, c, _, 256, rfl, hB2, by omega, by omega, by omega, fun z H4 z0 z1 e4 hB4 => ?_⟩
      have hD4 := e4.at1 nDb.1.symm hD
      refine ⟨_, hD4, by rw [List.length_map]; exact small1000 (by omega), ?_⟩
      generalize hu5 : upd _ D _ = H5
      obtain ⟨e5, hD5⟩ := Vc.chg hu5 hD4
      refine ⟨(e2.one e4 (.inl (by simp))).one e5 (.inr nD), hB4.ed1 e5 nDb.1 nDb.2, rs ++ [z], by rw [List.length_append, rl]; rfl, fun y hy => ?_, by rw [List.map_append]; exact hD5⟩
      rcases List.mem_append.mp hy with h | h
      · exact rb y h
      · rw [List.mem_singleton.mp h]; exact ⟨z0, by omega⟩
    · rintro D H2 nD ⟨e2, hB2, ahead, al, ab, hD⟩
      have al : ahead.length = mn := by omega
      subst al
      have hK2 := hK1.pen e2 hB1
      have hv2 := hK2.v
      have hr2 := hK2.r
      have e2' : Vc.Ed [b] H H2 := e1.one e2 (.inl (by simp))
      have fit : ahead.length + bs.length ≤ 24 := by omega
      clear hv hK1 hB1 e1 e2
      walk_at "go"
      refine Vc.go_cat hD hv2 (by rw [List.length_map, List.length_map]; omega) fun Z nZ => ?_
      generalize hu3 : upd _ Z _ = H3
      obtain ⟨e3, hZ⟩ := Vc.alloc hu3 nZ
      rw [← List.map_append] at hZ
      have hr3 := e3.at0 hr2
      have l3 := hK.l3
      walk_at "go"
      refine ⟨⟨_, .of hr3⟩, Vc.lc_by (walk_list (xs := roots.map V.int)) (fun D i H' => Vc.Ed [] H3 H' ∧ H' D = some (.lst (((roots.take i).map (· + (ahead.length : Int))).map V.int))) (fun D H4 nD e4 hD => ⟨e4, hD⟩) (fun D i H' _ _ q => .of (q.1.at0 hr3)) ?_ ?_⟩
      · rintro D i y H4 H5 nD hi ⟨e4, hD⟩ ⟨rfl, hy⟩
        rw [List.getElem?_map] at hy
        obtain ⟨rt, hrt, rfl⟩ := Option.map_eq_some_iff.mp hy
        walk_at "go"
        refine ⟨rfl, ?_⟩
        walk_at "go"
        refine ⟨_, hD, by rw [List.length_map, List.length_map, List.length_take]; exact small1000 (by omega), ?_⟩
        generalize hu6 : upd _ D _ = H6
        obtain ⟨e6, hD6⟩ := Vc.chg hu6 hD
        refine ⟨e4.one e6 (.inr nD), ?_⟩
        rw [hD6, List.take_add_one, hrt, List.map_append, List.map_append]; rfl
      · rintro R H4 nR ⟨e4, hR⟩
        rw [List.length_map, List.take_length] at hR
        have e24 : Vc.Ed [] H2 H4 := e3.ex e4
        have hK4 := hK2.ed0 e24
        have hB4 := hB2.ed0 e24
        have hZ4 := e4.at0 hZ
        have e4' : Vc.Ed [b] H H4 := e2'.ex e24
        have Fz : Fit x.fs (ahead ++ bs) := ⟨hK.F.ok, fun z hz => (List.mem_append.mp hz).elim (ab z) (hK.F.by_ z), by rw [List.length_append]; omega⟩
        have Wz := shift_whole hK.F hK.w ahead
        have rz : ∀ y ∈ roots.map (· + (ahead.length : Int)), -3 ≤ y ∧ y ≤ (ahead ++ bs).length + 2 := fun y hy => by
          obtain ⟨q, hq, rfl⟩ := List.mem_map.mp hy
          have := hK.rb q hq
          rw [List.length_append]
          show -3 ≤ q + (ahead.length : Int) ∧ q + (ahead.length : Int) ≤ _
          exact ⟨by omega, by omega⟩
        clear hD hv2 hr2 hZ hr3 hK2 hB2 e2' e3 e4 e24 hu3
        walk_at "go"
        refine ⟨Z, R, x, ahead ++ bs, roots.map (· + (ahead.length : Int)), rfl, hK4.X, hK4.ok, hZ4, Fz, hR, by rw [List.length_map]; exact hK.l1, by rw [List.length_map]; omega, rz, fun mo bo t H5 e5 Rs ht => ?_⟩
        refine ⟨t, _, rfl, .of ht, rfl, _, _, rfl, ?_⟩
        walk_at "go"
        refine ⟨_, _, rfl, ?_⟩
        walk_at "go"
        refine ⟨rfl, ?_⟩
        rcases Rs with ⟨_, _, _, L⟩ | ⟨o', rfl, rfl, G⟩
        · exact (L.not_whole Wz).elim
        rw [show oP (some o') = V.ref o'.p from rfl]
        walk_at "go"
        refine ⟨o', ahead.length, x.fs, ahead ++ bs, _, rfl, G.a, G.i, G.w, fun L1 H6 nL1 e6 hL1 => ?_⟩
        walk_at "go"
        refine ⟨o, 0, x.fs, bs, roots, rfl, (hK4.a.ed0 e5).ed0 e6, hK.i, hK.w, fun L2 H7 nL2 e7 hL2 => ?_⟩
        rw [shift_all hK.F hK.w hK.i G.i hK4.a G.a] at hL1
        refine go_neAll (Vc.Dp.ed0 e7 hL1) hL2 ?_
        have e47 : Vc.Ed [] H4 H7 := (e5.ex e6).ex e7
        have hK7 := hK4.ed0 e47
        have hB7 := hB4.ed0 e47
        have hv7 := hK7.v
        have hA7 := (G.a.ed0 e6).ed0 e7
        have e7' : Vc.Ed [b] H H7 := e4'.ex e47
        clear hL1 hL2 e5 e6 e7 e47 e4' hB4 hZ4 hR ht
        walk_at "go"
        rw [List.length_map]
        refine ⟨by omega, by omega, for_range (lo := 0) (fun i σ H' => ∃ y8 y9 y10 : Option V, σ = [some (.ref b), some (.ref x.c), some (.ref v), some (.ref r), some (.ref o.p), some (.int ahead.length), some (.ref D), some (.ref o'.p), y8, y9, y10, none, none, none] ∧ Vc.Ed [] H7 H') ⟨_, _, _, rfl, .refl⟩ ?_ ?_⟩
        · rintro i σ H8 hi ⟨y8, y9, y10, rfl, e8⟩
          have hA8 := hK7.a.ed0 e8
          have hx8 := hA8.ob
          have ho8 := (hA7.ed0 e8).ob
          have cl : (covD x.fs bs o.spots (0 + (i : Int) - ahead.length)).length < 64 := Nat.lt_of_le_of_lt (List.length_filter_le _ _) (few_spots hK.F (by omega) hK.rb (hK.i.few hK.a) fun q hq => (hK.i.smem q).mp hq)
          walk_at "go"
          refine ⟨o, _, x.fs, bs, roots, rfl, hA8, hK.i, hK.w, fun C H9 nC e9 hC => ?_⟩
          have e89 : Vc.Ed [] H7 H9 := e8.ex e9
          generalize hcs : covD x.fs bs o.spots (0 + (i : Int) - ahead.length) = cs at hC cl
          walk_at "go"
          refine ⟨⟨_, .of hC⟩, Vc.lc_by (walk_list (xs := cs.map V.int)) (fun D j H' => Vc.Ed [] H9 H' ∧ H' D = some (.lst (((cs.take j).map (· + (ahead.length : Int))).map V.int))) (fun D H10 nD e10 hD => ⟨e10, hD⟩) (fun D j H' _ _ q => .of (q.1.at0 hC)) ?_ ?_⟩
          · rintro D j y H10 H11 nD hj ⟨e10, hD⟩ ⟨rfl, hy⟩
            rw [List.getElem?_map] at hy
            obtain ⟨sp, hsp, rfl⟩ := Option.map_eq_some_iff.mp hy
            walk_at "go"
            refine ⟨rfl, ?_⟩
            walk_at "go"
            refine ⟨_, hD, by rw [List.length_map, List.length_map, List.length_take]; exact small1000 (by omega), ?_⟩
            generalize hu6 : upd _ D _ = H12
            obtain ⟨e12, hD12⟩ := Vc.chg hu6 hD
            refine ⟨e10.one e12 (.inr nD), ?_⟩
            rw [hD12, List.take_add_one, hsp, List.map_append, List.map_append]; rfl
          · rintro D H10 nD ⟨e10, hD⟩
            rw [List.length_map, List.take_length] at hD
            have ho10 := e10.at0 (e9.at0 ho8)
            walk_at "go"
            refine ⟨o', 0 + (i : Int), x.fs, ahead ++ bs, _, rfl, ((hA7.ed0 e8).ed0 e9).ed0 e10, G.i, G.w, fun C2 H11 nC2 e11 hC2 => ?_⟩
            rw [shift_cov hK.F hK.w hK.i G.i hK4.a G.a, hcs] at hC2
            walk_at "go"
            refine go_neLs (.of hC2) (.of (e11.at0 hD)) ?_
            rw [decide_eq_true rfl]
            walk_at "go"
            exact ⟨_, _, _, rfl, (e89.ex e10).ex e11⟩
        · rintro σ H8 ⟨y8, y9, y10, rfl, e8⟩
          walk_at "go"
          exact k H8 (e7'.ex e8) ((hB7.ed0 e8).up (by omega))
theorem ok__law_ways_right (T : Txt K mg A) : FnOk PG w K mg base CX0 9 A.f__law_ways_right A.d__law_ways_right ["_law_pen_here", "_law_coding", "_law_values_here", "_law_made_here"] (spWays A K) := by
  have G__law_made := ok__law_made (w := w) (base := base) T
  have G__law_draw := ok__law_draw (P := PG) (w := w) (base := base) T
  have G_Program_places := ok_Program_places (P := PG) (w := w) (base := base) T
  have G_Program_way := ok_Program_way (w := w) (base := base) T
  refine T.F__law_ways_right.ok sc__law_ways_right (fun vs H Q E h => ?_) (fun cdv Ar outer s H vs Q E hr h => ?_)
  · obtain ⟨b, c, n, v, r, x, bs, roots, o, rfl, _⟩ := h
    rfl
  · obtain ⟨b, c, n, v, r, x, bs, roots, o, rfl, hB, nl, hK, k⟩ := h
    have hu := hu_of hr
    have sn := hK.i.few hK.a
    have few := few_spots hK.F (by have := hK.l3; omega) hK.rb sn fun q hq => (hK.i.smem q).mp hq
    have ol : o.l.length ≤ 64 := by
      have := hK.i.sp.length_eq
      rw [List.length_map] at this
      omega
    have sne : 0 < o.spots.length := by
      cases hc : roots with
      | nil => have := hK.l1; rw [hc] at this; exact absurd this (by decide)
      | cons a q => exact List.length_pos_of_mem ((hK.i.smem a).mpr (.root (by rw [hc]; exact List.mem_cons_self)))
    refine ⟨_, (pss_cons (ps_for PassesOwn.never rfl (pi_range1 (by rfl) T.n_range (pa_cons pe_int pa_nil)) (pg_name (i := 4) sc__law_ways_right.nd rfl (Or.inl rfl)) (pss_cons (ps_set (i := 5) sc__law_ways_right.nd rfl (Or.inr rfl) (pe_meth0 (pv 3) T.cl_Program T.m_Program_places G_Program_places (by exact hr.mono (by decide)) T.b_Program_places .nil pass0)) (pss_cons (ps_set (i := 6) sc__law_ways_right.nd rfl (Or.inl rfl) (pe_ix ix_list (pv 5) (pe_call G__law_draw (by exact hr.mono (by decide)) (by rfl) T.g__law_draw T.F__law_draw.kp T.b__law_draw .nil pass0 (pa_cons (pv 0) (pa_cons (pe_callB call_len_seq (by rfl) T.n_len (by decide +kernel) (pa_cons (pv 5) pa_nil)) pa_nil))) (fun _ _ => rfl))) (pss_cons (ps_set (i := 7) sc__law_ways_right.nd rfl (Or.inl rfl) (pe_meth (pv 3) T.cl_Program T.m_Program_way G_Program_way (by exact hr.mono (by decide)) T.b_Program_way .nil passL (pa_cons (pv 6) pa_nil))) (pss_one (ps_for PassesOwn.never rfl (pi_range1 (by rfl) T.n_range (pa_cons (pe_callB call_len_seq (by rfl) T.n_len (by decide +kernel) (pa_cons (pv 7) pa_nil)) pa_nil)) (pg_name (i := 8) sc__law_ways_right.nd rfl (Or.inl rfl)) (pss_cons (ps_asg (pe_call G__law_made (by exact hr.mono (by decide)) (by rfl) T.g__law_made T.F__law_made.kp T.b__law_made .nil pass0 (pa_cons (pv 1) (pa_cons (pv 2) (pa_cons (pe_lst (pa_cons (pe_ix ix_list (pv 7) (pv 8) (fun _ _ => rfl)) pa_nil)) pa_nil)))) (pg_tup rfl (pgs_cons (pg_name (i := 9) sc__law_ways_right.nd rfl (Or.inl rfl)) (pgs_cons (pg_name (i := 10) sc__law_ways_right.nd rfl (Or.inl rfl)) pgs_nil)))) (pss_cons (ps_if (PW.pt (pw_or (pt_cmpR op_isN (pv 9) pe_non (nomark _)) (pw_or1 (pt_cmpR op_ne (pe_callB call_len_seq (by rfl) T.n_len (by decide +kernel) (pa_cons (pe_meth (pv 9) T.cl_Program T.m_Program_way G_Program_way (by exact hr.mono (by decide)) T.b_Program_way .nil passL (pa_cons (pv 6) pa_nil)) pa_nil)) (pe_op op_sub (pe_callB call_len_seq (by rfl) T.n_len (by decide +kernel) (pa_cons (pv 7) pa_nil)) (pv 8)) (nomark _))))) (pss_one (ps_ret pe_bl)) pss_nil) (pss_one (ps_if (pt_cmpR (op_neD (by exact hr.units)) (pe_lc (own := [("_law_spot", 11)]) (g := gName 11) rfl sc__law_ways_right.nd (pi_list (pe_meth0 (pv 9) T.cl_Program T.m_Program_places G_Program_places (by exact hr.mono (by decide)) T.b_Program_places .nil pass0)) (blkOk_by (own := [("_law_spot", 11)]) (N := ["_law_pen_here", "_law_coding", "_law_values_here", "_law_made_here", "_law_turn", "_law_places_here", "_law_place", "_law_way", "_law_k", "_law_part", "_law_bad", "_law_spot"]) (sc := defScope s__law_ways_right) (by decide +kernel)) (fun _ _ _ _ _ => by exact (pg_name (i := 11) sc__law_ways_right.nd rfl (Or.inl rfl))) (fun _ _ _ _ _ => by (refine' Vc.blkT ?h ?q; (case h => exact pts_one (pt_cmpR op_notIn_seq (pv 11) (pv 5) (by rfl))); (case q => first | exact rfl | (dsimp only; done) | (dsimp only; exact rfl)))) (fun _ _ _ _ _ => by (refine' Vc.blkE ?h ?q; (case h => exact (pv 11)); (case q => first | exact rfl | (dsimp only; done) | (dsimp only; exact rfl))))) (pe_lst pa_nil) (nomark _)) (pss_one (ps_ret pe_bl)) pss_nil)))))))))) (pss_one (ps_ret pe_bl))), ?_⟩
    walk_at "go"
    refine ⟨by decide, by decide, for_range (lo := 0) (fun i σ H' => ∃ y4 y5 y6 y7 y8 y9 y10 : Option V, σ = [some (.ref b), some (.ref x.c), some (.ref v), some (.ref o.p), y4, y5, y6, y7, y8, y9, y10, none] ∧ Vc.Ed [b] H H' ∧ Pen H' b c (n + i)) ⟨none, none, none, none, none, none, none, rfl, .refl, hB⟩ ?_ ?_⟩
    · rintro i σ H1 hi ⟨y4, y5, y6, y7, y8, y9, y10, rfl, e1, hB1⟩
      have hK1 := hK.pen e1 hB
      have hA1 := hK1.a
      have ho1 := hA1.ob
      walk_at "go"
      refine ⟨o, rfl, hA1, fun L H2 e2 nL hL => ?_⟩
      have nLb := hB1.fb nL
      have hK2 := hK1.ed0 e2
      have ho2 := e2.at0 ho1
      have hB2 := hB1.ed0 e2
      walk_at "go"
      rw [List.length_map]
      refine ⟨b, c, _, _, rfl, hB2, by omega, by omega, by omega, fun z H3 z0 z1 e3 hB3 => ?_⟩
      obtain ⟨gv, hgm, hga⟩ := at_ints z0 z1
      have hL3 := e3.at1 nLb.1.symm hL
      have hK3 := hK2.pen e3 hB2
      have ho3 := hK3.a.ob
      have rg := (hK.i.smem gv).mp hgm
      walk_at "go"
      refine ⟨o, gv, x.fs, bs, roots, rfl, hK3.a, hK.i, ol, fun _ L2 ws H4 nL2 e4 hL2 W wl => ?_, fun nr => absurd rg nr⟩
      have hK4 := hK3.ed0 e4
      have hB4 := hB3.ed0 e4
      have hL4 := e4.at0 hL3
      have e14 : Vc.Ed [b] H H4 := ((e1.ex e2).one e3 (.inl (by simp))).ex e4
      clear hK1 hA1 ho1 hL nLb hK2 ho2 hB1 hB2 hL3 hK3 ho3 hB3 e1 e2 e3 e4
      walk_at "go"
      rw [List.length_map]
      refine ⟨by omega, by omega, for_range (lo := 0) (fun j σ H' => ∃ y8 y9 y10 : Option V, σ = [some (.ref b), some (.ref x.c), some (.ref v), some (.ref o.p), some (.int (0 + (i : Int))), some (.ref L), some (.int gv), some (.ref L2), y8, y9, y10, none] ∧ Vc.Ed [] H4 H') ⟨y8, y9, y10, by rfl, .refl⟩ ?_ ?_⟩
      · rintro j σ H5 hj ⟨y8', y9', y10', rfl, e5⟩
        have hL25 := e5.at0 hL2
        have hL5 := e5.at0 hL4
        have hK5 := hK4.ed0 e5
        have hv5 := hK5.v
        obtain ⟨wk, hwk⟩ : ∃ wk, ws[j]? = some wk := ⟨_, List.getElem?_eq_getElem (by omega)⟩
        have hak : atI (ws.map V.int) (0 + (j : Int)) = some (.int wk) := by
          rw [Int.zero_add]
          exact atI_nat (by rw [List.getElem?_map, hwk]; rfl)
        have rwk : Rch x.fs bs roots wk := W.rch j wk hwk
        have cwk := cov_in hK.F hK.w (cov_self hK.F hK.w rwk)
        walk_at "go"
        intro R nR
        generalize hu6 : upd _ R _ = H6
        obtain ⟨e6, hR⟩ := Vc.alloc hu6 nR
        have hK6 := hK5.ed0 e6
        have hL26 := e6.at0 hL25
        have hL6 := e6.at0 hL5
        clear hK5 hL5 hv5 hL25 hu6
        walk_at "go"
        refine ⟨v, R, x, bs, [wk], rfl, hK6.X, hK6.ok, hK6.v, hK6.F, hR, Nat.le_refl 1, show 1 ≤ 6 by decide, fun y hy => by rw [List.mem_singleton.mp hy]; omega, fun mo bo t H7 e7 Rs ht => ?_⟩
        refine ⟨t, _, rfl, .of ht, rfl, _, _, rfl, ?_⟩
        walk_at "go"
        refine ⟨_, _, rfl, ?_⟩
        walk_at "go"
        refine ⟨rfl, ?_⟩
        rcases Rs with ⟨_, _, _, Le⟩ | ⟨o', rfl, rfl, G⟩
        · exact (Le.not_whole fun q rq => hK.w q (rch_sub rwk rq)).elim
        rw [show oP (some o') = V.ref o'.p from rfl]
        have hL27 := e7.at0 hL26
        have hL7 := e7.at0 hL6
        have ho7 := G.a.ob
        have ol' : o'.l.length ≤ 64 := by
          have h1 := few_spots hK.F (show [wk].length ≤ 24 from (by decide : 1 ≤ 24)) (fun y hy => by rw [List.mem_singleton.mp hy]; omega) (G.i.few G.a) fun q hq => (G.i.smem q).mp hq
          have := G.i.sp.length_eq
          rw [List.length_map] at this
          omega
        walk_at "go"
        refine ⟨o', gv, x.fs, bs, [wk], rfl, G.a, G.i, ol', fun _ L3 us H8 nL3 e8 hL3 U ul => ?_, fun nr => absurd (W.rch_rest hwk) nr⟩
        have hL28 := e8.at0 hL27
        have hL8 := e8.at0 hL7
        have ho8 := e8.at0 ho7
        have hA8 := G.a.ed0 e8
        have hlen := W.rest hwk U
        walk_at "go"
        rw [show decide (((us.map V.int).length : Int) = ((ws.map V.int).length : Int) - (0 + (j : Int))) = true from decide_eq_true (by rw [List.length_map, List.length_map]; omega)]
        walk_at "go"
        refine ⟨o', rfl, hA8, fun L4 H9 e9 nL4 hL4' => ?_⟩
        have hL9 := e9.at0 hL8
        have fl := flat_ints o.spots
        have e49 : Vc.Ed [] H4 H9 := ((((e5.ex e6).ex e7).ex e8).ex e9)
        walk_at "go"
        refine ⟨⟨_, .of hL4'⟩, Vc.lc_by (walk_list (xs := o'.spots.map V.int)) (fun D m H' => Vc.Ed [] H9 H' ∧ H' D = some (.lst [])) (fun D H10 nD e10 hD => ⟨e10, hD⟩) (fun D m H' _ _ q => .of (q.1.at0 hL4')) ?_ ?_⟩
        · rintro D m y H10 H11 nD hm ⟨e10, hD⟩ ⟨rfl, hy⟩
          rw [List.getElem?_map] at hy
          obtain ⟨sp, hsp, rfl⟩ := Option.map_eq_some_iff.mp hy
          have hL10 := e10.at0 hL9
          have isp : sp ∈ o.spots := (hK.i.smem sp).mpr (rch_sub rwk ((G.i.smem sp).mp (List.mem_of_getElem? hsp)))
          walk_at "go"
          refine ⟨rfl, ?_⟩
          walk_at "go"
          rw [inV_ints, decide_eq_true isp]
          walk_at "go"
          exact ⟨e10, hD⟩
        · rintro D H10 nD ⟨e10, hD⟩
          walk_at "go"
          intro M nM
          generalize hu11 : upd _ M _ = H11
          obtain ⟨e11, hM⟩ := Vc.alloc hu11 nM
          walk_at "go"
          refine go_neLs (ns := []) (ms := []) (.of (e11.at0 hD)) (.of hM) ?_
          walk_at "go"
          exact ⟨_, _, _, rfl, (e49.ex e10).ex e11⟩
      · rintro σ H5 ⟨y8', y9', y10', rfl, e5⟩
        walk_at "go"
        exact ⟨_, _, _, _, _, _, _, rfl, e14.ex e5, (hB4.ed0 e5).up (by omega)⟩
    · rintro σ H1 ⟨y4, y5, y6, y7, y8, y9, y10, rfl, e1, hB1⟩
      walk_at "go"
      exact k H1 e1 (hB1.up (by omega))
end

end My
namespace My
open PySem PySem.Spec PyProof.Rows L2
/-! ### k15: the law -/
def spLaw (K : PySem.W.Frag) : Sp := fun vs H Q _ => ∃ (a : Addr) (ns : List Int), vs = [.ref a] ∧ SqL K H a (ns.map V.int) ∧ ns.length ≤ 63 ∧ ∀ H', Q (.bl true) H'
theorem cut3 {rs : List Int} : cutV (rs.map V.int) none (some 3) = (rs.take 3).map V.int := by
  rw [show (3 : Int) = ((3 : Nat) : Int) from rfl, Vc.cut_take, List.map_take]
section
variable {w : World} {K : PySem.W.Frag} {mg : Str → Option Value} {base : Heap} {A : Ad}
theorem ok_law (T : Txt K mg A) : FnOk PG w K mg base CX0 12 A.f_law A.d_law ["_law_script"] (spLaw K) := by
  have G__law_pen := ok__law_pen (P := PG) (w := w) (base := base) T
  have G__law_forms := ok__law_forms (P := PG) (w := w) (base := base) T
  have G__law_codeset := ok__law_codeset (P := PG) (w := w) (base := base) T
  have G__law_values := ok__law_values (P := PG) (w := w) (base := base) T
  have G__law_roots := ok__law_roots (P := PG) (w := w) (base := base) T
  have G__law_made := ok__law_made (w := w) (base := base) T
  have G__law_joined_right := ok__law_joined_right (w := w) (base := base) T
  have G__law_bytes_right := ok__law_bytes_right (w := w) (base := base) T
  have G__law_later_right := ok__law_later_right (w := w) (base := base) T
  have G__law_ways_right := ok__law_ways_right (w := w) (base := base) T
  refine T.F_law.ok sc_law (fun vs H Q E h => ?_) (fun cdv Ar outer s H vs Q E hr h => ?_)
  · obtain ⟨a, ns, rfl, _⟩ := h
    rfl
  · obtain ⟨a, ns, rfl, hS, hl, k⟩ := h
    have hu := hu_of hr
    refine ⟨_, (pss_cons (ps_set (i := 1) sc_law.nd rfl (Or.inl rfl) (pe_call G__law_pen (by exact hr.mono (by decide)) (by rfl) T.g__law_pen T.F__law_pen.kp T.b__law_pen .nil pass0 (pa_cons (pv 0) (pa_cons pe_bl pa_nil)))) (pss_cons (ps_asg (pe_call G__law_forms (by exact hr.mono (by decide)) (by rfl) T.g__law_forms T.F__law_forms.kp T.b__law_forms .nil pass0 (pa_cons (pv 1) (pa_cons pe_int pa_nil))) (pg_tup rfl (pgs_cons (pg_name (i := 2) sc_law.nd rfl (Or.inl rfl)) (pgs_cons (pg_name (i := 3) sc_law.nd rfl (Or.inl rfl)) pgs_nil)))) (pss_cons (ps_set (i := 4) sc_law.nd rfl (Or.inl rfl) (pe_call G__law_codeset (by exact hr.mono (by decide)) (by rfl) T.g__law_codeset T.F__law_codeset.kp T.b__law_codeset .nil pass0 (pa_cons (pv 2) (pa_cons (pv 3) pa_nil)))) (pss_cons (ps_for PassesOwn.never rfl (pi_range1 (by rfl) T.n_range (pa_cons pe_int pa_nil)) (pg_name (i := 5) sc_law.nd rfl (Or.inl rfl)) (pss_cons (ps_set (i := 6) sc_law.nd rfl (Or.inl rfl) (pe_call G__law_values (by exact hr.mono (by decide)) (by rfl) T.g__law_values T.F__law_values.kp T.b__law_values .nil pass0 (pa_cons (pv 1) (pa_cons (pv 2) (pa_cons (pv 3) pa_nil))))) (pss_cons (ps_set (i := 7) sc_law.nd rfl (Or.inl rfl) (pe_slice sl_list (pe_call G__law_roots (by exact hr.mono (by decide)) (by rfl) T.g__law_roots T.F__law_roots.kp T.b__law_roots .nil pass0 (pa_cons (pv 1) (pa_cons (pv 3) (pa_cons (pv 6) pa_nil)))) po_none (po_some pe_int))) (pss_cons (ps_set (i := 8) sc_law.nd rfl (Or.inl rfl) (pe_slice sl_list (pe_call G__law_roots (by exact hr.mono (by decide)) (by rfl) T.g__law_roots T.F__law_roots.kp T.b__law_roots .nil pass0 (pa_cons (pv 1) (pa_cons (pv 3) (pa_cons (pv 6) pa_nil)))) po_none (po_some pe_int))) (pss_cons (ps_if (pt_not (pt_val (pe_call G__law_joined_right (by exact hr.mono (by decide)) (by rfl) T.g__law_joined_right T.F__law_joined_right.kp T.b__law_joined_right .nil pass0 (pa_cons (pv 4) (pa_cons (pv 6) (pa_cons (pv 7) (pa_cons (pv 8) pa_nil))))))) (pss_one (ps_ret pe_bl)) pss_nil) (pss_cons (ps_asg (pe_call G__law_made (by exact hr.mono (by decide)) (by rfl) T.g__law_made T.F__law_made.kp T.b__law_made .nil pass0 (pa_cons (pv 4) (pa_cons (pv 6) (pa_cons (pv 7) pa_nil)))) (pg_tup rfl (pgs_cons (pg_name (i := 9) sc_law.nd rfl (Or.inl rfl)) (pgs_cons (pg_name (i := 10) sc_law.nd rfl (Or.inl rfl)) pgs_nil)))) (pss_one (ps_if (pt_cmpR op_notN (pv 9) pe_non (nomark _)) (pss_cons (ps_if (pt_not (pt_val (pe_call G__law_bytes_right (by exact hr.mono (by decide)) (by rfl) T.g__law_bytes_right T.F__law_bytes_right.kp T.b__law_bytes_right .nil pass0 (pa_cons (pv 1) (pa_cons (pv 4) (pa_cons (pv 6) (pa_cons (pv 7) (pa_cons (pv 9) pa_nil)))))))) (pss_one (ps_ret pe_bl)) pss_nil) (pss_cons (ps_if (pt_not (pt_val (pe_call G__law_later_right (by exact hr.mono (by decide)) (by rfl) T.g__law_later_right T.F__law_later_right.kp T.b__law_later_right .nil pass0 (pa_cons (pv 1) (pa_cons (pv 4) (pa_cons (pv 6) (pa_cons (pv 7) (pa_cons (pv 9) pa_nil)))))))) (pss_one (ps_ret pe_bl)) pss_nil) (pss_one (ps_if (pt_not (pt_val (pe_call G__law_ways_right (by exact hr.mono (by decide)) (by rfl) T.g__law_ways_right T.F__law_ways_right.kp T.b__law_ways_right .nil pass0 (pa_cons (pv 1) (pa_cons (pv 4) (pa_cons (pv 6) (pa_cons (pv 9) pa_nil))))))) (pss_one (ps_ret pe_bl)) pss_nil)))) pss_nil)))))))) (pss_one (ps_ret pe_bl)))))), ?_⟩
    walk_at "go"
    refine ⟨a, false, ns, rfl, hS, hl, fun b c H1 e1 hB1 nb nc => ?_⟩
    walk_at "go"
    refine ⟨b, c, 7, 14, rfl, hB1, by decide, by decide, by decide, fun t f its stop H2 e2 hB2 nf ht TA2 l2 Va hG => ?_⟩
    refine ⟨t, _, rfl, .of ht, rfl, _, _, rfl, ?_⟩
    walk_at "go"
    refine ⟨_, _, rfl, ?_⟩
    walk_at "go"
    refine ⟨rfl, ?_⟩
    walk_at "go"
    refine ⟨f, stop, its, rfl, TA2, Va, fun x H3 e3 hst hpm ok X3 => ?_⟩
    subst hst
    have TA3 := TA2.ed0 e3
    have hB3 := hB2.ed0 e3
    have nfb := ne_form hB3 TA3
    clear hS ht
    walk_at "go"
    refine ⟨by omega, by omega, for_range (lo := 0) (fun i σ H' => ∃ y5 y6 y7 y8 y9 y10 : Option V, σ = [some (.ref a), some (.ref b), some (.int x.stop), some (.ref f), some (.ref x.c), y5, y6, y7, y8, y9, y10] ∧ Vc.Ed [b] H3 H' ∧ Pen H' b c (67 + 1500 * i)) ⟨none, none, none, none, none, none, rfl, .refl, hB3⟩ ?_ ?_⟩
    · rintro i σ H4 hi ⟨y5, y6, y7, y8, y9, y10, rfl, e4, hB4⟩
      have LM : (1000000 : Nat) = LIM := rfl
      have TA4 := TA3.ed1 e4 nfb
      have X4 := X3.pen e4 hB3
      walk_at "go"
      refine ⟨b, c, _, f, its, x.stop, rfl, hB4, by omega, TA4, Va, hG, l2, fun v vals H5 nv e5 hB5 hv v1 v24 vb => ?_⟩
      have TA5 := TA4.ed1 e5 nfb
      have X5 := X4.pen e5 hB4
      have F : Fit (its.map (·.1)) vals := ⟨Va.ok, vb, v24⟩
      have Fx : Fit x.fs vals := ⟨fun f hf => Va.ok f (hpm.mem_iff.mp hf), vb, v24⟩
      have e45 := e5
      clear e5
      walk_at "go"
      refine ⟨b, c, _, f, v, its, x.stop, vals, rfl, hB5, by omega, TA5, Va, hv, F, v1, fun r roots H6 nr e6 hB6 hr hrl hrb => ?_⟩
      have TA6 := TA5.ed1 e6 nfb
      have X6 := X5.pen e6 hB5
      have hv6 := e6.at1 (hB5.ne_ints hv) hv
      have e46 := e45.one e6 (.inl (by simp))
      walk_at "go"
      intro r1 nr1
      generalize hu7 : upd _ r1 _ = H7
      obtain ⟨e7, hr1⟩ := Vc.alloc hu7 nr1
      rw [cut3] at hr1
      have TA7 := TA6.ed0 e7
      have X7 := X6.ed0 e7
      have hv7 := e7.at0 hv6
      have hB7 := hB6.ed0 e7
      have e47 := e46.ex e7
      clear TA5 TA6 X4 X5 X6 hv hv6 hB5 hB6 e45 e46 e6 e7 hr hu7
      walk_at "go"
      refine ⟨b, c, _, f, v, its, x.stop, vals, rfl, hB7, by omega, TA7, Va, hv7, F, v1, fun r' roots' H8 nr' e8 hB8 hr' hrl' hrb' => ?_⟩
      have X8 := X7.pen e8 hB7
      have hv8 := e8.at1 (hB7.ne_ints hv7) hv7
      have hr8 := e8.at1 (hB7.ne_ints hr1) hr1
      have e48 := e47.one e8 (.inl (by simp))
      walk_at "go"
      intro r2 nr2
      generalize hu9 : upd _ r2 _ = H9
      obtain ⟨e9, hr2⟩ := Vc.alloc hu9 nr2
      rw [cut3] at hr2
      have X9 := X8.ed0 e9
      have hv9 := e9.at0 hv8
      have hr9 := e9.at0 hr8
      have hB9 := hB8.ed0 e9
      have e49 := e48.ex e9
      clear TA7 X7 X8 hv7 hv8 hr8 hr1 hB7 hB8 e47 e48 e8 e9 hr' hu9
      have t3 : ∀ {rs : List Int}, (rs.length = 1 ∨ rs.length = 2 ∨ rs.length = 3 ∨ rs.length = 24) → 1 ≤ (rs.take 3).length ∧ (rs.take 3).length ≤ 3 := fun h => by
        rw [List.length_take]; omega
      have one1 := t3 hrl
      have one2 := t3 hrl'
      have b1 : ∀ y ∈ roots.take 3, -3 ≤ y ∧ y ≤ vals.length + 2 := fun y hy => hrb y (List.mem_of_mem_take hy)
      have b2 : ∀ y ∈ roots'.take 3, -3 ≤ y ∧ y ≤ vals.length + 2 := fun y hy => hrb' y (List.mem_of_mem_take hy)
      clear t3 hrl hrl' hrb hrb'
      generalize roots.take 3 = one at hr9 one1 b1
      generalize roots'.take 3 = other at hr2 one2 b2
      walk_at "go"
      refine ⟨v, r1, r2, x, vals, one, other, rfl, X9, ok, hv9, Fx, hr9, hr2, one1.1, one1.2, one2.1, one2.2, b1, b2, fun H10 e10 => ?_⟩
      have X10 := X9.ed0 e10
      have hv10 := e10.at0 hv9
      have hr10 := e10.at0 hr9
      have hB10 := hB9.ed0 e10
      have e410 := e49.ex e10
      clear X9 hv9 hr9 hB9 e49 e10 hr2
      walk_at "go"
      refine ⟨v, r1, x, vals, one, rfl, X10, ok, hv10, Fx, hr10, one1.1, by omega, b1, fun mo bo t H11 e11 Rs ht => ?_⟩
      refine ⟨t, _, rfl, .of ht, rfl, _, _, rfl, ?_⟩
      walk_at "go"
      refine ⟨_, _, rfl, ?_⟩
      walk_at "go"
      refine ⟨rfl, ?_⟩
      have hB11 := hB10.ed0 e11
      have e411 := e410.ex e11
      rcases Rs with ⟨pl, rfl, rfl, _⟩ | ⟨o, rfl, rfl, G⟩
      · rw [show oP none = V.non from rfl]
        walk_at "go"
        exact ⟨_, _, _, _, _, _, rfl, e4.trans e411 (fun z hz => .inl hz), hB11.up (by omega)⟩
      rw [show oP (some o) = V.ref o.p from rfl]
      have K11 : Kept A K H11 x v r1 vals one o := ⟨X10.ed0 e11, ok, e11.at0 hv10, Fx, e11.at0 hr10, one1.1, one1.2, b1, G.w, G.a, G.i⟩
      clear X10 hv10 hr10 hB10 e410 e11 ht
      walk_at "go"
      rw [decide_eq_false (fun z : V.ref o.p = V.non => nomatch z)]
      walk_at "go"
      refine ⟨b, c, _, v, r1, x, vals, one, o, rfl, hB11, by omega, K11, fun H12 e12 hB12 => ?_⟩
      have K12 := K11.pen e12 hB11
      have e412 := e411.one e12 (.inl (by simp))
      walk_at "go"
      refine ⟨b, c, _, v, r1, x, vals, one, o, rfl, hB12, by omega, K12, fun H13 e13 hB13 => ?_⟩
      have K13 := K12.pen e13 hB12
      have e413 := e412.one e13 (.inl (by simp))
      walk_at "go"
      refine ⟨b, c, _, v, r1, x, vals, one, o, rfl, hB13, by omega, K13, fun H14 e14 hB14 => ?_⟩
      have e414 := e413.one e14 (.inl (by simp))
      walk_at "go"
      exact ⟨_, _, _, _, _, _, rfl, e4.trans e414 (fun z hz => .inl hz), hB14.up (by omega)⟩
    · rintro σ H4 ⟨y5, y6, y7, y8, y9, y10, rfl, e4, hB4⟩
      walk_at "go"
      exact k H4
end

end My
namespace My
open PySem PySem.Spec PyProof.Rows L2
theorem all_mk {w : World} {K : PySem.W.Frag} {h : Heap} {mg : Str → Option Value} {fa : Addr} (X : K.In h) (G : h.Ns mainGlobals mg) (hfa : mg "law" = some (.ref fa))
    {C_Form : Addr}
    {C_CodeSet : Addr}
    {C_Program : Addr}
    {f_is_byte : Addr} {oc1 kV1 dc1 pm1 cd1 ct1 : Value} {od1 an1 : Option Addr} {sl1 : Array (Option Value)}
    {f_is_name : Addr} {oc2 kV2 dc2 pm2 cd2 ct2 : Value} {od2 an2 : Option Addr} {sl2 : Array (Option Value)}
    {f_Formu_initu : Addr} {oc3 kV3 dc3 pm3 cd3 ct3 : Value} {od3 an3 : Option Addr} {sl3 : Array (Option Value)}
    {f_check_forms : Addr} {oc4 kV4 dc4 pm4 cd4 ct4 : Value} {od4 an4 : Option Addr} {sl4 : Array (Option Value)}
    {f_CodeSetu_initu : Addr} {oc5 kV5 dc5 pm5 cd5 ct5 : Value} {od5 an5 : Option Addr} {sl5 : Array (Option Value)}
    {f_CodeSetu_callu : Addr} {oc6 kV6 dc6 pm6 cd6 ct6 : Value} {od6 an6 : Option Addr} {sl6 : Array (Option Value)}
    {f_CodeSet_followers : Addr} {oc7 kV7 dc7 pm7 cd7 ct7 : Value} {od7 an7 : Option Addr} {sl7 : Array (Option Value)}
    {f_instruction_at : Addr} {oc8 kV8 dc8 pm8 cd8 ct8 : Value} {od8 an8 : Option Addr} {sl8 : Array (Option Value)}
    {f_explore : Addr} {oc9 kV9 dc9 pm9 cd9 ct9 : Value} {od9 an9 : Option Addr} {sl9 : Array (Option Value)}
    {f_chain : Addr} {oc10 kV10 dc10 pm10 cd10 ct10 : Value} {od10 an10 : Option Addr} {sl10 : Array (Option Value)}
    {f_Programu_initu : Addr} {oc11 kV11 dc11 pm11 cd11 ct11 : Value} {od11 an11 : Option Addr} {sl11 : Array (Option Value)}
    {f_Programu_containsu : Addr} {oc12 kV12 dc12 pm12 cd12 ct12 : Value} {od12 an12 : Option Addr} {sl12 : Array (Option Value)}
    {f_Programu_getitemu : Addr} {oc13 kV13 dc13 pm13 cd13 ct13 : Value} {od13 an13 : Option Addr} {sl13 : Array (Option Value)}
    {f_Programu_lenu : Addr} {oc14 kV14 dc14 pm14 cd14 ct14 : Value} {od14 an14 : Option Addr} {sl14 : Array (Option Value)}
    {f_Program_places : Addr} {oc15 kV15 dc15 pm15 cd15 ct15 : Value} {od15 an15 : Option Addr} {sl15 : Array (Option Value)}
    {f_Program_followers : Addr} {oc16 kV16 dc16 pm16 cd16 ct16 : Value} {od16 an16 : Option Addr} {sl16 : Array (Option Value)}
    {f_Program_covers : Addr} {oc17 kV17 dc17 pm17 cd17 ct17 : Value} {od17 an17 : Option Addr} {sl17 : Array (Option Value)}
    {f_Program_way : Addr} {oc18 kV18 dc18 pm18 cd18 ct18 : Value} {od18 an18 : Option Addr} {sl18 : Array (Option Value)}
    {f__law_pen : Addr} {oc19 kV19 dc19 pm19 cd19 ct19 : Value} {od19 an19 : Option Addr} {sl19 : Array (Option Value)}
    {f__law_draw : Addr} {oc20 kV20 dc20 pm20 cd20 ct20 : Value} {od20 an20 : Option Addr} {sl20 : Array (Option Value)}
    {f__law_forms : Addr} {oc21 kV21 dc21 pm21 cd21 ct21 : Value} {od21 an21 : Option Addr} {sl21 : Array (Option Value)}
    {f__law_codeset : Addr} {oc22 kV22 dc22 pm22 cd22 ct22 : Value} {od22 an22 : Option Addr} {sl22 : Array (Option Value)}
    {f__law_byte : Addr} {oc23 kV23 dc23 pm23 cd23 ct23 : Value} {od23 an23 : Option Addr} {sl23 : Array (Option Value)}
    {f__law_filled : Addr} {oc24 kV24 dc24 pm24 cd24 ct24 : Value} {od24 an24 : Option Addr} {sl24 : Array (Option Value)}
    {f__law_places : Addr} {oc25 kV25 dc25 pm25 cd25 ct25 : Value} {od25 an25 : Option Addr} {sl25 : Array (Option Value)}
    {f__law_aimed : Addr} {oc26 kV26 dc26 pm26 cd26 ct26 : Value} {od26 an26 : Option Addr} {sl26 : Array (Option Value)}
    {f__law_laid : Addr} {oc27 kV27 dc27 pm27 cd27 ct27 : Value} {od27 an27 : Option Addr} {sl27 : Array (Option Value)}
    {f__law_follow : Addr} {oc28 kV28 dc28 pm28 cd28 ct28 : Value} {od28 an28 : Option Addr} {sl28 : Array (Option Value)}
    {f__law_reach : Addr} {oc29 kV29 dc29 pm29 cd29 ct29 : Value} {od29 an29 : Option Addr} {sl29 : Array (Option Value)}
    {f__law_values : Addr} {oc30 kV30 dc30 pm30 cd30 ct30 : Value} {od30 an30 : Option Addr} {sl30 : Array (Option Value)}
    {f__law_roots : Addr} {oc31 kV31 dc31 pm31 cd31 ct31 : Value} {od31 an31 : Option Addr} {sl31 : Array (Option Value)}
    {f__law_made : Addr} {oc32 kV32 dc32 pm32 cd32 ct32 : Value} {od32 an32 : Option Addr} {sl32 : Array (Option Value)}
    {f__law_all : Addr} {oc33 kV33 dc33 pm33 cd33 ct33 : Value} {od33 an33 : Option Addr} {sl33 : Array (Option Value)}
    {f__law_joined_right : Addr} {oc34 kV34 dc34 pm34 cd34 ct34 : Value} {od34 an34 : Option Addr} {sl34 : Array (Option Value)}
    {f__law_bytes_right : Addr} {oc35 kV35 dc35 pm35 cd35 ct35 : Value} {od35 an35 : Option Addr} {sl35 : Array (Option Value)}
    {f__law_later_right : Addr} {oc36 kV36 dc36 pm36 cd36 ct36 : Value} {od36 an36 : Option Addr} {sl36 : Array (Option Value)}
    {f__law_ways_right : Addr} {oc37 kV37 dc37 pm37 cd37 ct37 : Value} {od37 an37 : Option Addr} {sl37 : Array (Option Value)}
    {f_law : Addr} {oc38 kV38 dc38 pm38 cd38 ct38 : Value} {od38 an38 : Option Addr} {sl38 : Array (Option Value)}
    {t_LETTERS : Tok}
    {C_NotWhole f_NotWholeu_initu cda39 cc39 : Addr} {oc39 kV39 dc39 pm39 ct39 : Value} {od39 an39 : Option Addr} {sl39 : Array (Option Value)}
    {nm39 q39 : Str} {N39 : Addr} {bs39 bm39 sub39 : List Value} {sn39 : List Str} {ab39 : Bool} {col39 : Option Bool} {dd39 : Option Addr} {ka39 kb39 kc39 kd39 ke39 : Option Value}
    {ccl39 ocl39 : Value} {ccd39 ocd39 : Option Addr} {vs39 : Array Value} {ccs39 ocs39 : Array (Option Value)} {file39 : Str} {tf39 : Tok}
    {C_BadAddress f_BadAddressu_initu cda40 cc40 : Addr} {oc40 kV40 dc40 pm40 ct40 : Value} {od40 an40 : Option Addr} {sl40 : Array (Option Value)}
    {nm40 q40 : Str} {N40 : Addr} {bs40 bm40 sub40 : List Value} {sn40 : List Str} {ab40 : Bool} {col40 : Option Bool} {dd40 : Option Addr} {ka40 kb40 kc40 kd40 ke40 : Option Value}
    {ccl40 ocl40 : Value} {ccd40 ocd40 : Option Addr} {vs40 : Array Value} {ccs40 ocs40 : Array (Option Value)} {file40 : Str} {tf40 : Tok}
    {a_FLOWS : Addr} {odF : Option Addr} {tF1 tF2 tF3 tF4 : Tok} {nF : Nat} {slF : Array (Option Value)}
    {tM : Tok}
    (aC_Form : PySem.W.nsIn K mainGlobals "Form" = some (some (.ref C_Form)))
    (aC_CodeSet : PySem.W.nsIn K mainGlobals "CodeSet" = some (some (.ref C_CodeSet)))
    (aC_Program : PySem.W.nsIn K mainGlobals "Program" = some (some (.ref C_Program)))
    (a_is_byte : PySem.W.nsIn K mainGlobals "is_byte" = some (some (.ref f_is_byte)))
    (l_is_byte : K.lookup f_is_byte = some ⟨oc1, od1, .func (PySem.W.fnOf "is_byte" "is_byte" (defArgs s_is_byte) (defBody s_is_byte) (defScope s_is_byte) .none kV1 dc1 pm1 an1 cd1 ct1), sl1⟩)
    (c_is_byte : PySem.W.codeIn K cd1 "is_byte" = true)
    (k_is_byte : PySem.W.keepIn K (.ref f_is_byte) = true)
    (a_is_name : PySem.W.nsIn K mainGlobals "is_name" = some (some (.ref f_is_name)))
    (l_is_name : K.lookup f_is_name = some ⟨oc2, od2, .func (PySem.W.fnOf "is_name" "is_name" (defArgs s_is_name) (defBody s_is_name) (defScope s_is_name) .none kV2 dc2 pm2 an2 cd2 ct2), sl2⟩)
    (c_is_name : PySem.W.codeIn K cd2 "is_name" = true)
    (k_is_name : PySem.W.keepIn K (.ref f_is_name) = true)
    (a_Formu_initu : PySem.W.findIn K (.ref C_Form) "__init__" = some (some (.ref f_Formu_initu)))
    (i_Formu_initu : PySem.W.isFn K (.ref f_Formu_initu) = true)
    (l_Formu_initu : K.lookup f_Formu_initu = some ⟨oc3, od3, .func (PySem.W.fnOf "__init__" "Form.__init__" (defArgs s_Formu_initu) (defBody s_Formu_initu) (defScope s_Formu_initu) .none kV3 dc3 pm3 an3 cd3 ct3), sl3⟩)
    (c_Formu_initu : PySem.W.codeIn K cd3 "Form.__init__" = true)
    (k_Formu_initu : PySem.W.keepIn K (.ref f_Formu_initu) = true)
    (a_check_forms : PySem.W.nsIn K mainGlobals "check_forms" = some (some (.ref f_check_forms)))
    (l_check_forms : K.lookup f_check_forms = some ⟨oc4, od4, .func (PySem.W.fnOf "check_forms" "check_forms" (defArgs s_check_forms) (defBody s_check_forms) (defScope s_check_forms) .none kV4 dc4 pm4 an4 cd4 ct4), sl4⟩)
    (c_check_forms : PySem.W.codeIn K cd4 "check_forms" = true)
    (k_check_forms : PySem.W.keepIn K (.ref f_check_forms) = true)
    (a_CodeSetu_initu : PySem.W.findIn K (.ref C_CodeSet) "__init__" = some (some (.ref f_CodeSetu_initu)))
    (i_CodeSetu_initu : PySem.W.isFn K (.ref f_CodeSetu_initu) = true)
    (l_CodeSetu_initu : K.lookup f_CodeSetu_initu = some ⟨oc5, od5, .func (PySem.W.fnOf "__init__" "CodeSet.__init__" (defArgs s_CodeSetu_initu) (defBody s_CodeSetu_initu) (defScope s_CodeSetu_initu) .none kV5 dc5 pm5 an5 cd5 ct5), sl5⟩)
    (c_CodeSetu_initu : PySem.W.codeIn K cd5 "CodeSet.__init__" = true)
    (k_CodeSetu_initu : PySem.W.keepIn K (.ref f_CodeSetu_initu) = true)
    (a_CodeSetu_callu : PySem.W.findIn K (.ref C_CodeSet) "__call__" = some (some (.ref f_CodeSetu_callu)))
    (i_CodeSetu_callu : PySem.W.isFn K (.ref f_CodeSetu_callu) = true)
    (l_CodeSetu_callu : K.lookup f_CodeSetu_callu = some ⟨oc6, od6, .func (PySem.W.fnOf "__call__" "CodeSet.__call__" (defArgs s_CodeSetu_callu) (defBody s_CodeSetu_callu) (defScope s_CodeSetu_callu) .none kV6 dc6 pm6 an6 cd6 ct6), sl6⟩)
    (c_CodeSetu_callu : PySem.W.codeIn K cd6 "CodeSet.__call__" = true)
    (k_CodeSetu_callu : PySem.W.keepIn K (.ref f_CodeSetu_callu) = true)
    (a_CodeSet_followers : PySem.W.findIn K (.ref C_CodeSet) "followers" = some (some (.ref f_CodeSet_followers)))
    (i_CodeSet_followers : PySem.W.isFn K (.ref f_CodeSet_followers) = true)
    (l_CodeSet_followers : K.lookup f_CodeSet_followers = some ⟨oc7, od7, .func (PySem.W.fnOf "followers" "CodeSet.followers" (defArgs s_CodeSet_followers) (defBody s_CodeSet_followers) (defScope s_CodeSet_followers) .none kV7 dc7 pm7 an7 cd7 ct7), sl7⟩)
    (c_CodeSet_followers : PySem.W.codeIn K cd7 "CodeSet.followers" = true)
    (k_CodeSet_followers : PySem.W.keepIn K (.ref f_CodeSet_followers) = true)
    (a_instruction_at : PySem.W.nsIn K mainGlobals "instruction_at" = some (some (.ref f_instruction_at)))
    (l_instruction_at : K.lookup f_instruction_at = some ⟨oc8, od8, .func (PySem.W.fnOf "instruction_at" "instruction_at" (defArgs s_instruction_at) (defBody s_instruction_at) (defScope s_instruction_at) .none kV8 dc8 pm8 an8 cd8 ct8), sl8⟩)
    (c_instruction_at : PySem.W.codeIn K cd8 "instruction_at" = true)
    (k_instruction_at : PySem.W.keepIn K (.ref f_instruction_at) = true)
    (a_explore : PySem.W.nsIn K mainGlobals "explore" = some (some (.ref f_explore)))
    (l_explore : K.lookup f_explore = some ⟨oc9, od9, .func (PySem.W.fnOf "explore" "explore" (defArgs s_explore) (defBody s_explore) (defScope s_explore) .none kV9 dc9 pm9 an9 cd9 ct9), sl9⟩)
    (c_explore : PySem.W.codeIn K cd9 "explore" = true)
    (k_explore : PySem.W.keepIn K (.ref f_explore) = true)
    (a_chain : PySem.W.nsIn K mainGlobals "chain" = some (some (.ref f_chain)))
    (l_chain : K.lookup f_chain = some ⟨oc10, od10, .func (PySem.W.fnOf "chain" "chain" (defArgs s_chain) (defBody s_chain) (defScope s_chain) .none kV10 dc10 pm10 an10 cd10 ct10), sl10⟩)
    (c_chain : PySem.W.codeIn K cd10 "chain" = true)
    (k_chain : PySem.W.keepIn K (.ref f_chain) = true)
    (a_Programu_initu : PySem.W.findIn K (.ref C_Program) "__init__" = some (some (.ref f_Programu_initu)))
    (i_Programu_initu : PySem.W.isFn K (.ref f_Programu_initu) = true)
    (l_Programu_initu : K.lookup f_Programu_initu = some ⟨oc11, od11, .func (PySem.W.fnOf "__init__" "Program.__init__" (defArgs s_Programu_initu) (defBody s_Programu_initu) (defScope s_Programu_initu) .none kV11 dc11 pm11 an11 cd11 ct11), sl11⟩)
    (c_Programu_initu : PySem.W.codeIn K cd11 "Program.__init__" = true)
    (k_Programu_initu : PySem.W.keepIn K (.ref f_Programu_initu) = true)
    (a_Programu_containsu : PySem.W.findIn K (.ref C_Program) "__contains__" = some (some (.ref f_Programu_containsu)))
    (i_Programu_containsu : PySem.W.isFn K (.ref f_Programu_containsu) = true)
    (l_Programu_containsu : K.lookup f_Programu_containsu = some ⟨oc12, od12, .func (PySem.W.fnOf "__contains__" "Program.__contains__" (defArgs s_Programu_containsu) (defBody s_Programu_containsu) (defScope s_Programu_containsu) .none kV12 dc12 pm12 an12 cd12 ct12), sl12⟩)
    (c_Programu_containsu : PySem.W.codeIn K cd12 "Program.__contains__" = true)
    (k_Programu_containsu : PySem.W.keepIn K (.ref f_Programu_containsu) = true)
    (a_Programu_getitemu : PySem.W.findIn K (.ref C_Program) "__getitem__" = some (some (.ref f_Programu_getitemu)))
    (i_Programu_getitemu : PySem.W.isFn K (.ref f_Programu_getitemu) = true)
    (l_Programu_getitemu : K.lookup f_Programu_getitemu = some ⟨oc13, od13, .func (PySem.W.fnOf "__getitem__" "Program.__getitem__" (defArgs s_Programu_getitemu) (defBody s_Programu_getitemu) (defScope s_Programu_getitemu) .none kV13 dc13 pm13 an13 cd13 ct13), sl13⟩)
    (c_Programu_getitemu : PySem.W.codeIn K cd13 "Program.__getitem__" = true)
    (k_Programu_getitemu : PySem.W.keepIn K (.ref f_Programu_getitemu) = true)
    (a_Programu_lenu : PySem.W.findIn K (.ref C_Program) "__len__" = some (some (.ref f_Programu_lenu)))
    (i_Programu_lenu : PySem.W.isFn K (.ref f_Programu_lenu) = true)
    (l_Programu_lenu : K.lookup f_Programu_lenu = some ⟨oc14, od14, .func (PySem.W.fnOf "__len__" "Program.__len__" (defArgs s_Programu_lenu) (defBody s_Programu_lenu) (defScope s_Programu_lenu) .none kV14 dc14 pm14 an14 cd14 ct14), sl14⟩)
    (c_Programu_lenu : PySem.W.codeIn K cd14 "Program.__len__" = true)
    (k_Programu_lenu : PySem.W.keepIn K (.ref f_Programu_lenu) = true)
    (a_Program_places : PySem.W.findIn K (.ref C_Program) "places" = some (some (.ref f_Program_places)))
    (i_Program_places : PySem.W.isFn K (.ref f_Program_places) = true)
    (l_Program_places : K.lookup f_Program_places = some ⟨oc15, od15, .func (PySem.W.fnOf "places" "Program.places" (defArgs s_Program_places) (defBody s_Program_places) (defScope s_Program_places) .none kV15 dc15 pm15 an15 cd15 ct15), sl15⟩)
    (c_Program_places : PySem.W.codeIn K cd15 "Program.places" = true)
    (k_Program_places : PySem.W.keepIn K (.ref f_Program_places) = true)
    (a_Program_followers : PySem.W.findIn K (.ref C_Program) "followers" = some (some (.ref f_Program_followers)))
    (i_Program_followers : PySem.W.isFn K (.ref f_Program_followers) = true)
    (l_Program_followers : K.lookup f_Program_followers = some ⟨oc16, od16, .func (PySem.W.fnOf "followers" "Program.followers" (defArgs s_Program_followers) (defBody s_Program_followers) (defScope s_Program_followers) .none kV16 dc16 pm16 an16 cd16 ct16), sl16⟩)
    (c_Program_followers : PySem.W.codeIn K cd16 "Program.followers" = true)
    (k_Program_followers : PySem.W.keepIn K (.ref f_Program_followers) = true)
    (a_Program_covers : PySem.W.findIn K (.ref C_Program) "covers" = some (some (.ref f_Program_covers)))
    (i_Program_covers : PySem.W.isFn K (.ref f_Program_covers) = true)
    (l_Program_covers : K.lookup f_Program_covers = some ⟨oc17, od17, .func (PySem.W.fnOf "covers" "Program.covers" (defArgs s_Program_covers) (defBody s_Program_covers) (defScope s_Program_covers) .none kV17 dc17 pm17 an17 cd17 ct17), sl17⟩)
    (c_Program_covers : PySem.W.codeIn K cd17 "Program.covers" = true)
    (k_Program_covers : PySem.W.keepIn K (.ref f_Program_covers) = true)
    (a_Program_way : PySem.W.findIn K (.ref C_Program) "way" = some (some (.ref f_Program_way)))
    (i_Program_way : PySem.W.isFn K (.ref f_Program_way) = true)
    (l_Program_way : K.lookup f_Program_way = some ⟨oc18, od18, .func (PySem.W.fnOf "way" "Program.way" (defArgs s_Program_way) (defBody s_Program_way) (defScope s_Program_way) .none kV18 dc18 pm18 an18 cd18 ct18), sl18⟩)
    (c_Program_way : PySem.W.codeIn K cd18 "Program.way" = true)
    (k_Program_way : PySem.W.keepIn K (.ref f_Program_way) = true)
    (a__law_pen : PySem.W.nsIn K mainGlobals "_law_pen" = some (some (.ref f__law_pen)))
    (l__law_pen : K.lookup f__law_pen = some ⟨oc19, od19, .func (PySem.W.fnOf "_law_pen" "_law_pen" (defArgs s__law_pen) (defBody s__law_pen) (defScope s__law_pen) .none kV19 dc19 pm19 an19 cd19 ct19), sl19⟩)
    (c__law_pen : PySem.W.codeIn K cd19 "_law_pen" = true)
    (k__law_pen : PySem.W.keepIn K (.ref f__law_pen) = true)
    (a__law_draw : PySem.W.nsIn K mainGlobals "_law_draw" = some (some (.ref f__law_draw)))
    (l__law_draw : K.lookup f__law_draw = some ⟨oc20, od20, .func (PySem.W.fnOf "_law_draw" "_law_draw" (defArgs s__law_draw) (defBody s__law_draw) (defScope s__law_draw) .none kV20 dc20 pm20 an20 cd20 ct20), sl20⟩)
    (c__law_draw : PySem.W.codeIn K cd20 "_law_draw" = true)
    (k__law_draw : PySem.W.keepIn K (.ref f__law_draw) = true)
    (a__law_forms : PySem.W.nsIn K mainGlobals "_law_forms" = some (some (.ref f__law_forms)))
    (l__law_forms : K.lookup f__law_forms = some ⟨oc21, od21, .func (PySem.W.fnOf "_law_forms" "_law_forms" (defArgs s__law_forms) (defBody s__law_forms) (defScope s__law_forms) .none kV21 dc21 pm21 an21 cd21 ct21), sl21⟩)
    (c__law_forms : PySem.W.codeIn K cd21 "_law_forms" = true)
    (k__law_forms : PySem.W.keepIn K (.ref f__law_forms) = true)
    (a__law_codeset : PySem.W.nsIn K mainGlobals "_law_codeset" = some (some (.ref f__law_codeset)))
    (l__law_codeset : K.lookup f__law_codeset = some ⟨oc22, od22, .func (PySem.W.fnOf "_law_codeset" "_law_codeset" (defArgs s__law_codeset) (defBody s__law_codeset) (defScope s__law_codeset) .none kV22 dc22 pm22 an22 cd22 ct22), sl22⟩)
    (c__law_codeset : PySem.W.codeIn K cd22 "_law_codeset" = true)
    (k__law_codeset : PySem.W.keepIn K (.ref f__law_codeset) = true)
    (a__law_byte : PySem.W.nsIn K mainGlobals "_law_byte" = some (some (.ref f__law_byte)))
    (l__law_byte : K.lookup f__law_byte = some ⟨oc23, od23, .func (PySem.W.fnOf "_law_byte" "_law_byte" (defArgs s__law_byte) (defBody s__law_byte) (defScope s__law_byte) .none kV23 dc23 pm23 an23 cd23 ct23), sl23⟩)
    (c__law_byte : PySem.W.codeIn K cd23 "_law_byte" = true)
    (k__law_byte : PySem.W.keepIn K (.ref f__law_byte) = true)
    (a__law_filled : PySem.W.nsIn K mainGlobals "_law_filled" = some (some (.ref f__law_filled)))
    (l__law_filled : K.lookup f__law_filled = some ⟨oc24, od24, .func (PySem.W.fnOf "_law_filled" "_law_filled" (defArgs s__law_filled) (defBody s__law_filled) (defScope s__law_filled) .none kV24 dc24 pm24 an24 cd24 ct24), sl24⟩)
    (c__law_filled : PySem.W.codeIn K cd24 "_law_filled" = true)
    (k__law_filled : PySem.W.keepIn K (.ref f__law_filled) = true)
    (a__law_places : PySem.W.nsIn K mainGlobals "_law_places" = some (some (.ref f__law_places)))
    (l__law_places : K.lookup f__law_places = some ⟨oc25, od25, .func (PySem.W.fnOf "_law_places" "_law_places" (defArgs s__law_places) (defBody s__law_places) (defScope s__law_places) .none kV25 dc25 pm25 an25 cd25 ct25), sl25⟩)
    (c__law_places : PySem.W.codeIn K cd25 "_law_places" = true)
    (k__law_places : PySem.W.keepIn K (.ref f__law_places) = true)
    (a__law_aimed : PySem.W.nsIn K mainGlobals "_law_aimed" = some (some (.ref f__law_aimed)))
    (l__law_aimed : K.lookup f__law_aimed = some ⟨oc26, od26, .func (PySem.W.fnOf "_law_aimed" "_law_aimed" (defArgs s__law_aimed) (defBody s__law_aimed) (defScope s__law_aimed) .none kV26 dc26 pm26 an26 cd26 ct26), sl26⟩)
    (c__law_aimed : PySem.W.codeIn K cd26 "_law_aimed" = true)
    (k__law_aimed : PySem.W.keepIn K (.ref f__law_aimed) = true)
    (a__law_laid : PySem.W.nsIn K mainGlobals "_law_laid" = some (some (.ref f__law_laid)))
    (l__law_laid : K.lookup f__law_laid = some ⟨oc27, od27, .func (PySem.W.fnOf "_law_laid" "_law_laid" (defArgs s__law_laid) (defBody s__law_laid) (defScope s__law_laid) .none kV27 dc27 pm27 an27 cd27 ct27), sl27⟩)
    (c__law_laid : PySem.W.codeIn K cd27 "_law_laid" = true)
    (k__law_laid : PySem.W.keepIn K (.ref f__law_laid) = true)
    (a__law_follow : PySem.W.nsIn K mainGlobals "_law_follow" = some (some (.ref f__law_follow)))
    (l__law_follow : K.lookup f__law_follow = some ⟨oc28, od28, .func (PySem.W.fnOf "_law_follow" "_law_follow" (defArgs s__law_follow) (defBody s__law_follow) (defScope s__law_follow) .none kV28 dc28 pm28 an28 cd28 ct28), sl28⟩)
    (c__law_follow : PySem.W.codeIn K cd28 "_law_follow" = true)
    (k__law_follow : PySem.W.keepIn K (.ref f__law_follow) = true)
    (a__law_reach : PySem.W.nsIn K mainGlobals "_law_reach" = some (some (.ref f__law_reach)))
    (l__law_reach : K.lookup f__law_reach = some ⟨oc29, od29, .func (PySem.W.fnOf "_law_reach" "_law_reach" (defArgs s__law_reach) (defBody s__law_reach) (defScope s__law_reach) .none kV29 dc29 pm29 an29 cd29 ct29), sl29⟩)
    (c__law_reach : PySem.W.codeIn K cd29 "_law_reach" = true)
    (k__law_reach : PySem.W.keepIn K (.ref f__law_reach) = true)
    (a__law_values : PySem.W.nsIn K mainGlobals "_law_values" = some (some (.ref f__law_values)))
    (l__law_values : K.lookup f__law_values = some ⟨oc30, od30, .func (PySem.W.fnOf "_law_values" "_law_values" (defArgs s__law_values) (defBody s__law_values) (defScope s__law_values) .none kV30 dc30 pm30 an30 cd30 ct30), sl30⟩)
    (c__law_values : PySem.W.codeIn K cd30 "_law_values" = true)
    (k__law_values : PySem.W.keepIn K (.ref f__law_values) = true)
    (a__law_roots : PySem.W.nsIn K mainGlobals "_law_roots" = some (some (.ref f__law_roots)))
    (l__law_roots : K.lookup f__law_roots = some ⟨oc31, od31, .func (PySem.W.fnOf "_law_roots" "_law_roots" (defArgs s__law_roots) (defBody s__law_roots) (defScope s__law_roots) .none kV31 dc31 pm31 an31 cd31 ct31), sl31⟩)
    (c__law_roots : PySem.W.codeIn K cd31 "_law_roots" = true)
    (k__law_roots : PySem.W.keepIn K (.ref f__law_roots) = true)
    (a__law_made : PySem.W.nsIn K mainGlobals "_law_made" = some (some (.ref f__law_made)))
    (l__law_made : K.lookup f__law_made = some ⟨oc32, od32, .func (PySem.W.fnOf "_law_made" "_law_made" (defArgs s__law_made) (defBody s__law_made) (defScope s__law_made) .none kV32 dc32 pm32 an32 cd32 ct32), sl32⟩)
    (c__law_made : PySem.W.codeIn K cd32 "_law_made" = true)
    (k__law_made : PySem.W.keepIn K (.ref f__law_made) = true)
    (a__law_all : PySem.W.nsIn K mainGlobals "_law_all" = some (some (.ref f__law_all)))
    (l__law_all : K.lookup f__law_all = some ⟨oc33, od33, .func (PySem.W.fnOf "_law_all" "_law_all" (defArgs s__law_all) (defBody s__law_all) (defScope s__law_all) .none kV33 dc33 pm33 an33 cd33 ct33), sl33⟩)
    (c__law_all : PySem.W.codeIn K cd33 "_law_all" = true)
    (k__law_all : PySem.W.keepIn K (.ref f__law_all) = true)
    (a__law_joined_right : PySem.W.nsIn K mainGlobals "_law_joined_right" = some (some (.ref f__law_joined_right)))
    (l__law_joined_right : K.lookup f__law_joined_right = some ⟨oc34, od34, .func (PySem.W.fnOf "_law_joined_right" "_law_joined_right" (defArgs s__law_joined_right) (defBody s__law_joined_right) (defScope s__law_joined_right) .none kV34 dc34 pm34 an34 cd34 ct34), sl34⟩)
    (c__law_joined_right : PySem.W.codeIn K cd34 "_law_joined_right" = true)
    (k__law_joined_right : PySem.W.keepIn K (.ref f__law_joined_right) = true)
    (a__law_bytes_right : PySem.W.nsIn K mainGlobals "_law_bytes_right" = some (some (.ref f__law_bytes_right)))
    (l__law_bytes_right : K.lookup f__law_bytes_right = some ⟨oc35, od35, .func (PySem.W.fnOf "_law_bytes_right" "_law_bytes_right" (defArgs s__law_bytes_right) (defBody s__law_bytes_right) (defScope s__law_bytes_right) .none kV35 dc35 pm35 an35 cd35 ct35), sl35⟩)
    (c__law_bytes_right : PySem.W.codeIn K cd35 "_law_bytes_right" = true)
    (k__law_bytes_right : PySem.W.keepIn K (.ref f__law_bytes_right) = true)
    (a__law_later_right : PySem.W.nsIn K mainGlobals "_law_later_right" = some (some (.ref f__law_later_right)))
    (l__law_later_right : K.lookup f__law_later_right = some ⟨oc36, od36, .func (PySem.W.fnOf "_law_later_right" "_law_later_right" (defArgs s__law_later_right) (defBody s__law_later_right) (defScope s__law_later_right) .none kV36 dc36 pm36 an36 cd36 ct36), sl36⟩)
    (c__law_later_right : PySem.W.codeIn K cd36 "_law_later_right" = true)
    (k__law_later_right : PySem.W.keepIn K (.ref f__law_later_right) = true)
    (a__law_ways_right : PySem.W.nsIn K mainGlobals "_law_ways_right" = some (some (.ref f__law_ways_right)))
    (l__law_ways_right : K.lookup f__law_ways_right = some ⟨oc37, od37, .func (PySem.W.fnOf "_law_ways_right" "_law_ways_right" (defArgs s__law_ways_right) (defBody s__law_ways_right) (defScope s__law_ways_right) .none kV37 dc37 pm37 an37 cd37 ct37), sl37⟩)
    (c__law_ways_right : PySem.W.codeIn K cd37 "_law_ways_right" = true)
    (k__law_ways_right : PySem.W.keepIn K (.ref f__law_ways_right) = true)
    (a_law : PySem.W.nsIn K mainGlobals "law" = some (some (.ref f_law)))
    (l_law : K.lookup f_law = some ⟨oc38, od38, .func (PySem.W.fnOf "law" "law" (defArgs s_law) (defBody s_law) (defScope s_law) .none kV38 dc38 pm38 an38 cd38 ct38), sl38⟩)
    (c_law : PySem.W.codeIn K cd38 "law" = true)
    (k_law : PySem.W.keepIn K (.ref f_law) = true)
    (pg_Form : PySem.W.plainGet K C_Form Str.empty = true)
    (hd_Form : PySem.W.hasDictIn K C_Form = true)
    (po_Form : PySem.W.plainOver K C_Form = true)
    (sa_Form : PySem.W.findIn K (.ref C_Form) "__setattr__" = some (some (.builtin "object.__setattr__")))
    (mk_Form : PySem.W.makesIn K C_Form = true)
    (kc_Form : PySem.W.keepIn K (.ref C_Form) = true)
    (no_Form_name : PySem.W.findIn K (.ref C_Form) "name" = some none)
    (no_Form_length : PySem.W.findIn K (.ref C_Form) "length" = some none)
    (no_Form_flow : PySem.W.findIn K (.ref C_Form) "flow" = some none)
    (pg_CodeSet : PySem.W.plainGet K C_CodeSet Str.empty = true)
    (hd_CodeSet : PySem.W.hasDictIn K C_CodeSet = true)
    (po_CodeSet : PySem.W.plainOver K C_CodeSet = true)
    (sa_CodeSet : PySem.W.findIn K (.ref C_CodeSet) "__setattr__" = some (some (.builtin "object.__setattr__")))
    (mk_CodeSet : PySem.W.makesIn K C_CodeSet = true)
    (kc_CodeSet : PySem.W.keepIn K (.ref C_CodeSet) = true)
    (no_CodeSet_stop : PySem.W.findIn K (.ref C_CodeSet) "stop" = some none)
    (no_CodeSet_order : PySem.W.findIn K (.ref C_CodeSet) "order" = some none)
    (no_CodeSet_table : PySem.W.findIn K (.ref C_CodeSet) "table" = some none)
    (pg_Program : PySem.W.plainGet K C_Program Str.empty = true)
    (hd_Program : PySem.W.hasDictIn K C_Program = true)
    (po_Program : PySem.W.plainOver K C_Program = true)
    (sa_Program : PySem.W.findIn K (.ref C_Program) "__setattr__" = some (some (.builtin "object.__setattr__")))
    (mk_Program : PySem.W.makesIn K C_Program = true)
    (kc_Program : PySem.W.keepIn K (.ref C_Program) = true)
    (no_Program_roots : PySem.W.findIn K (.ref C_Program) "roots" = some none)
    (no_Program_laid : PySem.W.findIn K (.ref C_Program) "laid" = some none)
    (no_Program_spots : PySem.W.findIn K (.ref C_Program) "spots" = some none)
    (no_Program_leads : PySem.W.findIn K (.ref C_Program) "leads" = some none)
    (z_len : PySem.W.nsIn K mainGlobals "len" = some none)
    (z_abs : PySem.W.nsIn K mainGlobals "abs" = some none)
    (z_int : PySem.W.nsIn K mainGlobals "int" = some none)
    (z_list : PySem.W.nsIn K mainGlobals "list" = some none)
    (z_range : PySem.W.nsIn K mainGlobals "range" = some none)
    (z_isinstance : PySem.W.nsIn K mainGlobals "isinstance" = some none)
    (z_bool : PySem.W.nsIn K mainGlobals "bool" = some none)
    (z_str : PySem.W.nsIn K mainGlobals "str" = some none)
    (z_tuple : PySem.W.nsIn K mainGlobals "tuple" = some none)
    (z_all : PySem.W.nsIn K mainGlobals "all" = some none)
    (z_set : PySem.W.nsIn K mainGlobals "set" = some none)
    (z_sorted : PySem.W.nsIn K mainGlobals "sorted" = some none)
    (z_ValueError : PySem.W.nsIn K mainGlobals "ValueError" = some none)
    (z_min : PySem.W.nsIn K mainGlobals "min" = some none)
    (z_max : PySem.W.nsIn K mainGlobals "max" = some none)
    (v_LETTERS : PySem.W.nsIn K mainGlobals "LETTERS" = some (some (.str "abcdefghijklmnopqrstuvwxyz" t_LETTERS)))
    (zsuper : PySem.W.nsIn K mainGlobals "super" = some none)
    (znoop : PySem.W.nsIn K cStatics "thirdparty.any" = some none)
    (zgcn : PySem.W.specialIn K (.builtin "object.__class__") "__get__" = some (some (.builtin "getset_descriptor.__get__")))
    (zgct : PySem.W.takesIn K (.builtin "object.__class__") = some true)
    (ztop : ((PySem.Challenge.pw_codestitch_k15_whole_a_program_by_its_ro).main.scope.names.lookup ("super" : Str)).isSome = false)
    (aC_NotWhole : PySem.W.nsIn K mainGlobals "NotWhole" = some (some (.ref C_NotWhole)))
    (lkC_NotWhole : K.lookup C_NotWhole = some (excClassObj nm39 q39 C_NotWhole N39 bs39 bm39 true sn39 sub39 ab39 col39 dd39 ka39 kb39 kc39 kd39 ke39 "ValueError.__new__"))
    (bmC_NotWhole : PySem.HandSPX.refsVE bm39 = true)
    (saC_NotWhole : PySem.W.findIn K (.ref C_NotWhole) "__setattr__" = some (some (.builtin "object.__setattr__")))
    (exC_NotWhole : PySem.W.subIn K (.ref C_NotWhole) (.type "BaseException") = some true)
    (tyC_NotWhole : PySem.W.typeIn K (.ref C_NotWhole) = some (.type "type"))
    (kpC_NotWhole : PySem.W.keepIn K (.ref C_NotWhole) = true)
    (inC_NotWhole : PySem.W.findIn K (.ref C_NotWhole) "__init__" = some (some (.ref f_NotWholeu_initu)))
    (tiC_NotWhole : PySem.W.typeIn K (.ref f_NotWholeu_initu) = some (.type "function"))
    (noC_NotWhole_place : PySem.W.findIn K (.ref C_NotWhole) "place" = some none)
    (gaC_NotWhole : PySem.W.findIn K (.ref C_NotWhole) "__getattribute__" = some (some (.builtin "BaseException.__getattribute__")))
    (ggC_NotWhole : PySem.W.findIn K (.ref C_NotWhole) "__getattr__" = some none)
    (hdC_NotWhole : PySem.W.hasDictIn K C_NotWhole = true)
    (gcC_NotWhole : PySem.W.findIn K (.ref C_NotWhole) "__class__" = some (some (.builtin "object.__class__")))
    (moC_NotWhole : PySem.W.mroIn K C_NotWhole (.type "object") = some true)
    (l_NotWholeu_initu : K.lookup f_NotWholeu_initu = some ⟨oc39, od39, .func (PySem.W.ksFn "__init__" "NotWhole.__init__" (defArgs s_NotWholeu_initu) (defBody s_NotWholeu_initu) (defScope s_NotWholeu_initu) .none kV39 dc39 pm39 an39 (.ref cda39) ct39 cc39), sl39⟩)
    (c_NotWholeu_initu : PySem.W.codeIn K (.ref cda39) "NotWhole.__init__" = true)
    (k_NotWholeu_initu : PySem.W.keepIn K (.ref f_NotWholeu_initu) = true)
    (cl_NotWholeu_initu : K.lookup cda39 = some ⟨ccl39, ccd39, .fields vs39, ccs39⟩)
    (cf_NotWholeu_initu : vs39[2]? = some (.str file39 tf39))
    (fe_NotWholeu_initu : (((PySem.Challenge.pw_codestitch_k15_whole_a_program_by_its_ro).main.file : Str) == file39) = true)
    (ce_NotWholeu_initu : K.lookup cc39 = some ⟨ocl39, ocd39, .cell (some (.ref C_NotWhole)), ocs39⟩)
    (mrC_NotWhole : PySem.W.mroIn K C_NotWhole (.ref C_NotWhole) = some true)
    (suC_NotWhole : PySem.W.ks_superIn K C_NotWhole C_NotWhole "__init__" = some (some (.builtin "ValueError.__init__")))
    (svC_NotWhole : PySem.W.subIn K (.ref C_NotWhole) (.type "ValueError") = some true)
    (aC_BadAddress : PySem.W.nsIn K mainGlobals "BadAddress" = some (some (.ref C_BadAddress)))
    (lkC_BadAddress : K.lookup C_BadAddress = some (excClassObj nm40 q40 C_BadAddress N40 bs40 bm40 true sn40 sub40 ab40 col40 dd40 ka40 kb40 kc40 kd40 ke40 "ValueError.__new__"))
    (bmC_BadAddress : PySem.HandSPX.refsVE bm40 = true)
    (saC_BadAddress : PySem.W.findIn K (.ref C_BadAddress) "__setattr__" = some (some (.builtin "object.__setattr__")))
    (exC_BadAddress : PySem.W.subIn K (.ref C_BadAddress) (.type "BaseException") = some true)
    (tyC_BadAddress : PySem.W.typeIn K (.ref C_BadAddress) = some (.type "type"))
    (kpC_BadAddress : PySem.W.keepIn K (.ref C_BadAddress) = true)
    (inC_BadAddress : PySem.W.findIn K (.ref C_BadAddress) "__init__" = some (some (.ref f_BadAddressu_initu)))
    (tiC_BadAddress : PySem.W.typeIn K (.ref f_BadAddressu_initu) = some (.type "function"))
    (noC_BadAddress_at : PySem.W.findIn K (.ref C_BadAddress) "at" = some none)
    (gaC_BadAddress : PySem.W.findIn K (.ref C_BadAddress) "__getattribute__" = some (some (.builtin "BaseException.__getattribute__")))
    (ggC_BadAddress : PySem.W.findIn K (.ref C_BadAddress) "__getattr__" = some none)
    (hdC_BadAddress : PySem.W.hasDictIn K C_BadAddress = true)
    (gcC_BadAddress : PySem.W.findIn K (.ref C_BadAddress) "__class__" = some (some (.builtin "object.__class__")))
    (moC_BadAddress : PySem.W.mroIn K C_BadAddress (.type "object") = some true)
    (l_BadAddressu_initu : K.lookup f_BadAddressu_initu = some ⟨oc40, od40, .func (PySem.W.ksFn "__init__" "BadAddress.__init__" (defArgs s_BadAddressu_initu) (defBody s_BadAddressu_initu) (defScope s_BadAddressu_initu) .none kV40 dc40 pm40 an40 (.ref cda40) ct40 cc40), sl40⟩)
    (c_BadAddressu_initu : PySem.W.codeIn K (.ref cda40) "BadAddress.__init__" = true)
    (k_BadAddressu_initu : PySem.W.keepIn K (.ref f_BadAddressu_initu) = true)
    (cl_BadAddressu_initu : K.lookup cda40 = some ⟨ccl40, ccd40, .fields vs40, ccs40⟩)
    (cf_BadAddressu_initu : vs40[2]? = some (.str file40 tf40))
    (fe_BadAddressu_initu : (((PySem.Challenge.pw_codestitch_k15_whole_a_program_by_its_ro).main.file : Str) == file40) = true)
    (ce_BadAddressu_initu : K.lookup cc40 = some ⟨ocl40, ocd40, .cell (some (.ref C_BadAddress)), ocs40⟩)
    (mrC_BadAddress : PySem.W.mroIn K C_BadAddress (.ref C_BadAddress) = some true)
    (suC_BadAddress : PySem.W.ks_superIn K C_BadAddress C_BadAddress "__init__" = some (some (.builtin "ValueError.__init__")))
    (svC_BadAddress : PySem.W.subIn K (.ref C_BadAddress) (.type "ValueError") = some true)
    (exm_NotWhole_NotWhole : PySem.W.exmOne K (.ref C_NotWhole) (.ref C_NotWhole) = some true)
    (spi_Programu_getitemu : PySem.W.fnIn K f_Programu_getitemu = true)
    (coi_CodeSet : PySem.W.fnIn K f_CodeSetu_callu = true)
    (rd_Form : PySem.W.readsIn K C_Form (.type "type") = true)
    (gat_Form : PySem.W.specialIn K (.ref C_Form) "__getattribute__" = some (some (.builtin "type.__getattribute__")))
    (rd_CodeSet : PySem.W.readsIn K C_CodeSet (.type "type") = true)
    (gat_CodeSet : PySem.W.specialIn K (.ref C_CodeSet) "__getattribute__" = some (some (.builtin "type.__getattribute__")))
    (cvF : PySem.W.findCls K (.ref C_Form) (.type "type") "FLOWS" = some (.val (.ref a_FLOWS)))
    (lkF : K.lookup a_FLOWS = some ⟨.type "tuple", odF, .seq #[.str "next" tF1, .str "jump" tF2, .str "test" tF3, .str "end" tF4] nF, slF⟩)
    (cvM : PySem.W.findCls K (.ref C_CodeSet) (.type "type") "MOST_FORMS" = some (.val (.int 16 tM))) :
    ∃ fd : FuncData, (∀ (s : Shared) (v : Value), BindsTo s fd ⟨[v], []⟩ [("_law_script", v)]) ∧ ∀ base : Heap, K.In base → base.Ns mainGlobals mg → FnOk PySem.Challenge.pw_codestitch_k15_whole_a_program_by_its_ro w K mg base CX0 12 fa fd ["_law_script"] (spLaw K) := by
  have e := hfa.symm.trans (PySem.W.mg_of X G a_law)
  cases e
  have F_is_byte := fun_mk (st := s_is_byte) l_is_byte c_is_byte k_is_byte
  have F_is_name := fun_mk (st := s_is_name) l_is_name c_is_name k_is_name
  have F_Formu_initu := fun_mk (st := s_Formu_initu) l_Formu_initu c_Formu_initu k_Formu_initu
  have F_check_forms := fun_mk (st := s_check_forms) l_check_forms c_check_forms k_check_forms
  have F_CodeSetu_initu := fun_mk (st := s_CodeSetu_initu) l_CodeSetu_initu c_CodeSetu_initu k_CodeSetu_initu
  have F_CodeSetu_callu := fun_mk (st := s_CodeSetu_callu) l_CodeSetu_callu c_CodeSetu_callu k_CodeSetu_callu
  have F_CodeSet_followers := fun_mk (st := s_CodeSet_followers) l_CodeSet_followers c_CodeSet_followers k_CodeSet_followers
  have F_instruction_at := fun_mk (st := s_instruction_at) l_instruction_at c_instruction_at k_instruction_at
  have F_explore := fun_mk (st := s_explore) l_explore c_explore k_explore
  have F_chain := fun_mk (st := s_chain) l_chain c_chain k_chain
  have F_Programu_initu := fun_mk (st := s_Programu_initu) l_Programu_initu c_Programu_initu k_Programu_initu
  have F_Programu_containsu := fun_mk (st := s_Programu_containsu) l_Programu_containsu c_Programu_containsu k_Programu_containsu
  have F_Programu_getitemu := fun_mk (st := s_Programu_getitemu) l_Programu_getitemu c_Programu_getitemu k_Programu_getitemu
  have F_Programu_lenu := fun_mk (st := s_Programu_lenu) l_Programu_lenu c_Programu_lenu k_Programu_lenu
  have F_Program_places := fun_mk (st := s_Program_places) l_Program_places c_Program_places k_Program_places
  have F_Program_followers := fun_mk (st := s_Program_followers) l_Program_followers c_Program_followers k_Program_followers
  have F_Program_covers := fun_mk (st := s_Program_covers) l_Program_covers c_Program_covers k_Program_covers
  have F_Program_way := fun_mk (st := s_Program_way) l_Program_way c_Program_way k_Program_way
  have F__law_pen := fun_mk (st := s__law_pen) l__law_pen c__law_pen k__law_pen
  have F__law_draw := fun_mk (st := s__law_draw) l__law_draw c__law_draw k__law_draw
  have F__law_forms := fun_mk (st := s__law_forms) l__law_forms c__law_forms k__law_forms
  have F__law_codeset := fun_mk (st := s__law_codeset) l__law_codeset c__law_codeset k__law_codeset
  have F__law_byte := fun_mk (st := s__law_byte) l__law_byte c__law_byte k__law_byte
  have F__law_filled := fun_mk (st := s__law_filled) l__law_filled c__law_filled k__law_filled
  have F__law_places := fun_mk (st := s__law_places) l__law_places c__law_places k__law_places
  have F__law_aimed := fun_mk (st := s__law_aimed) l__law_aimed c__law_aimed k__law_aimed
  have F__law_laid := fun_mk (st := s__law_laid) l__law_laid c__law_laid k__law_laid
  have F__law_follow := fun_mk (st := s__law_follow) l__law_follow c__law_follow k__law_follow
  have F__law_reach := fun_mk (st := s__law_reach) l__law_reach c__law_reach k__law_reach
  have F__law_values := fun_mk (st := s__law_values) l__law_values c__law_values k__law_values
  have F__law_roots := fun_mk (st := s__law_roots) l__law_roots c__law_roots k__law_roots
  have F__law_made := fun_mk (st := s__law_made) l__law_made c__law_made k__law_made
  have F__law_all := fun_mk (st := s__law_all) l__law_all c__law_all k__law_all
  have F__law_joined_right := fun_mk (st := s__law_joined_right) l__law_joined_right c__law_joined_right k__law_joined_right
  have F__law_bytes_right := fun_mk (st := s__law_bytes_right) l__law_bytes_right c__law_bytes_right k__law_bytes_right
  have F__law_later_right := fun_mk (st := s__law_later_right) l__law_later_right c__law_later_right k__law_later_right
  have F__law_ways_right := fun_mk (st := s__law_ways_right) l__law_ways_right c__law_ways_right k__law_ways_right
  have F_law := fun_mk (st := s_law) l_law c_law k_law
  have F_NotWholeu_initu : Vc.FunS PySem.Challenge.pw_codestitch_k15_whole_a_program_by_its_ro K mg "__init__" "NotWhole.__init__" s_NotWholeu_initu f_NotWholeu_initu (PySem.W.ksFn "__init__" "NotWhole.__init__" (defArgs s_NotWholeu_initu) (defBody s_NotWholeu_initu) (defScope s_NotWholeu_initu) .none kV39 dc39 pm39 an39 (.ref cda39) ct39 cc39) C_NotWhole "self" := ⟨⟨_, _, _, _, _, _, _, _, _, _, rfl, l_NotWholeu_initu, c_NotWholeu_initu, ⟨⟨_, _, _, l_NotWholeu_initu⟩, ⟨_, rfl, rfl⟩, ⟨_, _, _, _, _, _, cl_NotWholeu_initu, cf_NotWholeu_initu, fe_NotWholeu_initu⟩, ⟨_, _, _, ce_NotWholeu_initu⟩, mrC_NotWhole, suC_NotWhole, svC_NotWhole, PySem.W.mg_none_of X G zsuper, znoop, ztop⟩⟩, k_NotWholeu_initu⟩
  have F_BadAddressu_initu : Vc.FunS PySem.Challenge.pw_codestitch_k15_whole_a_program_by_its_ro K mg "__init__" "BadAddress.__init__" s_BadAddressu_initu f_BadAddressu_initu (PySem.W.ksFn "__init__" "BadAddress.__init__" (defArgs s_BadAddressu_initu) (defBody s_BadAddressu_initu) (defScope s_BadAddressu_initu) .none kV40 dc40 pm40 an40 (.ref cda40) ct40 cc40) C_BadAddress "self" := ⟨⟨_, _, _, _, _, _, _, _, _, _, rfl, l_BadAddressu_initu, c_BadAddressu_initu, ⟨⟨_, _, _, l_BadAddressu_initu⟩, ⟨_, rfl, rfl⟩, ⟨_, _, _, _, _, _, cl_BadAddressu_initu, cf_BadAddressu_initu, fe_BadAddressu_initu⟩, ⟨_, _, _, ce_BadAddressu_initu⟩, mrC_BadAddress, suC_BadAddress, svC_BadAddress, PySem.W.mg_none_of X G zsuper, znoop, ztop⟩⟩, k_BadAddressu_initu⟩
  have T : Txt K mg { C_Form := C_Form, C_CodeSet := C_CodeSet, C_Program := C_Program, f_is_byte := f_is_byte, d_is_byte := PySem.W.fnOf "is_byte" "is_byte" (defArgs s_is_byte) (defBody s_is_byte) (defScope s_is_byte) .none kV1 dc1 pm1 an1 cd1 ct1, f_is_name := f_is_name, d_is_name := PySem.W.fnOf "is_name" "is_name" (defArgs s_is_name) (defBody s_is_name) (defScope s_is_name) .none kV2 dc2 pm2 an2 cd2 ct2, f_Formu_initu := f_Formu_initu, d_Formu_initu := PySem.W.fnOf "__init__" "Form.__init__" (defArgs s_Formu_initu) (defBody s_Formu_initu) (defScope s_Formu_initu) .none kV3 dc3 pm3 an3 cd3 ct3, f_check_forms := f_check_forms, d_check_forms := PySem.W.fnOf "check_forms" "check_forms" (defArgs s_check_forms) (defBody s_check_forms) (defScope s_check_forms) .none kV4 dc4 pm4 an4 cd4 ct4, f_CodeSetu_initu := f_CodeSetu_initu, d_CodeSetu_initu := PySem.W.fnOf "__init__" "CodeSet.__init__" (defArgs s_CodeSetu_initu) (defBody s_CodeSetu_initu) (defScope s_CodeSetu_initu) .none kV5 dc5 pm5 an5 cd5 ct5, f_CodeSetu_callu := f_CodeSetu_callu, d_CodeSetu_callu := PySem.W.fnOf "__call__" "CodeSet.__call__" (defArgs s_CodeSetu_callu) (defBody s_CodeSetu_callu) (defScope s_CodeSetu_callu) .none kV6 dc6 pm6 an6 cd6 ct6, f_CodeSet_followers := f_CodeSet_followers, d_CodeSet_followers := PySem.W.fnOf "followers" "CodeSet.followers" (defArgs s_CodeSet_followers) (defBody s_CodeSet_followers) (defScope s_CodeSet_followers) .none kV7 dc7 pm7 an7 cd7 ct7, f_instruction_at := f_instruction_at, d_instruction_at := PySem.W.fnOf "instruction_at" "instruction_at" (defArgs s_instruction_at) (defBody s_instruction_at) (defScope s_instruction_at) .none kV8 dc8 pm8 an8 cd8 ct8, f_explore := f_explore, d_explore := PySem.W.fnOf "explore" "explore" (defArgs s_explore) (defBody s_explore) (defScope s_explore) .none kV9 dc9 pm9 an9 cd9 ct9, f_chain := f_chain, d_chain := PySem.W.fnOf "chain" "chain" (defArgs s_chain) (defBody s_chain) (defScope s_chain) .none kV10 dc10 pm10 an10 cd10 ct10, f_Programu_initu := f_Programu_initu, d_Programu_initu := PySem.W.fnOf "__init__" "Program.__init__" (defArgs s_Programu_initu) (defBody s_Programu_initu) (defScope s_Programu_initu) .none kV11 dc11 pm11 an11 cd11 ct11, f_Programu_containsu := f_Programu_containsu, d_Programu_containsu := PySem.W.fnOf "__contains__" "Program.__contains__" (defArgs s_Programu_containsu) (defBody s_Programu_containsu) (defScope s_Programu_containsu) .none kV12 dc12 pm12 an12 cd12 ct12, f_Programu_getitemu := f_Programu_getitemu, d_Programu_getitemu := PySem.W.fnOf "__getitem__" "Program.__getitem__" (defArgs s_Programu_getitemu) (defBody s_Programu_getitemu) (defScope s_Programu_getitemu) .none kV13 dc13 pm13 an13 cd13 ct13, f_Programu_lenu := f_Programu_lenu, d_Programu_lenu := PySem.W.fnOf "__len__" "Program.__len__" (defArgs s_Programu_lenu) (defBody s_Programu_lenu) (defScope s_Programu_lenu) .none kV14 dc14 pm14 an14 cd14 ct14, f_Program_places := f_Program_places, d_Program_places := PySem.W.fnOf "places" "Program.places" (defArgs s_Program_places) (defBody s_Program_places) (defScope s_Program_places) .none kV15 dc15 pm15 an15 cd15 ct15, f_Program_followers := f_Program_followers, d_Program_followers := PySem.W.fnOf "followers" "Program.followers" (defArgs s_Program_followers) (defBody s_Program_followers) (defScope s_Program_followers) .none kV16 dc16 pm16 an16 cd16 ct16, f_Program_covers := f_Program_covers, d_Program_covers := PySem.W.fnOf "covers" "Program.covers" (defArgs s_Program_covers) (defBody s_Program_covers) (defScope s_Program_covers) .none kV17 dc17 pm17 an17 cd17 ct17, f_Program_way := f_Program_way, d_Program_way := PySem.W.fnOf "way" "Program.way" (defArgs s_Program_way) (defBody s_Program_way) (defScope s_Program_way) .none kV18 dc18 pm18 an18 cd18 ct18, f__law_pen := f__law_pen, d__law_pen := PySem.W.fnOf "_law_pen" "_law_pen" (defArgs s__law_pen) (defBody s__law_pen) (defScope s__law_pen) .none kV19 dc19 pm19 an19 cd19 ct19, f__law_draw := f__law_draw, d__law_draw := PySem.W.fnOf "_law_draw" "_law_draw" (defArgs s__law_draw) (defBody s__law_draw) (defScope s__law_draw) .none kV20 dc20 pm20 an20 cd20 ct20, f__law_forms := f__law_forms, d__law_forms := PySem.W.fnOf "_law_forms" "_law_forms" (defArgs s__law_forms) (defBody s__law_forms) (defScope s__law_forms) .none kV21 dc21 pm21 an21 cd21 ct21, f__law_codeset := f__law_codeset, d__law_codeset := PySem.W.fnOf "_law_codeset" "_law_codeset" (defArgs s__law_codeset) (defBody s__law_codeset) (defScope s__law_codeset) .none kV22 dc22 pm22 an22 cd22 ct22, f__law_byte := f__law_byte, d__law_byte := PySem.W.fnOf "_law_byte" "_law_byte" (defArgs s__law_byte) (defBody s__law_byte) (defScope s__law_byte) .none kV23 dc23 pm23 an23 cd23 ct23, f__law_filled := f__law_filled, d__law_filled := PySem.W.fnOf "_law_filled" "_law_filled" (defArgs s__law_filled) (defBody s__law_filled) (defScope s__law_filled) .none kV24 dc24 pm24 an24 cd24 ct24, f__law_places := f__law_places, d__law_places := PySem.W.fnOf "_law_places" "_law_places" (defArgs s__law_places) (defBody s__law_places) (defScope s__law_places) .none kV25 dc25 pm25 an25 cd25 ct25, f__law_aimed := f__law_aimed, d__law_aimed := PySem.W.fnOf "_law_aimed" "_law_aimed" (defArgs s__law_aimed) (defBody s__law_aimed) (defScope s__law_aimed) .none kV26 dc26 pm26 an26 cd26 ct26, f__law_laid := f__law_laid, d__law_laid := PySem.W.fnOf "_law_laid" "_law_laid" (defArgs s__law_laid) (defBody s__law_laid) (defScope s__law_laid) .none kV27 dc27 pm27 an27 cd27 ct27, f__law_follow := f__law_follow, d__law_follow := PySem.W.fnOf "_law_follow" "_law_follow" (defArgs s__law_follow) (defBody s__law_follow) (defScope s__law_follow) .none kV28 dc28 pm28 an28 cd28 ct28, f__law_reach := f__law_reach, d__law_reach := PySem.W.fnOf "_law_reach" "_law_reach" (defArgs s__law_reach) (defBody s__law_reach) (defScope s__law_reach) .none kV29 dc29 pm29 an29 cd29 ct29, f__law_values := f__law_values, d__law_values := PySem.W.fnOf "_law_values" "_law_values" (defArgs s__law_values) (defBody s__law_values) (defScope s__law_values) .none kV30 dc30 pm30 an30 cd30 ct30, f__law_roots := f__law_roots, d__law_roots := PySem.W.fnOf "_law_roots" "_law_roots" (defArgs s__law_roots) (defBody s__law_roots) (defScope s__law_roots) .none kV31 dc31 pm31 an31 cd31 ct31, f__law_made := f__law_made, d__law_made := PySem.W.fnOf "_law_made" "_law_made" (defArgs s__law_made) (defBody s__law_made) (defScope s__law_made) .none kV32 dc32 pm32 an32 cd32 ct32, f__law_all := f__law_all, d__law_all := PySem.W.fnOf "_law_all" "_law_all" (defArgs s__law_all) (defBody s__law_all) (defScope s__law_all) .none kV33 dc33 pm33 an33 cd33 ct33, f__law_joined_right := f__law_joined_right, d__law_joined_right := PySem.W.fnOf "_law_joined_right" "_law_joined_right" (defArgs s__law_joined_right) (defBody s__law_joined_right) (defScope s__law_joined_right) .none kV34 dc34 pm34 an34 cd34 ct34, f__law_bytes_right := f__law_bytes_right, d__law_bytes_right := PySem.W.fnOf "_law_bytes_right" "_law_bytes_right" (defArgs s__law_bytes_right) (defBody s__law_bytes_right) (defScope s__law_bytes_right) .none kV35 dc35 pm35 an35 cd35 ct35, f__law_later_right := f__law_later_right, d__law_later_right := PySem.W.fnOf "_law_later_right" "_law_later_right" (defArgs s__law_later_right) (defBody s__law_later_right) (defScope s__law_later_right) .none kV36 dc36 pm36 an36 cd36 ct36, f__law_ways_right := f__law_ways_right, d__law_ways_right := PySem.W.fnOf "_law_ways_right" "_law_ways_right" (defArgs s__law_ways_right) (defBody s__law_ways_right) (defScope s__law_ways_right) .none kV37 dc37 pm37 an37 cd37 ct37, f_law := fa, d_law := PySem.W.fnOf "law" "law" (defArgs s_law) (defBody s_law) (defScope s_law) .none kV38 dc38 pm38 an38 cd38 ct38, C_NotWhole := C_NotWhole, f_NotWholeu_initu := f_NotWholeu_initu, d_NotWholeu_initu := PySem.W.ksFn "__init__" "NotWhole.__init__" (defArgs s_NotWholeu_initu) (defBody s_NotWholeu_initu) (defScope s_NotWholeu_initu) .none kV39 dc39 pm39 an39 (.ref cda39) ct39 cc39, C_BadAddress := C_BadAddress, f_BadAddressu_initu := f_BadAddressu_initu, d_BadAddressu_initu := PySem.W.ksFn "__init__" "BadAddress.__init__" (defArgs s_BadAddressu_initu) (defBody s_BadAddressu_initu) (defScope s_BadAddressu_initu) .none kV40 dc40 pm40 an40 (.ref cda40) ct40 cc40, a_FLOWS := a_FLOWS } := {
    g_Form := (PySem.W.mg_of X G aC_Form),
    g_CodeSet := (PySem.W.mg_of X G aC_CodeSet),
    g_Program := (PySem.W.mg_of X G aC_Program),
    g_is_byte := (PySem.W.mg_of X G a_is_byte),
    F_is_byte := (F_is_byte),
    b_is_byte := (F_is_byte.binds (ps := ["value"]) fun _ _ _ _ _ _ us hl => match us, hl with | [_], _ => rfl),
    g_is_name := (PySem.W.mg_of X G a_is_name),
    F_is_name := (F_is_name),
    b_is_name := (F_is_name.binds (ps := ["value"]) fun _ _ _ _ _ _ us hl => match us, hl with | [_], _ => rfl),
    F_Formu_initu := (F_Formu_initu),
    b_Formu_initu := (F_Formu_initu.binds (ps := ["self", "name", "length", "flow"]) fun _ _ _ _ _ _ us hl => match us, hl with | [_, _, _, _], _ => rfl),
    g_check_forms := (PySem.W.mg_of X G a_check_forms),
    F_check_forms := (F_check_forms),
    b_check_forms := (F_check_forms.binds (ps := ["stop", "forms"]) fun _ _ _ _ _ _ us hl => match us, hl with | [_, _], _ => rfl),
    F_CodeSetu_initu := (F_CodeSetu_initu),
    b_CodeSetu_initu := (F_CodeSetu_initu.binds (ps := ["self", "stop", "forms"]) fun _ _ _ _ _ _ us hl => match us, hl with | [_, _, _], _ => rfl),
    F_CodeSetu_callu := (F_CodeSetu_callu),
    b_CodeSetu_callu := (F_CodeSetu_callu.binds (ps := ["self", "values", "at"]) fun _ _ _ _ _ _ us hl => match us, hl with | [_, _, _], _ => rfl),
    F_CodeSet_followers := (F_CodeSet_followers),
    b_CodeSet_followers := (F_CodeSet_followers.binds (ps := ["self", "instruction", "place"]) fun _ _ _ _ _ _ us hl => match us, hl with | [_, _, _], _ => rfl),
    g_instruction_at := (PySem.W.mg_of X G a_instruction_at),
    F_instruction_at := (F_instruction_at),
    b_instruction_at := (F_instruction_at.binds (ps := ["codes", "values", "place"]) fun _ _ _ _ _ _ us hl => match us, hl with | [_, _, _], _ => rfl),
    g_explore := (PySem.W.mg_of X G a_explore),
    F_explore := (F_explore),
    b_explore := (F_explore.binds (ps := ["codes", "values", "roots"]) fun _ _ _ _ _ _ us hl => match us, hl with | [_, _, _], _ => rfl),
    g_chain := (PySem.W.mg_of X G a_chain),
    F_chain := (F_chain),
    b_chain := (F_chain.binds (ps := ["before", "place"]) fun _ _ _ _ _ _ us hl => match us, hl with | [_, _], _ => rfl),
    F_Programu_initu := (F_Programu_initu),
    b_Programu_initu := (Vc.Fun.bindsV F_Programu_initu fun _ _ _ _ _ _ us rest hl => match us, rest, hl with | [_, _, _], [], _ => rfl | [_, _, _], _ :: _, _ => rfl),
    F_Programu_containsu := (F_Programu_containsu),
    b_Programu_containsu := (F_Programu_containsu.binds (ps := ["self", "x"]) fun _ _ _ _ _ _ us hl => match us, hl with | [_, _], _ => rfl),
    F_Programu_getitemu := (F_Programu_getitemu),
    b_Programu_getitemu := (F_Programu_getitemu.binds (ps := ["self", "at"]) fun _ _ _ _ _ _ us hl => match us, hl with | [_, _], _ => rfl),
    F_Programu_lenu := (F_Programu_lenu),
    b_Programu_lenu := (F_Programu_lenu.binds (ps := ["self"]) fun _ _ _ _ _ _ us hl => match us, hl with | [_], _ => rfl),
    F_Program_places := (F_Program_places),
    b_Program_places := (F_Program_places.binds (ps := ["self"]) fun _ _ _ _ _ _ us hl => match us, hl with | [_], _ => rfl),
    F_Program_followers := (F_Program_followers),
    b_Program_followers := (F_Program_followers.binds (ps := ["self", "place"]) fun _ _ _ _ _ _ us hl => match us, hl with | [_, _], _ => rfl),
    F_Program_covers := (F_Program_covers),
    b_Program_covers := (F_Program_covers.binds (ps := ["self", "address"]) fun _ _ _ _ _ _ us hl => match us, hl with | [_, _], _ => rfl),
    F_Program_way := (F_Program_way),
    b_Program_way := (F_Program_way.binds (ps := ["self", "place"]) fun _ _ _ _ _ _ us hl => match us, hl with | [_, _], _ => rfl),
    g__law_pen := (PySem.W.mg_of X G a__law_pen),
    F__law_pen := (F__law_pen),
    b__law_pen := (F__law_pen.binds (ps := ["_law_script", "_law_turned"]) fun _ _ _ _ _ _ us hl => match us, hl with | [_, _], _ => rfl),
    g__law_draw := (PySem.W.mg_of X G a__law_draw),
    F__law_draw := (F__law_draw),
    b__law_draw := (F__law_draw.binds (ps := ["_law_pen_here", "_law_many"]) fun _ _ _ _ _ _ us hl => match us, hl with | [_, _], _ => rfl),
    g__law_forms := (PySem.W.mg_of X G a__law_forms),
    F__law_forms := (F__law_forms),
    b__law_forms := (F__law_forms.binds (ps := ["_law_pen_here", "_law_most"]) fun _ _ _ _ _ _ us hl => match us, hl with | [_, _], _ => rfl),
    g__law_codeset := (PySem.W.mg_of X G a__law_codeset),
    F__law_codeset := (F__law_codeset),
    b__law_codeset := (F__law_codeset.binds (ps := ["_law_stop", "_law_forms_here"]) fun _ _ _ _ _ _ us hl => match us, hl with | [_, _], _ => rfl),
    g__law_byte := (PySem.W.mg_of X G a__law_byte),
    F__law_byte := (F__law_byte),
    b__law_byte := (F__law_byte.binds (ps := ["_law_pen_here", "_law_stop", "_law_forms_here"]) fun _ _ _ _ _ _ us hl => match us, hl with | [_, _, _], _ => rfl),
    g__law_filled := (PySem.W.mg_of X G a__law_filled),
    F__law_filled := (F__law_filled),
    b__law_filled := (F__law_filled.binds (ps := ["_law_pen_here", "_law_stop", "_law_forms_here", "_law_room"]) fun _ _ _ _ _ _ us hl => match us, hl with | [_, _, _, _], _ => rfl),
    g__law_places := (PySem.W.mg_of X G a__law_places),
    F__law_places := (F__law_places),
    b__law_places := (F__law_places.binds (ps := ["_law_forms_here", "_law_values_here"]) fun _ _ _ _ _ _ us hl => match us, hl with | [_, _], _ => rfl),
    g__law_aimed := (PySem.W.mg_of X G a__law_aimed),
    F__law_aimed := (F__law_aimed),
    b__law_aimed := (F__law_aimed.binds (ps := ["_law_pen_here", "_law_forms_here", "_law_values_here", "_law_places_here", "_law_goals", "_law_loose"]) fun _ _ _ _ _ _ us hl => match us, hl with | [_, _, _, _, _, _], _ => rfl),
    g__law_laid := (PySem.W.mg_of X G a__law_laid),
    F__law_laid := (F__law_laid),
    b__law_laid := (F__law_laid.binds (ps := ["_law_pen_here", "_law_stop", "_law_forms_here", "_law_size", "_law_loose"]) fun _ _ _ _ _ _ us hl => match us, hl with | [_, _, _, _, _], _ => rfl),
    g__law_follow := (PySem.W.mg_of X G a__law_follow),
    F__law_follow := (F__law_follow),
    b__law_follow := (F__law_follow.binds (ps := ["_law_forms_here", "_law_fetched", "_law_place"]) fun _ _ _ _ _ _ us hl => match us, hl with | [_, _, _], _ => rfl),
    g__law_reach := (PySem.W.mg_of X G a__law_reach),
    F__law_reach := (F__law_reach),
    b__law_reach := (F__law_reach.binds (ps := ["_law_forms_here", "_law_values_here", "_law_roots_here"]) fun _ _ _ _ _ _ us hl => match us, hl with | [_, _, _], _ => rfl),
    g__law_values := (PySem.W.mg_of X G a__law_values),
    F__law_values := (F__law_values),
    b__law_values := (F__law_values.binds (ps := ["_law_pen_here", "_law_stop", "_law_forms_here"]) fun _ _ _ _ _ _ us hl => match us, hl with | [_, _, _], _ => rfl),
    g__law_roots := (PySem.W.mg_of X G a__law_roots),
    F__law_roots := (F__law_roots),
    b__law_roots := (F__law_roots.binds (ps := ["_law_pen_here", "_law_forms_here", "_law_values_here"]) fun _ _ _ _ _ _ us hl => match us, hl with | [_, _, _], _ => rfl),
    g__law_made := (PySem.W.mg_of X G a__law_made),
    F__law_made := (F__law_made),
    b__law_made := (F__law_made.binds (ps := ["_law_coding", "_law_values_here", "_law_roots_here"]) fun _ _ _ _ _ _ us hl => match us, hl with | [_, _, _], _ => rfl),
    g__law_all := (PySem.W.mg_of X G a__law_all),
    F__law_all := (F__law_all),
    b__law_all := (F__law_all.binds (ps := ["_law_made_here", "_law_less"]) fun _ _ _ _ _ _ us hl => match us, hl with | [_, _], _ => rfl),
    g__law_joined_right := (PySem.W.mg_of X G a__law_joined_right),
    F__law_joined_right := (F__law_joined_right),
    b__law_joined_right := (F__law_joined_right.binds (ps := ["_law_coding", "_law_values_here", "_law_one", "_law_other"]) fun _ _ _ _ _ _ us hl => match us, hl with | [_, _, _, _], _ => rfl),
    g__law_bytes_right := (PySem.W.mg_of X G a__law_bytes_right),
    F__law_bytes_right := (F__law_bytes_right),
    b__law_bytes_right := (F__law_bytes_right.binds (ps := ["_law_pen_here", "_law_coding", "_law_values_here", "_law_roots_here", "_law_made_here"]) fun _ _ _ _ _ _ us hl => match us, hl with | [_, _, _, _, _], _ => rfl),
    g__law_later_right := (PySem.W.mg_of X G a__law_later_right),
    F__law_later_right := (F__law_later_right),
    b__law_later_right := (F__law_later_right.binds (ps := ["_law_pen_here", "_law_coding", "_law_values_here", "_law_roots_here", "_law_made_here"]) fun _ _ _ _ _ _ us hl => match us, hl with | [_, _, _, _, _], _ => rfl),
    g__law_ways_right := (PySem.W.mg_of X G a__law_ways_right),
    F__law_ways_right := (F__law_ways_right),
    b__law_ways_right := (F__law_ways_right.binds (ps := ["_law_pen_here", "_law_coding", "_law_values_here", "_law_made_here"]) fun _ _ _ _ _ _ us hl => match us, hl with | [_, _, _, _], _ => rfl),
    g_law := (PySem.W.mg_of X G a_law),
    F_law := (F_law),
    b_law := (F_law.binds (ps := ["_law_script"]) fun _ _ _ _ _ _ us hl => match us, hl with | [_], _ => rfl),
    cl_Form := (⟨pg_Form, hd_Form, po_Form, sa_Form⟩),
    mk_Form := (⟨mk_Form, a_Formu_initu, i_Formu_initu, kc_Form⟩),
    no_Form_name := (no_Form_name),
    no_Form_length := (no_Form_length),
    no_Form_flow := (no_Form_flow),
    cl_CodeSet := (⟨pg_CodeSet, hd_CodeSet, po_CodeSet, sa_CodeSet⟩),
    mk_CodeSet := (⟨mk_CodeSet, a_CodeSetu_initu, i_CodeSetu_initu, kc_CodeSet⟩),
    m_CodeSet_followers := (⟨a_CodeSet_followers, i_CodeSet_followers, k_CodeSet_followers⟩),
    no_CodeSet_stop := (no_CodeSet_stop),
    no_CodeSet_order := (no_CodeSet_order),
    no_CodeSet_table := (no_CodeSet_table),
    cl_Program := (⟨pg_Program, hd_Program, po_Program, sa_Program⟩),
    mk_Program := (⟨mk_Program, a_Programu_initu, i_Programu_initu, kc_Program⟩),
    m_Program_places := (⟨a_Program_places, i_Program_places, k_Program_places⟩),
    m_Program_followers := (⟨a_Program_followers, i_Program_followers, k_Program_followers⟩),
    m_Program_covers := (⟨a_Program_covers, i_Program_covers, k_Program_covers⟩),
    m_Program_way := (⟨a_Program_way, i_Program_way, k_Program_way⟩),
    no_Program_roots := (no_Program_roots),
    no_Program_laid := (no_Program_laid),
    no_Program_spots := (no_Program_spots),
    no_Program_leads := (no_Program_leads),
    n_len := (PySem.W.mg_none_of X G z_len),
    n_abs := (PySem.W.mg_none_of X G z_abs),
    n_int := (PySem.W.mg_none_of X G z_int),
    n_list := (PySem.W.mg_none_of X G z_list),
    n_range := (PySem.W.mg_none_of X G z_range),
    n_isinstance := (PySem.W.mg_none_of X G z_isinstance),
    n_bool := (PySem.W.mg_none_of X G z_bool),
    n_str := (PySem.W.mg_none_of X G z_str),
    n_tuple := (PySem.W.mg_none_of X G z_tuple),
    n_all := (PySem.W.mg_none_of X G z_all),
    n_set := (PySem.W.mg_none_of X G z_set),
    n_sorted := (PySem.W.mg_none_of X G z_sorted),
    n_ValueError := (PySem.W.mg_none_of X G z_ValueError),
    n_min := (PySem.W.mg_none_of X G z_min),
    n_max := (PySem.W.mg_none_of X G z_max),
    g_LETTERS := (⟨_, PySem.W.mg_of X G v_LETTERS⟩),
    g_NotWhole := (PySem.W.mg_of X G aC_NotWhole),
    ox_NotWhole := (⟨⟨_, _, _, _, _, _, _, _, _, _, _, _, _, _, _, lkC_NotWhole, bmC_NotWhole⟩, saC_NotWhole, exC_NotWhole, tyC_NotWhole, kpC_NotWhole⟩),
    i_NotWhole := (inC_NotWhole),
    ti_NotWhole := (tiC_NotWhole),
    no_NotWhole_place := (noC_NotWhole_place),
    xf_NotWhole := (⟨gaC_NotWhole, ggC_NotWhole, exC_NotWhole, hdC_NotWhole⟩),
    ec_NotWhole := (⟨gaC_NotWhole, ggC_NotWhole, exC_NotWhole, hdC_NotWhole, gcC_NotWhole, zgcn, zgct, moC_NotWhole⟩),
    F_NotWholeu_initu := (F_NotWholeu_initu),
    b_NotWholeu_initu := (F_NotWholeu_initu.binds (ps := ["self", "place"]) fun _ _ _ _ _ _ _ us hl => match us, hl with | [_, _], _ => rfl),
    g_BadAddress := (PySem.W.mg_of X G aC_BadAddress),
    ox_BadAddress := (⟨⟨_, _, _, _, _, _, _, _, _, _, _, _, _, _, _, lkC_BadAddress, bmC_BadAddress⟩, saC_BadAddress, exC_BadAddress, tyC_BadAddress, kpC_BadAddress⟩),
    i_BadAddress := (inC_BadAddress),
    ti_BadAddress := (tiC_BadAddress),
    no_BadAddress_at := (noC_BadAddress_at),
    xf_BadAddress := (⟨gaC_BadAddress, ggC_BadAddress, exC_BadAddress, hdC_BadAddress⟩),
    ec_BadAddress := (⟨gaC_BadAddress, ggC_BadAddress, exC_BadAddress, hdC_BadAddress, gcC_BadAddress, zgcn, zgct, moC_BadAddress⟩),
    F_BadAddressu_initu := (F_BadAddressu_initu),
    b_BadAddressu_initu := (F_BadAddressu_initu.binds (ps := ["self", "at"]) fun _ _ _ _ _ _ _ us hl => match us, hl with | [_, _], _ => rfl),
    exm_NotWhole_NotWhole := (exm_NotWhole_NotWhole),
    sp_Program_Programu_containsu := (⟨a_Programu_containsu, i_Programu_containsu⟩),
    sp_Program_Programu_lenu := (⟨a_Programu_lenu, i_Programu_lenu⟩),
    sp_Program_Programu_getitemu := (⟨a_Programu_getitemu, i_Programu_getitemu⟩),
    spf_Programu_getitemu := (spi_Programu_getitemu),
    co_CodeSet := (⟨a_CodeSetu_callu, i_CodeSetu_callu, coi_CodeSet⟩),
    cr_Form := (⟨rd_Form, gat_Form⟩),
    cr_CodeSet := (⟨rd_CodeSet, gat_CodeSet⟩),
    cv_FLOWS := (⟨cvF, rfl⟩),
    q_FLOWS := (fun H => .inr ⟨_, _, _, lkF, rfl, rfl, by show 4 ≤ sizeLine; decide, .cons ⟨_, rfl⟩ (.cons ⟨_, rfl⟩ (.cons ⟨_, rfl⟩ (.cons ⟨_, rfl⟩ .nil)))⟩),
    cv_MOST := (⟨_, cvM, _, rfl⟩) }
  exact ⟨PySem.W.fnOf "law" "law" (defArgs s_law) (defBody s_law) (defScope s_law) .none kV38 dc38 pm38 an38 cd38 ct38, fun s v => .of_eq rfl, fun base _ _ => ok_law T⟩
end My
open PySem PySem.W PyProof.Rows
set_option maxRecDepth 100000 in
set_option maxHeartbeats 0 in
theorem PySem.Challenge.cw_codestitch_k15_whole_a_program_by_its_ro_holds : PySem.Challenge.rw_codestitch_k15_whole_a_program_by_its_ro.Holds := by
  w_on; o_law; k_head; (case hw => w_witness2)
  k_fill
  refine L2.walk_of (l := PySem.Challenge.rw_codestitch_k15_whole_a_program_by_its_ro) (n := 63) (k := 12) (x := "_law_script") (CX := fun _ => L2.CX0) (sp := fun w => My.spLaw _) rfl (by decide) rfl ⟨rfl, by decide, by decide⟩ (fun w h Y => PySem.W.kIn_of Y) ?F (fun _ _ a ns hl _ hS => ⟨a, ns, rfl, hS, hl, fun _ => rfl⟩) (fun _ _ _ _ _ h => h)
  case F =>
    intro w mg fa h KX G hmg
    refine' My.all_mk KX G hmg ?aC_Form ?aC_CodeSet ?aC_Program ?a_is_byte ?l_is_byte ?c_is_byte ?k_is_byte ?a_is_name ?l_is_name ?c_is_name ?k_is_name ?a_Formu_initu ?i_Formu_initu ?l_Formu_initu ?c_Formu_initu ?k_Formu_initu ?a_check_forms ?l_check_forms ?c_check_forms ?k_check_forms ?a_CodeSetu_initu ?i_CodeSetu_initu ?l_CodeSetu_initu ?c_CodeSetu_initu ?k_CodeSetu_initu ?a_CodeSetu_callu ?i_CodeSetu_callu ?l_CodeSetu_callu ?c_CodeSetu_callu ?k_CodeSetu_callu ?a_CodeSet_followers ?i_CodeSet_followers ?l_CodeSet_followers ?c_CodeSet_followers ?k_CodeSet_followers ?a_instruction_at ?l_instruction_at ?c_instruction_at ?k_instruction_at ?a_explore ?l_explore ?c_explore ?k_explore ?a_chain ?l_chain ?c_chain ?k_chain ?a_Programu_initu ?i_Programu_initu ?l_Programu_initu ?c_Programu_initu ?k_Programu_initu ?a_Programu_containsu ?i_Programu_containsu ?l_Programu_containsu ?c_Programu_containsu ?k_Programu_containsu ?a_Programu_getitemu ?i_Programu_getitemu ?l_Programu_getitemu ?c_Programu_getitemu ?k_Programu_getitemu ?a_Programu_lenu ?i_Programu_lenu ?l_Programu_lenu ?c_Programu_lenu ?k_Programu_lenu ?a_Program_places ?i_Program_places ?l_Program_places ?c_Program_places ?k_Program_places ?a_Program_followers ?i_Program_followers ?l_Program_followers ?c_Program_followers ?k_Program_followers ?a_Program_covers ?i_Program_covers ?l_Program_covers ?c_Program_covers ?k_Program_covers ?a_Program_way ?i_Program_way ?l_Program_way ?c_Program_way ?k_Program_way ?a__law_pen ?l__law_pen ?c__law_pen ?k__law_pen ?a__law_draw ?l__law_draw ?c__law_draw ?k__law_draw ?a__law_forms ?l__law_forms ?c__law_forms ?k__law_forms ?a__law_codeset ?l__law_codeset ?c__law_codeset ?k__law_codeset ?a__law_byte ?l__law_byte ?c__law_byte ?k__law_byte ?a__law_filled ?l__law_filled ?c__law_filled ?k__law_filled ?a__law_places ?l__law_places ?c__law_places ?k__law_places ?a__law_aimed ?l__law_aimed ?c__law_aimed ?k__law_aimed ?a__law_laid ?l__law_laid ?c__law_laid ?k__law_laid ?a__law_follow ?l__law_follow ?c__law_follow ?k__law_follow ?a__law_reach ?l__law_reach ?c__law_reach ?k__law_reach ?a__law_values ?l__law_values ?c__law_values ?k__law_values ?a__law_roots ?l__law_roots ?c__law_roots ?k__law_roots ?a__law_made ?l__law_made ?c__law_made ?k__law_made ?a__law_all ?l__law_all ?c__law_all ?k__law_all ?a__law_joined_right ?l__law_joined_right ?c__law_joined_right ?k__law_joined_right ?a__law_bytes_right ?l__law_bytes_right ?c__law_bytes_right ?k__law_bytes_right ?a__law_later_right ?l__law_later_right ?c__law_later_right ?k__law_later_right ?a__law_ways_right ?l__law_ways_right ?c__law_ways_right ?k__law_ways_right ?a_law ?l_law ?c_law ?k_law ?pg_Form ?hd_Form ?po_Form ?sa_Form ?mk_Form ?kc_Form ?no_Form_name ?no_Form_length ?no_Form_flow ?pg_CodeSet ?hd_CodeSet ?po_CodeSet ?sa_CodeSet ?mk_CodeSet ?kc_CodeSet ?no_CodeSet_stop ?no_CodeSet_order ?no_CodeSet_table ?pg_Program ?hd_Program ?po_Program ?sa_Program ?mk_Program ?kc_Program ?no_Program_roots ?no_Program_laid ?no_Program_spots ?no_Program_leads ?z_len ?z_abs ?z_int ?z_list ?z_range ?z_isinstance ?z_bool ?z_str ?z_tuple ?z_all ?z_set ?z_sorted ?z_ValueError ?z_min ?z_max ?v_LETTERS ?zsuper ?znoop ?zgcn ?zgct ?ztop ?aC_NotWhole ?lkC_NotWhole ?bmC_NotWhole ?saC_NotWhole ?exC_NotWhole ?tyC_NotWhole ?kpC_NotWhole ?inC_NotWhole ?tiC_NotWhole ?noC_NotWhole_place ?gaC_NotWhole ?ggC_NotWhole ?hdC_NotWhole ?gcC_NotWhole ?moC_NotWhole ?l_NotWholeu_initu ?c_NotWholeu_initu ?k_NotWholeu_initu ?cl_NotWholeu_initu ?cf_NotWholeu_initu ?fe_NotWholeu_initu ?ce_NotWholeu_initu ?mrC_NotWhole ?suC_NotWhole ?svC_NotWhole ?aC_BadAddress ?lkC_BadAddress ?bmC_BadAddress ?saC_BadAddress ?exC_BadAddress ?tyC_BadAddress ?kpC_BadAddress ?inC_BadAddress ?tiC_BadAddress ?noC_BadAddress_at ?gaC_BadAddress ?ggC_BadAddress ?hdC_BadAddress ?gcC_BadAddress ?moC_BadAddress ?l_BadAddressu_initu ?c_BadAddressu_initu ?k_BadAddressu_initu ?cl_BadAddressu_initu ?cf_BadAddressu_initu ?fe_BadAddressu_initu ?ce_BadAddressu_initu ?mrC_BadAddress ?suC_BadAddress ?svC_BadAddress ?exm_NotWhole_NotWhole ?spi_Programu_getitemu ?coi_CodeSet ?rd_Form ?gat_Form ?rd_CodeSet ?gat_CodeSet ?cvF ?lkF ?cvM
    (case aC_Form => k_is); (case aC_CodeSet => k_is); (case aC_Program => k_is); (case a_is_byte => k_is); (case l_is_byte => k_is); (case c_is_byte => k_is)
    (case k_is_byte => k_is); (case a_is_name => k_is); (case l_is_name => k_is); (case c_is_name => k_is); (case k_is_name => k_is); (case a_Formu_initu => k_is)
    (case i_Formu_initu => k_is); (case l_Formu_initu => k_is); (case c_Formu_initu => k_is); (case k_Formu_initu => k_is); (case a_check_forms => k_is); (case l_check_forms => k_is)
    (case c_check_forms => k_is); (case k_check_forms => k_is); (case a_CodeSetu_initu => k_is); (case i_CodeSetu_initu => k_is); (case l_CodeSetu_initu => k_is); (case c_CodeSetu_initu => k_is)
    (case k_CodeSetu_initu => k_is); (case a_CodeSetu_callu => k_is); (case i_CodeSetu_callu => k_is); (case l_CodeSetu_callu => k_is); (case c_CodeSetu_callu => k_is); (case k_CodeSetu_callu => k_is)
    (case a_CodeSet_followers => k_is); (case i_CodeSet_followers => k_is); (case l_CodeSet_followers => k_is); (case c_CodeSet_followers => k_is); (case k_CodeSet_followers => k_is); (case a_instruction_at => k_is)
    (case l_instruction_at => k_is); (case c_instruction_at => k_is); (case k_instruction_at => k_is); (case a_explore => k_is); (case l_explore => k_is); (case c_explore => k_is)
    (case k_explore => k_is); (case a_chain => k_is); (case l_chain => k_is); (case c_chain => k_is); (case k_chain => k_is); (case a_Programu_initu => k_is)
    (case i_Programu_initu => k_is); (case l_Programu_initu => k_is); (case c_Programu_initu => k_is); (case k_Programu_initu => k_is); (case a_Programu_containsu => k_is); (case i_Programu_containsu => k_is)
    (case l_Programu_containsu => k_is); (case c_Programu_containsu => k_is); (case k_Programu_containsu => k_is); (case a_Programu_getitemu => k_is); (case i_Programu_getitemu => k_is); (case l_Programu_getitemu => k_is)
    (case c_Programu_getitemu => k_is); (case k_Programu_getitemu => k_is); (case a_Programu_lenu => k_is); (case i_Programu_lenu => k_is); (case l_Programu_lenu => k_is); (case c_Programu_lenu => k_is)
    (case k_Programu_lenu => k_is); (case a_Program_places => k_is); (case i_Program_places => k_is); (case l_Program_places => k_is); (case c_Program_places => k_is); (case k_Program_places => k_is)
    (case a_Program_followers => k_is); (case i_Program_followers => k_is); (case l_Program_followers => k_is); (case c_Program_followers => k_is); (case k_Program_followers => k_is); (case a_Program_covers => k_is)
    (case i_Program_covers => k_is); (case l_Program_covers => k_is); (case c_Program_covers => k_is); (case k_Program_covers => k_is); (case a_Program_way => k_is); (case i_Program_way => k_is)
    (case l_Program_way => k_is); (case c_Program_way => k_is); (case k_Program_way => k_is); (case a__law_pen => k_is); (case l__law_pen => k_is); (case c__law_pen => k_is)
    (case k__law_pen => k_is); (case a__law_draw => k_is); (case l__law_draw => k_is); (case c__law_draw => k_is); (case k__law_draw => k_is); (case a__law_forms => k_is)
    (case l__law_forms => k_is); (case c__law_forms => k_is); (case k__law_forms => k_is); (case a__law_codeset => k_is); (case l__law_codeset => k_is); (case c__law_codeset => k_is)
    (case k__law_codeset => k_is); (case a__law_byte => k_is); (case l__law_byte => k_is); (case c__law_byte => k_is); (case k__law_byte => k_is); (case a__law_filled => k_is)
    (case l__law_filled => k_is); (case c__law_filled => k_is); (case k__law_filled => k_is); (case a__law_places => k_is); (case l__law_places => k_is); (case c__law_places => k_is)
    (case k__law_places => k_is); (case a__law_aimed => k_is); (case l__law_aimed => k_is); (case c__law_aimed => k_is); (case k__law_aimed => k_is); (case a__law_laid => k_is)
    (case l__law_laid => k_is); (case c__law_laid => k_is); (case k__law_laid => k_is); (case a__law_follow => k_is); (case l__law_follow => k_is); (case c__law_follow => k_is)
    (case k__law_follow => k_is); (case a__law_reach => k_is); (case l__law_reach => k_is); (case c__law_reach => k_is); (case k__law_reach => k_is); (case a__law_values => k_is)
    (case l__law_values => k_is); (case c__law_values => k_is); (case k__law_values => k_is); (case a__law_roots => k_is); (case l__law_roots => k_is); (case c__law_roots => k_is)
    (case k__law_roots => k_is); (case a__law_made => k_is); (case l__law_made => k_is); (case c__law_made => k_is); (case k__law_made => k_is); (case a__law_all => k_is)
    (case l__law_all => k_is); (case c__law_all => k_is); (case k__law_all => k_is); (case a__law_joined_right => k_is); (case l__law_joined_right => k_is); (case c__law_joined_right => k_is)
    (case k__law_joined_right => k_is); (case a__law_bytes_right => k_is); (case l__law_bytes_right => k_is); (case c__law_bytes_right => k_is); (case k__law_bytes_right => k_is); (case a__law_later_right => k_is)
    (case l__law_later_right => k_is); (case c__law_later_right => k_is); (case k__law_later_right => k_is); (case a__law_ways_right => k_is); (case l__law_ways_right => k_is); (case c__law_ways_right => k_is)
    (case k__law_ways_right => k_is); (case a_law => k_is); (case l_law => k_is); (case c_law => k_is); (case k_law => k_is); (case pg_Form => k_is)
    (case hd_Form => k_is); (case po_Form => k_is); (case sa_Form => k_is); (case mk_Form => k_is); (case kc_Form => k_is); (case no_Form_name => k_is)
    (case no_Form_length => k_is); (case no_Form_flow => k_is); (case pg_CodeSet => k_is); (case hd_CodeSet => k_is); (case po_CodeSet => k_is); (case sa_CodeSet => k_is)
    (case mk_CodeSet => k_is); (case kc_CodeSet => k_is); (case no_CodeSet_stop => k_is); (case no_CodeSet_order => k_is); (case no_CodeSet_table => k_is); (case pg_Program => k_is)
    (case hd_Program => k_is); (case po_Program => k_is); (case sa_Program => k_is); (case mk_Program => k_is); (case kc_Program => k_is); (case no_Program_roots => k_is)
    (case no_Program_laid => k_is); (case no_Program_spots => k_is); (case no_Program_leads => k_is); (case z_len => k_is); (case z_abs => k_is); (case z_int => k_is)
    (case z_list => k_is); (case z_range => k_is); (case z_isinstance => k_is); (case z_bool => k_is); (case z_str => k_is); (case z_tuple => k_is)
    (case z_all => k_is); (case z_set => k_is); (case z_sorted => k_is); (case z_ValueError => k_is); (case z_min => k_is); (case z_max => k_is)
    (case v_LETTERS => k_is); (case zsuper => k_is); (case znoop => k_is); (case zgcn => k_is); (case zgct => k_is); (case ztop => decide +kernel)
    (case aC_NotWhole => k_is); (case lkC_NotWhole => k_is); (case bmC_NotWhole => decide +kernel); (case saC_NotWhole => k_is); (case exC_NotWhole => k_is); (case tyC_NotWhole => k_is)
    (case kpC_NotWhole => k_is); (case inC_NotWhole => k_is); (case tiC_NotWhole => k_is); (case noC_NotWhole_place => k_is); (case gaC_NotWhole => k_is); (case ggC_NotWhole => k_is)
    (case hdC_NotWhole => k_is); (case gcC_NotWhole => k_is); (case moC_NotWhole => k_is); (case l_NotWholeu_initu => k_is); (case c_NotWholeu_initu => k_is); (case k_NotWholeu_initu => k_is)
    (case cl_NotWholeu_initu => k_is); (case cf_NotWholeu_initu => rfl); (case fe_NotWholeu_initu => decide +kernel); (case ce_NotWholeu_initu => k_is); (case mrC_NotWhole => k_is); (case suC_NotWhole => ks_is)
    (case svC_NotWhole => k_is); (case aC_BadAddress => k_is); (case lkC_BadAddress => k_is); (case bmC_BadAddress => decide +kernel); (case saC_BadAddress => k_is); (case exC_BadAddress => k_is)
    (case tyC_BadAddress => k_is); (case kpC_BadAddress => k_is); (case inC_BadAddress => k_is); (case tiC_BadAddress => k_is); (case noC_BadAddress_at => k_is); (case gaC_BadAddress => k_is)
    (case ggC_BadAddress => k_is); (case hdC_BadAddress => k_is); (case gcC_BadAddress => k_is); (case moC_BadAddress => k_is); (case l_BadAddressu_initu => k_is); (case c_BadAddressu_initu => k_is)
    (case k_BadAddressu_initu => k_is); (case cl_BadAddressu_initu => k_is); (case cf_BadAddressu_initu => rfl); (case fe_BadAddressu_initu => decide +kernel); (case ce_BadAddressu_initu => k_is); (case mrC_BadAddress => k_is)
    (case suC_BadAddress => ks_is); (case svC_BadAddress => k_is); (case exm_NotWhole_NotWhole => kts_exm); (case spi_Programu_getitemu => k_is); (case coi_CodeSet => k_is); (case rd_Form => k_is)
    (case gat_Form => k_is); (case rd_CodeSet => k_is); (case gat_CodeSet => k_is); (case cvF => k_is); (case lkF => k_is); (case cvM => k_is)
