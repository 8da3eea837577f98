import PyProof.Rows.All
import Wide.All
import OpenK.AllK
import Wide.FinOn
import HandS.ForMost
import HandS.Wide
import HandS.IsInst
import HandS.Evl
import HandS.Walk
import HandS.Strs
import HandS.Conv
import HandS.ClsMeth
import HandS.DictComp
import KE.KSuper
import KE.KExcSuper
import KE.KExcIs
import KE.RegKSuper
import KE.RegKIsAll
import KE.RegKTryMore
import HandS.ForExc
import HandS.ExcInit
import HandS.ExcIs
import HandS.ExcField
import HandS.Star
import HandS.Property
import HandS.HotCalls
import HandS.Codes
import HandS.Defaults
import HandS.MakeKw
import HandS.ForMost
import HandS.Conv
import KE.KDictList
import PyProof.LongRange
import PySem.Challenge.RW_codestitch_k05_units_and_chunks
set_option Elab.async false
set_option linter.all false
set_option maxRecDepth 100000
set_option maxHeartbeats 4000000
open PySem PySem.Spec PyProof.Rows L2
/-! Vc: edges between abstract heaps, and readings answered step by step (my own layer over HandS). -/
namespace Vc
open PySem PySem.Spec PyProof.Rows L2

/-! ### edges: H' comes from H; at most the objects of S were changed -/
structure Ed (S : List Addr) (H H' : Hp) : Prop where
  keep : ∀ a o, a ∉ S → H a = some o → H' a = some o
  tup : ∀ a xs, H a = some (.tup xs) → H' a = some (.tup xs)
  frz : ∀ a o u, H a = some (.frz o u) → H' a = some (.frz o u)
  dom : ∀ a, H' a = none → H a = none
theorem Ed.refl {S : List Addr} {H : Hp} : Ed S H H := ⟨fun _ _ _ h => h, fun _ _ h => h, fun _ _ _ h => h, fun _ h => h⟩
theorem Ed.new {S : List Addr} {H : Hp} {p : Addr} {o : HO} (h : H p = none) : Ed S H (upd H p o) where
  keep := fun a u _ e => by rw [upd_ne (ne_of_none e h)]; exact e
  tup := fun a u e => by rw [upd_ne (ne_of_none e h)]; exact e
  frz := fun a _ u e => by rw [upd_ne (ne_of_none e h)]; exact e
  dom := fun a e => by
    by_cases q : a = p
    · rw [q]; exact h
    · rw [upd_ne q] at e; exact e
theorem Ed.mut {H : Hp} {p : Addr} {o u : HO} (h : H p = some u) (m : Mut (some u)) : Ed [p] H (upd H p o) where
  keep := fun a v ha e => by
    have : a ≠ p := fun q => ha (by rw [q]; exact List.mem_singleton.mpr rfl)
    rw [upd_ne this]; exact e
  tup := fun a xs e => by
    have : a ≠ p := fun q => by rw [q, h] at e; cases e; exact m
    rw [upd_ne this]; exact e
  frz := fun a _ xs e => by
    have : a ≠ p := fun q => by rw [q, h] at e; cases e; exact m
    rw [upd_ne this]; exact e
  dom := fun a e => by
    by_cases q : a = p
    · subst q; rw [upd_same] at e; cases e
    · rw [upd_ne q] at e; exact e
theorem Ed.trans {S T : List Addr} {H H1 H2 : Hp} (a : Ed S H H1) (b : Ed T H1 H2) (hs : ∀ x ∈ T, x ∈ S ∨ H x = none) : Ed S H H2 where
  keep := fun x o hx e => by
    have e1 := a.keep x o hx e
    refine b.keep x o (fun z => ?_) e1
    rcases hs x z with q | q
    · exact hx q
    · rw [e] at q; cases q
  tup := fun x o e => b.tup x o (a.tup x o e)
  frz := fun x o u e => b.frz x o u (a.frz x o u e)
  dom := fun x e => a.dom x (b.dom x e)
theorem Ed.mono {S T : List Addr} {H H1 : Hp} (a : Ed S H H1) (hs : ∀ x ∈ S, x ∈ T) : Ed T H H1 :=
  ⟨fun x o hx e => a.keep x o (fun z => hx (hs x z)) e, a.tup, a.frz, a.dom⟩
theorem Ed.ex {S : List Addr} {H H1 H2 : Hp} (a : Ed S H H1) (b : Ed [] H1 H2) : Ed S H H2 := a.trans b fun _ z => nomatch z
theorem Ed.one {S : List Addr} {H H1 H2 : Hp} {p : Addr} (a : Ed S H H1) (b : Ed [p] H1 H2) (h : p ∈ S ∨ H p = none) : Ed S H H2 :=
  a.trans b fun x z => by rw [List.mem_singleton.mp z]; exact h
theorem Ed.same {H H' : Hp} (e : Ed [] H H') : Same H H' := fun a o h => e.keep a o (fun z => nomatch z) h
theorem Ed.at0 {H H' : Hp} {a : Addr} {o : HO} (e : Ed [] H H') (h : H a = some o) : H' a = some o := e.keep a o (fun z => nomatch z) h
theorem Ed.at1 {H H' : Hp} {a p : Addr} {o : HO} (e : Ed [p] H H') (n : a ≠ p) (h : H a = some o) : H' a = some o := e.keep a o (fun z => n (List.mem_singleton.mp z)) h
theorem Ed.at2 {H H' : Hp} {a p q : Addr} {o : HO} (e : Ed [p, q] H H') (n : a ≠ p) (m : a ≠ q) (h : H a = some o) : H' a = some o := e.keep a o (fun z => by
  rcases List.mem_cons.mp z with z | z
  · exact n z
  · exact m (List.mem_singleton.mp z)) h
theorem Ed.rdt {S : List Addr} {H H' : Hp} {a : Addr} {xs : List V} (e : Ed S H H') (h : Rd H a (.tup xs)) : Rd H' a (.tup xs) := by
  rcases h with h | ⟨o, h⟩
  · exact .inl (e.tup _ _ h)
  · exact .inr ⟨o, e.frz _ _ _ h⟩
theorem Ed.sqt {K : PySem.W.Frag} {S : List Addr} {H H' : Hp} {a : Addr} {xs : List V} (e : Ed S H H') (h : SqT K H a xs) : SqT K H' a xs := by
  rcases h with h | h
  · exact .inl (e.rdt h)
  · exact .inr h
theorem Ed.sql {K : PySem.W.Frag} {S : List Addr} {H H' : Hp} {a : Addr} {xs : List V} (e : Ed S H H') (n : a ∉ S) (h : SqL K H a xs) : SqL K H' a xs := by
  rcases h with (h | ⟨o, h⟩) | h
  · exact .inl (.inl (e.keep _ _ n h))
  · exact .inl (.inr ⟨o, e.frz _ _ _ h⟩)
  · exact .inr h
theorem Ed.sql0 {K : PySem.W.Frag} {H H' : Hp} {a : Addr} {xs : List V} (e : Ed [] H H') (h : SqL K H a xs) : SqL K H' a xs := e.sql (fun z => nomatch z) h
theorem Ed.sql1 {K : PySem.W.Frag} {H H' : Hp} {a p : Addr} {xs : List V} (e : Ed [p] H H') (n : a ≠ p) (h : SqL K H a xs) : SqL K H' a xs := e.sql (fun z => n (List.mem_singleton.mp z)) h
/-- a list that is read; p holds no list -/
theorem Ed.sqlk {K : PySem.W.Frag} {H H' : Hp} {a p : Addr} {o : HO} {xs : List V} (e : Ed [p] H H') (hp : H p = some o) (n : ∀ ys, o ≠ .lst ys) (h : SqL K H a xs) : SqL K H' a xs := by
  rcases h with (h | ⟨ob, h⟩) | h
  · exact .inl (.inl (e.keep _ _ (fun z => by rw [List.mem_singleton.mp z, hp] at h; cases h; exact n xs rfl) h))
  · exact .inl (.inr ⟨ob, e.frz _ _ _ h⟩)
  · exact .inr h

/-! ### data stay -/
mutual
theorem Dp.ed {K : PySem.W.Frag} {S : List Addr} {H H' : Hp} (e : Ed S H H') (hS : ∀ a ∈ S, ∀ xs, H a ≠ some (.lst xs)) : ∀ (d : PyData) (v : V), Dp K H v d → Dp K H' v d
  | .none, _, h => by cases h; exact .non
  | .bool b, _, h => by cases h; exact .bl b
  | .int i, _, h => by cases h; exact .int i
  | .str x, _, h => by cases h; exact .str x
  | .list ds, _, h => by
    cases h with
    | lst ha hd =>
      refine .lst ?_ (Dp.edAll e hS ds _ hd)
      rcases ha with (ha | ⟨ob, ha⟩) | ha
      · exact .inl (.inl (e.keep _ _ (fun z => hS _ z _ ha) ha))
      · exact .inl (.inr ⟨ob, e.frz _ _ _ ha⟩)
      · exact .inr ha
  | .tuple ds, _, h => by
    cases h with
    | tup ha hd => exact .tup (e.sqt ha) (Dp.edAll e hS ds _ hd)
theorem Dp.edAll {K : PySem.W.Frag} {S : List Addr} {H H' : Hp} (e : Ed S H H') (hS : ∀ a ∈ S, ∀ xs, H a ≠ some (.lst xs)) : ∀ (ds : List PyData) (vs : List V), DpAll K H vs ds → DpAll K H' vs ds
  | [], _, h => by cases h; exact .nil
  | d :: ds, _, h => by
    cases h with
    | cons h1 h2 => exact .cons (Dp.ed e hS d _ h1) (Dp.edAll e hS ds _ h2)
end
theorem Dp.ed0 {K : PySem.W.Frag} {H H' : Hp} {d : PyData} {v : V} (e : Ed [] H H') (h : Dp K H v d) : Dp K H' v d := Dp.ed e (fun _ z => nomatch z) d v h

/-! ### readings, step by step: what is left is stated without its binders -/
section
variable {K : PySem.W.Frag} {σ : L2.St} {H : Hp} {D : Ends} {Q : VK} {QB : Bool → Hp → Prop} {QA : List V → Hp → Prop} {te ta tb : TE} {tt tu : TT} {t u : TS} {g : TG} {v x y : V} {i j : Int}
-- statements
theorem go_seq (h : t { D with nx := u D } σ H) : tSeq t u D σ H := h
theorem go_asg (h : te σ H fun x H1 => g x σ H1 D.nx) : tAsg te g D σ H := h
theorem go_drop (h : te σ H fun _ H1 => D.nx σ H1) : tDrop te D σ H := h
theorem go_ret (h : te σ H D.rt) : tRet te D σ H := h
theorem go_retN (h : D.rt .non H) : tRetN D σ H := h
theorem go_next (h : D.nx σ H) : tNext D σ H := h
theorem go_break (h : D.bk σ H) : tBreak D σ H := h
theorem go_cont (h : D.ct σ H) : tCont D σ H := h
theorem go_ifS (h : tt σ H fun b H1 => if b = true then t D σ H1 else u D σ H1) : tIfS tt t u D σ H := h
theorem go_name {n : Nat} {R : L2.St → Hp → Prop} (h : R (σ.set n (some v)) H) : gName n v σ H R := h
-- tests
theorem go_test (h : te σ H fun x H' => ∃ k, x = .bl k ∧ QB k H') : tTest te σ H QB := h
theorem go_B (h : te σ H fun x H' => ∃ k, x = .bl k ∧ QB k H') : tB te σ H QB := h
theorem go_bl {b : Bool} {R : Bool → Prop} (h : R b) : ∃ k, V.bl b = .bl k ∧ R k := ⟨b, rfl, h⟩
theorem go_notT (h : tt σ H fun c H1 => QB (!c) H1) : tNot tt σ H QB := h
theorem go_andT (h : tt σ H fun c H1 => if c = true then tu σ H1 QB else QB false H1) : tAnd tt tu σ H QB := h
theorem go_orT (h : tt σ H fun c H1 => if c = true then QB true H1 else tu σ H1 QB) : tOr tt tu σ H QB := h
theorem go_yes (h : QB true H) : tYes σ H QB := h
-- values
theorem go_var {n : Nat} (e : σ[n]? = some (some v)) (h : Q v H) : tVar n σ H Q := ⟨v, e, h⟩
theorem go_c (h : Q v H) : tC v σ H Q := h
theorem go_op {r : R2} (h : ta σ H fun x H1 => tb σ H1 fun y H2 => r x y H2 Q) : tOp r ta tb σ H Q := h
theorem go_un {r : V → Hp → VK → Prop} (h : ta σ H fun x H1 => r x H1 Q) : tUn r ta σ H Q := h
theorem go_andV (h : ta σ H fun x H1 => ∃ c, x = .bl c ∧ if c = true then tb σ H1 Q else Q (.bl false) H1) : tAndV ta tb σ H Q := h
theorem go_orV (h : ta σ H fun x H1 => ∃ c, x = .bl c ∧ if c = true then Q (.bl true) H1 else tb σ H1 Q) : tOrV ta tb σ H Q := h
theorem go_notV (h : ta σ H fun x H1 => ∃ c, x = .bl c ∧ Q (.bl (!c)) H1) : tNotV ta σ H Q := h
theorem go_blP {b : Bool} {P : Bool → Prop} (h : P b) : ∃ c, V.bl b = .bl c ∧ P c := ⟨b, rfl, h⟩
theorem go_if (h : tt σ H fun c H1 => if c = true then ta σ H1 Q else tb σ H1 Q) : tIf tt ta tb σ H Q := h
theorem go_I0 {f : Int → Int → V} (h : Q (f i j) H) : rI0 f (.int i) (.int j) H Q := ⟨i, j, rfl, rfl, h⟩
theorem go_I {C : Int → Int → Prop} {f : Int → Int → V} (hc : C i j) (h : Q (f i j) H) : rI C f (.int i) (.int j) H Q := ⟨i, j, rfl, rfl, hc, h⟩
theorem go_U {f : Int → V} (h : Q (f i) H) : rU f (.int i) H Q := ⟨i, rfl, h⟩
theorem go_eqI (h : Q (.bl (decide (i = j))) H) : rEq (.int i) (.int j) H Q := ⟨rfl, by
  have : decide (V.int i = V.int j) = decide (i = j) := by rw [Bool.eq_iff_iff]; simp
  rw [this]; exact h⟩
theorem go_neI (h : Q (.bl (!decide (i = j))) H) : rNe (.int i) (.int j) H Q := ⟨rfl, by
  have : decide (V.int i = V.int j) = decide (i = j) := by rw [Bool.eq_iff_iff]; simp
  rw [this]; exact h⟩
theorem go_eqS {a b : Str} (h : Q (.bl (decide (a = b))) H) : rEq (.str a) (.str b) H Q := ⟨rfl, by
  have : decide (V.str a = V.str b) = decide (a = b) := by rw [Bool.eq_iff_iff]; simp
  rw [this]; exact h⟩
theorem go_neS {a b : Str} (h : Q (.bl (!decide (a = b))) H) : rNe (.str a) (.str b) H Q := ⟨rfl, by
  have : decide (V.str a = V.str b) = decide (a = b) := by rw [Bool.eq_iff_iff]; simp
  rw [this]; exact h⟩
theorem go_eqB {a b : Bool} (h : Q (.bl (decide (a = b))) H) : rEq (.bl a) (.bl b) H Q := ⟨rfl, by
  have : decide (V.bl a = V.bl b) = decide (a = b) := by rw [Bool.eq_iff_iff]; simp
  rw [this]; exact h⟩
theorem go_neB {a b : Bool} (h : Q (.bl (!decide (a = b))) H) : rNe (.bl a) (.bl b) H Q := ⟨rfl, by
  have : decide (V.bl a = V.bl b) = decide (a = b) := by rw [Bool.eq_iff_iff]; simp
  rw [this]; exact h⟩
theorem go_eqg (hs : scal x y = true) (h : Q (.bl (decide (x = y))) H) : rEq x y H Q := ⟨hs, h⟩
theorem go_neg (hs : scal x y = true) (h : Q (.bl (!decide (x = y))) H) : rNe x y H Q := ⟨hs, h⟩
theorem go_cb {r : List V → Hp → VK → Prop} {ts : TA} (h : ts σ H fun vs H1 => r vs H1 Q) : tCB r ts σ H Q := h
theorem go_nil (h : QA [] H) : tNil σ H QA := h
theorem go_cons {tr : TA} (h : ta σ H fun x H1 => tr σ H1 fun xs H2 => QA (x :: xs) H2) : tCons ta tr σ H QA := h
theorem go_call {sp : Sp} {E : XK} {ts : TA} (h : ts σ H fun vs H1 => sp vs H1 Q E) : tCall sp [] E ts σ H Q := by
  unfold tCall
  simpa only [List.append_nil] using h
theorem go_tup {ts : TA} (h : ts σ H fun xs H1 => xs.length ≤ sizeLine ∧ ∀ p, H1 p = none → Q (.ref p) (upd H1 p (.tup xs))) : tTup ts σ H Q := h
theorem go_lst {ts : TA} (h : ts σ H fun xs H1 => xs.length ≤ sizeLine ∧ ∀ p, H1 p = none → Q (.ref p) (upd H1 p (.lst xs))) : tLst ts σ H Q := h
theorem go_len {xs : List V} {P : Prop} (hl : xs.length ≤ 1000) (h : P) : xs.length ≤ sizeLine ∧ P := ⟨Nat.le_of_lt (small1000 hl), h⟩
theorem go_dnew (h : ∀ p, H p = none → Q (.ref p) (upd H p (.dK []))) : tDNewK σ H Q := h
theorem go_dget (h : ta σ H fun x H1 => tb σ H1 fun y H2 => ∃ a v, x = .ref a ∧ DGet H2 a y (some v) ∧ Q v H2) : tDGet ta tb σ H Q := h
theorem go_dgetS {a : Addr} {k : Str} {kvs : List (Key × V)} {v : V} {R : V → Prop} (e : H a = some (.dK kvs)) (ev : valV kvs (.inr k) = some v) (h : R v) : ∃ a' v', V.ref a = .ref a' ∧ DGet H a' (.str k) (some v') ∧ R v' :=
  ⟨a, v, rfl, by rw [← ev]; exact DGet.k (k := .inr k) e, h⟩
theorem go_dgetI {a : Addr} {k : Int} {kvs : List (Key × V)} {v : V} {R : V → Prop} (e : H a = some (.dK kvs)) (ev : valV kvs (.inl k) = some v) (h : R v) : ∃ a' v', V.ref a = .ref a' ∧ DGet H a' (.int k) (some v') ∧ R v' :=
  ⟨a, v, rfl, by rw [← ev]; exact DGet.k (k := .inl k) e, h⟩
theorem go_din (h : ta σ H fun y H1 => tb σ H1 fun x H2 => ∃ a o, x = .ref a ∧ DGet H2 a y o ∧ Q (.bl o.isSome) H2) : tDIn ta tb σ H Q := h
theorem go_dnotin (h : ta σ H fun y H1 => tb σ H1 fun x H2 => ∃ a o, x = .ref a ∧ DGet H2 a y o ∧ Q (.bl (!o.isSome)) H2) : tDNotIn ta tb σ H Q := h
theorem go_dinI {a : Addr} {k : Int} {kvs : List (Key × V)} {P : Option V → Prop} (e : H a = some (.dK kvs)) (h : P (valV kvs (.inl k))) : ∃ a' o, V.ref a = .ref a' ∧ DGet H a' (.int k) o ∧ P o :=
  ⟨a, _, rfl, DGet.k (k := .inl k) e, h⟩
theorem go_dput {tv : TE} (h : tv σ H fun v H1 => ta σ H1 fun x H2 => tb σ H2 fun y H3 => ∃ a H4, x = .ref a ∧ DPut H3 a y v H4 ∧ D.nx σ H4) : sDPut ta tb tv D σ H := h
theorem go_dputS {a : Addr} {k : Str} {kvs : List (Key × V)} {v : V} {P : Hp → Prop} (e : H a = some (.dK kvs)) (hl : kvs.length ≤ 1000) (h : P (upd H a (.dK (putK kvs (.inr k) v)))) : ∃ a' H4, V.ref a = .ref a' ∧ DPut H a' (.str k) v H4 ∧ P H4 :=
  ⟨a, _, rfl, DPut.k (k := .inr k) e (small1000 hl), h⟩
theorem go_dputI {a : Addr} {k : Int} {kvs : List (Key × V)} {v : V} {P : Hp → Prop} (e : H a = some (.dK kvs)) (hl : kvs.length ≤ 1000) (h : P (upd H a (.dK (putK kvs (.inl k) v)))) : ∃ a' H4, V.ref a = .ref a' ∧ DPut H a' (.int k) v H4 ∧ P H4 :=
  ⟨a, _, rfl, DPut.k (k := .inl k) e (small1000 hl), h⟩
theorem go_ixL {p : Addr} {xs : List V} (hs : SqL K H p xs) (ha : atI xs i = some v) (h : Q v H) : rIxL K (.ref p) (.int i) H Q := ⟨p, xs, i, v, rfl, rfl, hs, ha, h⟩
theorem go_ixT {p : Addr} {xs : List V} (hs : SqT K H p xs) (ha : atI xs i = some v) (h : Q v H) : rIxT K (.ref p) (.int i) H Q := ⟨p, xs, i, v, rfl, rfl, hs, ha, h⟩
theorem go_ixS {z : Str} {c : Nat} (hz : z.length ≤ 1000) (ha : atI z.cps.toList i = some c) (h : Q (.str ⟨#[c]⟩) H) : rIxS (.str z) (.int i) H Q := ⟨z, i, c, rfl, rfl, Nat.le_of_lt (small1000 hz), ha, h⟩
theorem go_sl {r : V → Option Int → Option Int → Hp → VK → Prop} {tl th : TO} (h : te σ H fun x H1 => tl σ H1 fun l H2 => th σ H2 fun u H3 => r x l u H3 Q) : tSl r te tl th σ H Q := h
theorem go_nopart {QO : Option Int → Hp → Prop} (h : QO none H) : tNoPart σ H QO := h
theorem go_part {QO : Option Int → Hp → Prop} (h : te σ H fun x H1 => ∃ i, x = .int i ∧ QO (some i) H1) : tPart te σ H QO := h
theorem go_partI {P : Int → Prop} (h : P i) : ∃ j, V.int i = .int j ∧ P j := ⟨i, rfl, h⟩
theorem go_slL {p : Addr} {xs : List V} {lo hi : Option Int} (hs : SqL K H p xs) (h : ∀ q, H q = none → Q (.ref q) (upd H q (.lst (cutV xs lo hi)))) : rSlL K (.ref p) lo hi H Q := ⟨p, xs, rfl, hs, h⟩
theorem go_slS {z : Str} {lo hi : Option Int} (hz : z.length ≤ 1000) (h : Q (.str (cutS z lo hi)) H) : rSlS (.str z) lo hi H Q := ⟨z, rfl, Nat.le_of_lt (small1000 hz), h⟩
theorem go_abs {R : Int → Prop} (h : R i) : ∃ j, [V.int i] = [.int j] ∧ R j := ⟨i, rfl, h⟩
theorem go_int1 {R : Int → Prop} {R' : Bool → Prop} (h : R i) : (∃ j, [V.int i] = [.int j] ∧ R j) ∨ ∃ k, [V.int i] = [.bl k] ∧ R' k := .inl ⟨i, rfl, h⟩
theorem go_int1b {k : Bool} {R : Int → Prop} {R' : Bool → Prop} (h : R' k) : (∃ j, [V.bl k] = [.int j] ∧ R j) ∨ ∃ k', [V.bl k] = [.bl k'] ∧ R' k' := .inr ⟨k, rfl, h⟩
theorem go_bm {T : String} {r : V → List V → Hp → VK → Prop} {to : TE} {ts : TA} (h : to σ H fun x H1 => tyV K T x H1 ∧ ts σ H1 fun xs H2 => r x xs H2 Q) : tBM K T r to ts σ H Q := h
theorem go_bm0 {T : String} {r : V → List V → Hp → VK → Prop} {to : TE} (h : to σ H fun x H1 => tyV K T x H1 ∧ r x [] H1 Q) : tBM0 K T r to σ H Q := h
theorem go_tyL {p : Addr} {xs : List V} {P : Prop} (e : SqL K H p xs) (h : P) : tyV K "list" (.ref p) H ∧ P := ⟨.inl ⟨rfl, xs, e⟩, h⟩
theorem go_append {p : Addr} {xs : List V} (e : H p = some (.lst xs)) (hl : xs.length ≤ 1000) (h : Q .non (upd H p (.lst (xs ++ [v])))) : rAppend (.ref p) [v] H Q := ⟨p, xs, v, rfl, rfl, e, small1000 hl, h⟩
theorem go_lenL {p : Addr} {xs : List V} {R : List V → Prop} (e : SqL K H p xs) (h : R xs) : ∃ q ys, [V.ref p] = [.ref q] ∧ (SqL K H q ys ∨ SqT K H q ys) ∧ R ys := ⟨p, xs, rfl, .inl e, h⟩
theorem go_lenT {p : Addr} {xs : List V} {R : List V → Prop} (e : SqT K H p xs) (h : R xs) : ∃ q ys, [V.ref p] = [.ref q] ∧ (SqL K H q ys ∨ SqT K H q ys) ∧ R ys := ⟨p, xs, rfl, .inr e, h⟩
theorem go_for {wi : TI} (h : wi σ H fun J H1 => ∃ W : Nat → Nat → L2.St → Hp → Prop, (∃ m, W 0 m σ H1) ∧ ∀ i m σ H, W i m σ H →
  (J.stop i H ∧ D.nx σ H) ∨ (J.go i H ∧ ∃ N : L2.St → Hp → Prop, (∀ σ' H', N σ' H' → ∃ m', m' < m ∧ W (i + 1) m' σ' H') ∧ ∀ x H', J.yld i H x H' → g x σ H' fun σ2 H2 => t { D with nx := N, ct := N, bk := D.nx } σ2 H2)) : tFor wi g t D σ H := h
theorem go_iList {tl : TE} {R : It → Hp → Prop} (h : tl σ H fun x H1 => ∃ a, x = .ref a ∧ (∃ xs, SqL K H1 a xs) ∧ R (Itl K a) H1) : iList K tl σ H R := h
theorem go_iTup {tl : TE} {R : It → Hp → Prop} (h : tl σ H fun x H1 => ∃ a, x = .ref a ∧ (∃ xs, SqT K H1 a xs) ∧ R (Itt K a) H1) : iTup K tl σ H R := h
theorem go_iRng1 {ts : TA} {R : It → Hp → Prop} (h : ts σ H fun vs H1 => ∃ j : Int, vs = [.int j] ∧ -(2 ^ 62) ≤ j ∧ j < 2 ^ 62 ∧ R (Itr 0 j.toNat) H1) : iRng1 ts σ H R := h
theorem go_iRng2 {ts : TA} {R : It → Hp → Prop} (h : ts σ H fun vs H1 => ∃ i j : Int, vs = [.int i, .int j] ∧ (-(2 ^ 62) ≤ i ∧ i < 2 ^ 62 ∧ -(2 ^ 62) ≤ j ∧ j < 2 ^ 62) ∧ R (Itr i (j - i).toNat) H1) : iRng2 ts σ H R := h
theorem go_iStr {tl : TE} {R : It → Hp → Prop} (h : tl σ H fun v H1 => ∃ x, v = .str x ∧ R (Its x) H1) : iStr tl σ H R := h
theorem go_lc {wi : TI} {vs : List Nat} (h : wi σ H fun J H1 => ∀ D, H1 D = none → ∃ W : Nat → Nat → Hp → Prop, (∃ m, W 0 m (upd H1 D (.lst []))) ∧ ∀ i m H, W i m H →
  (J.stop i H ∧ Q (.ref D) H) ∨ (J.go i H ∧ ∃ Nx : Hp → Prop, (∀ H', Nx H' → ∃ m', m' < m ∧ W (i + 1) m' H') ∧ ∀ x H', J.yld i H x H' → g x (wipe σ vs) H' fun σ2 H2 => wipe σ2 vs = wipe σ vs ∧ tt σ2 H2 fun b H3 =>
    if b = true then te σ2 H3 fun y H4 => ∃ acc, H4 D = some (.lst acc) ∧ acc.length < sizeLine ∧ Nx (upd H4 D (.lst (acc ++ [y]))) else Nx H3)) : tLc wi g tt te vs σ H Q := h
/-- a comprehension over n turns that give items one by one: the new list's items so far are told by Pv -/
theorem lc_by {J : It} {n : Nat} {G : Hp → Prop} {Y : Nat → Hp → V → Hp → Prop} {vs : List Nat} {R : Addr → Hp → Prop} (w : Walk J n G Y) (Pv : Addr → Nat → Hp → Prop) (h0 : ∀ D H2, H D = none → Ed [] H H2 → H2 D = some (.lst []) → Pv D 0 H2) (hG : ∀ D i H', H D = none → i ≤ n → Pv D i H' → G H')
    (hs : ∀ D i x H1 H', H D = none → i < n → Pv D i H1 → Y i H1 x H' → g x (wipe σ vs) H' fun σ2 H2 => wipe σ2 vs = wipe σ vs ∧ tt σ2 H2 fun b H3 =>
      if b = true then te σ2 H3 fun y H4 => ∃ acc, H4 D = some (.lst acc) ∧ acc.length < sizeLine ∧ Pv D (i + 1) (upd H4 D (.lst (acc ++ [y]))) else Pv D (i + 1) H3) (hd : ∀ D H', H D = none → Pv D n H' → R D H') :
    ∀ D, H D = none → ∃ W : Nat → Nat → Hp → Prop, (∃ m, W 0 m (upd H D (.lst []))) ∧ ∀ i m H, W i m H →
      (J.stop i H ∧ R D H) ∨ (J.go i H ∧ ∃ Nx : Hp → Prop, (∀ H', Nx H' → ∃ m', m' < m ∧ W (i + 1) m' H') ∧ ∀ x H', J.yld i H x H' → g x (wipe σ vs) H' fun σ2 H2 => wipe σ2 vs = wipe σ vs ∧ tt σ2 H2 fun b H3 =>
        if b = true then te σ2 H3 fun y H4 => ∃ acc, H4 D = some (.lst acc) ∧ acc.length < sizeLine ∧ Nx (upd H4 D (.lst (acc ++ [y]))) else Nx H3) := fun D nD =>
  lc_it w (Pv D) (h0 D _ nD (Ed.new nD) upd_same) (fun i H' hi p => hG D i H' nD hi p) (fun i x H1 H' hi p y => hs D i x H1 H' nD hi p y) (fun H' p => hd D H' nD p)
/-- list(xs) -/
theorem go_listL {p : Addr} {xs : List V} {R : List V → Prop} (e : SqL K H p xs) (h : R xs) : ∃ q ys, [V.ref p] = [.ref q] ∧ (SqL K H q ys ∨ SqT K H q ys) ∧ R ys := ⟨p, xs, rfl, .inl e, h⟩
theorem go_disp {trs : List (TE × TE)} (h : ∀ p, H p = none → tPairs trs σ (upd H p (.dK [])) fun ps H2 => H2 p = some (.dK []) ∧ ∃ kvs : List (Key × V), ps = kvs.map (fun kv => (kV kv.1, kv.2)) ∧ kvs.length ≤ 15 ∧ Q (.ref p) (upd H2 p (.dK (mergeK [] kvs)))) : tDisp trs σ H Q := h
theorem go_pairs {tk tv : TE} {trs : List (TE × TE)} {R : List (V × V) → Hp → Prop} (h : tk σ H fun k H1 => tv σ H1 fun v H2 => tPairs trs σ H2 fun ps H3 => R ((k, v) :: ps) H3) : tPairs ((tk, tv) :: trs) σ H R := h
theorem go_pairs0 {R : List (V × V) → Hp → Prop} (h : R [] H) : tPairs [] σ H R := h
/-- a new object, by name -/
theorem alloc {p : Addr} {o : HO} {H2 : Hp} (hu : upd H p o = H2) (h : H p = none) : Ed [] H H2 ∧ H2 p = some o := by subst hu; exact ⟨Ed.new h, upd_same⟩
/-- an object changed, by name -/
theorem chg {p : Addr} {o u : HO} {H2 : Hp} (hu : upd H p o = H2) (h : H p = some u) (m : Mut (some u) := by trivial) : Ed [p] H H2 ∧ H2 p = some o := by subst hu; exact ⟨Ed.mut h m, upd_same⟩
-- ifs
theorem go_ite {c : Prop} [Decidable c] {A B : Prop} (h1 : c → A) (h2 : ¬ c → B) : if decide c = true then A else B := by
  by_cases h : c
  · rw [if_pos (decide_eq_true h)]; exact h1 h
  · rw [if_neg (fun z => h (of_decide_eq_true z))]; exact h2 h
theorem go_iten {c : Prop} [Decidable c] {A B : Prop} (h1 : ¬ c → A) (h2 : c → B) : if (!decide c) = true then A else B := by
  by_cases h : c
  · rw [decide_eq_true h]; exact iteF (h2 h)
  · rw [decide_eq_false h]; exact iteT (h1 h)
theorem go_iteb {b : Bool} {A B : Prop} (h1 : b = true → A) (h2 : b = false → B) : if b = true then A else B := by
  cases b with
  | true => exact iteT (h1 rfl)
  | false => exact iteF (h2 rfl)
theorem go_itebn {b : Bool} {A B : Prop} (h1 : b = false → A) (h2 : b = true → B) : if (!b) = true then A else B := by
  cases b with
  | true => exact iteF (h2 rfl)
  | false => exact iteT (h1 rfl)
end

/-! ### distinct places -/
theorem ne1 {H : Hp} {a b : Addr} {o : HO} (h' : H b = none) (h : H a = some o) : a ≠ b := ne_of_none h h'
theorem ne2 {H : Hp} {a b : Addr} {o : HO} (h' : H a = none) (h : H b = some o) : a ≠ b := (ne_of_none h h').symm
theorem nek {H : Hp} {a b : Addr} {o u : HO} (h : H a = some o) (h' : H b = some u) (d : o ≠ u) : a ≠ b := ne_of h h' d
theorem Ed.ex' {S : List Addr} {H H1 H2 : Hp} (b : Ed [] H1 H2) (a : Ed S H H1) : Ed S H H2 := a.ex b
theorem Ed.one' {S : List Addr} {H H1 H2 : Hp} {p : Addr} (b : Ed [p] H1 H2) (a : Ed S H H1) (h : p ∈ S ∨ H p = none) : Ed S H H2 := a.one b h
theorem Ed.two' {S : List Addr} {H H1 H2 : Hp} {p q : Addr} (b : Ed [p, q] H1 H2) (a : Ed S H H1) (h : p ∈ S ∨ H p = none) (h' : q ∈ S ∨ H q = none) : Ed S H H2 :=
  a.trans b fun x z => by
    rcases List.mem_cons.mp z with z | z
    · rw [z]; exact h
    · rw [List.mem_singleton.mp z]; exact h'
theorem Ed.back {S : List Addr} {H H' : Hp} {a : Addr} (e : Ed S H H') (h : H' a = none) : H a = none := e.dom a h
theorem sqt_of {K : PySem.W.Frag} {H : Hp} {a : Addr} {xs : List V} (h : H a = some (.tup xs)) : SqT K H a xs := .inl (.inl h)
theorem go_neL {α : Type} [DecidableEq α] {a : α} {A B : Prop} (h : B) : if (!decide (a = a)) = true then A else B := by rw [decide_eq_true rfl]; exact iteF h
theorem go_eqL {α : Type} [DecidableEq α] {a : α} {A B : Prop} (h : A) : if decide (a = a) = true then A else B := by rw [decide_eq_true rfl]; exact iteT h
theorem go_nT {A B : Prop} (h : B) : if (!true) = true then A else B := iteF h
theorem go_nF {A B : Prop} (h : A) : if (!false) = true then A else B := iteT h
theorem go_iteT' {c : Prop} [Decidable c] {A B : Prop} (hc : c) (h : A) : if decide c = true then A else B := by rw [decide_eq_true hc]; exact iteT h
theorem go_iteF' {c : Prop} [Decidable c] {A B : Prop} (hc : ¬ c) (h : B) : if decide c = true then A else B := by rw [decide_eq_false hc]; exact iteF h
theorem go_itenT' {c : Prop} [Decidable c] {A B : Prop} (hc : ¬ c) (h : A) : if (!decide c) = true then A else B := by rw [decide_eq_false hc]; exact iteT h
theorem go_itenF' {c : Prop} [Decidable c] {A B : Prop} (hc : c) (h : B) : if (!decide c) = true then A else B := by rw [decide_eq_true hc]; exact iteF h
theorem go_strE {z : Str} {R : Str → Prop} (h : R z) : ∃ x, V.str z = .str x ∧ R x := ⟨z, rfl, h⟩
theorem go_sign {c : Nat} {z : Str} {R : Nat → Str → Prop} (h : R c z) : ∃ c' z', V.str ⟨#[c]⟩ = .str ⟨#[c']⟩ ∧ V.str z = .str z' ∧ R c' z' := ⟨c, z, rfl, rfl, h⟩
theorem go_lenS {z : Str} {R : Str → Prop} (l : z.length ≤ 1000) (h : R z) : ∃ x, [V.str z] = [.str x] ∧ x.length ≤ sizeLine ∧ R x := ⟨z, rfl, Nat.le_of_lt (small1000 l), h⟩
/-! ### is None -/
theorem go_isN {R : Prop} (h : R) : V.non = V.non ∧ R := ⟨rfl, h⟩
theorem go_iteN {x : V} {A B : Prop} (hx : x ≠ .non) (h : B) : if decide (x = V.non) = true then A else B := by rw [decide_eq_false hx]; exact iteF h
theorem go_iteNT {A B : Prop} (h : A) : if decide (V.non = V.non) = true then A else B := iteT h
/-! ### isinstance -/
theorem kit_int_int : kitB "int" "int" = some true := by decide +kernel
theorem kit_int_bool : kitB "int" "bool" = some false := by decide +kernel
theorem kit_int_str : kitB "int" "str" = some false := by decide +kernel
theorem kit_int_tuple : kitB "int" "tuple" = some false := by decide +kernel
theorem kit_int_list : kitB "int" "list" = some false := by decide +kernel
theorem kit_int_dict : kitB "int" "dict" = some false := by decide +kernel
theorem kit_bool_int : kitB "bool" "int" = some true := by decide +kernel
theorem kit_bool_bool : kitB "bool" "bool" = some true := by decide +kernel
theorem kit_bool_str : kitB "bool" "str" = some false := by decide +kernel
theorem kit_bool_tuple : kitB "bool" "tuple" = some false := by decide +kernel
theorem kit_bool_list : kitB "bool" "list" = some false := by decide +kernel
theorem kit_bool_dict : kitB "bool" "dict" = some false := by decide +kernel
theorem kit_str_int : kitB "str" "int" = some false := by decide +kernel
theorem kit_str_bool : kitB "str" "bool" = some false := by decide +kernel
theorem kit_str_str : kitB "str" "str" = some true := by decide +kernel
theorem kit_str_tuple : kitB "str" "tuple" = some false := by decide +kernel
theorem kit_str_list : kitB "str" "list" = some false := by decide +kernel
theorem kit_str_dict : kitB "str" "dict" = some false := by decide +kernel
theorem kit_NoneType_int : kitB "NoneType" "int" = some false := by decide +kernel
theorem kit_NoneType_bool : kitB "NoneType" "bool" = some false := by decide +kernel
theorem kit_NoneType_str : kitB "NoneType" "str" = some false := by decide +kernel
theorem kit_NoneType_tuple : kitB "NoneType" "tuple" = some false := by decide +kernel
theorem kit_NoneType_list : kitB "NoneType" "list" = some false := by decide +kernel
theorem kit_NoneType_dict : kitB "NoneType" "dict" = some false := by decide +kernel
theorem kit_list_int : kitB "list" "int" = some false := by decide +kernel
theorem kit_list_bool : kitB "list" "bool" = some false := by decide +kernel
theorem kit_list_str : kitB "list" "str" = some false := by decide +kernel
theorem kit_list_tuple : kitB "list" "tuple" = some false := by decide +kernel
theorem kit_list_list : kitB "list" "list" = some true := by decide +kernel
theorem kit_list_dict : kitB "list" "dict" = some false := by decide +kernel
theorem kit_tuple_int : kitB "tuple" "int" = some false := by decide +kernel
theorem kit_tuple_bool : kitB "tuple" "bool" = some false := by decide +kernel
theorem kit_tuple_str : kitB "tuple" "str" = some false := by decide +kernel
theorem kit_tuple_tuple : kitB "tuple" "tuple" = some true := by decide +kernel
theorem kit_tuple_list : kitB "tuple" "list" = some false := by decide +kernel
theorem kit_tuple_dict : kitB "tuple" "dict" = some false := by decide +kernel
theorem kit_dict_int : kitB "dict" "int" = some false := by decide +kernel
theorem kit_dict_bool : kitB "dict" "bool" = some false := by decide +kernel
theorem kit_dict_str : kitB "dict" "str" = some false := by decide +kernel
theorem kit_dict_tuple : kitB "dict" "tuple" = some false := by decide +kernel
theorem kit_dict_list : kitB "dict" "list" = some false := by decide +kernel
theorem kit_dict_dict : kitB "dict" "dict" = some true := by decide +kernel
section
variable {K : PySem.W.Frag} {H : Hp} {Q : VK} {x : V}
theorem tyL {a : Addr} {xs : List V} (h : SqL K H a xs) : TyX K H (.ref a) (.type "list") := by
  rcases h with (h | ⟨o, h⟩) | ⟨o, _, _, h, c, _⟩
  · exact .base (.lst h)
  · exact .base (.frz h)
  · exact .kList h c
theorem tyT {a : Addr} {xs : List V} (h : SqT K H a xs) : TyX K H (.ref a) (.type "tuple") := by
  rcases h with (h | ⟨o, h⟩) | ⟨o, _, _, h, c, _⟩
  · exact .base (.tup h)
  · exact .fTuple h
  · exact .kTuple h c
theorem go_isi {n m : String} {b : Bool} (ht : TyX K H x (.type n)) (hk : kitB n m = some b) (h : Q (.bl b) H) : rIsi K [x, .ty m] H Q := ⟨x, .ty m, .type n, .type m, b, rfl, .ty m, ht, kit_ty hk, h⟩
theorem or_t {b : Bool} : (true || b) = true := rfl
theorem or_f {b : Bool} : (false || b) = b := rfl
theorem go_isiT2 {tp : Addr} {n m m' : String} {b b' c : Bool} (ht : TyX K H x (.type n)) (e : H tp = some (.tup [.ty m, .ty m'])) (hk : kitB n m = some b) (hk' : kitB n m' = some b') (hc : (b || b') = c) (h : Q (.bl c) H) : rIsiT K [x, .ref tp] H Q :=
  ⟨x, tp, _, .type n, [.type m, .type m'], b || b', rfl, e, .cons (.ty m) (.cons (.ty m') .nil), ht,
    kitAny_cons (kit_ty hk) (fun z => by subst z; exact kitAny_cons (kit_ty hk') (fun z => by subst z; exact kitAny_nil) fun z => by subst z; rfl) fun z => by subst z; rfl, by rw [hc]; exact h⟩
end
/-! ### slices -/
theorem cut_take (xs : List V) (k : Nat) : cutV xs none (some (k : Int)) = xs.take k := by
  unfold cutV
  rw [HT.sIx_nat, HT.sIx_none, List.drop_zero, Nat.sub_zero]
  rcases Nat.le_total k xs.length with h | h
  · rw [Nat.min_eq_left h]
  · rw [Nat.min_eq_right h, List.take_length, List.take_of_length_le h]
theorem cut_drop (xs : List V) (k : Nat) : cutV xs (some (k : Int)) none = xs.drop k := by
  unfold cutV
  rw [HT.sIx_nat, HT.sIx_none]
  rcases Nat.le_total k xs.length with h | h
  · rw [Nat.min_eq_left h, List.take_of_length_le (by rw [List.length_drop]; omega)]
  · rw [Nat.min_eq_right h, List.drop_of_length_le h, List.drop_length, List.take_nil]
theorem cut_mid (xs : List V) (j k : Nat) : cutV xs (some (j : Int)) (some (k : Int)) = (xs.drop j).take (k - j) := by
  unfold cutV
  rw [HT.sIx_nat, HT.sIx_nat]
  rcases Nat.le_total j xs.length with h | h
  · rw [Nat.min_eq_left h]
    rcases Nat.le_total k xs.length with h' | h'
    · rw [Nat.min_eq_left h']
    · rw [Nat.min_eq_right h', List.take_of_length_le (by rw [List.length_drop]; omega), List.take_of_length_le (by rw [List.length_drop]; omega)]
  · rw [Nat.min_eq_right h, List.drop_of_length_le h, List.drop_length, List.take_nil, List.take_nil]
/-! ### sizes -/
theorem mulw {i j : Int} (hi : i.natAbs < 2 ^ 200) (hj : j.natAbs < 2 ^ 200) : CMulW i j := wide_mul (a := 200) (b := 200) hi hj (by decide) (by decide) (by decide)
theorem divw {i j : Int} (h : 0 < j) (hj : j.natAbs < 2 ^ 200) : CDivW i j := wide_div (b := 200) h hj (by decide) (by decide)
end Vc

/-! Vk: further readings by name: chains, classes' constants, fields, new instances, locked dicts, sorted. -/
namespace Vc
open PySem PySem.Spec PyProof.Rows L2
/-- a reading within a comprehension, told without the comprehension's own frame -/
theorem blkE {Y : Cx} {e : Expr} {t' t : TE} (h : PE Y e t') (q : t' = t) : PE Y e t := q ▸ h
theorem blkT {Y : Cx} {e : List Expr} {t' t : TT} (h : PTs Y e t') (q : t' = t) : PTs Y e t := q ▸ h
section
variable {K : PySem.W.Frag} {σ : L2.St} {H : Hp} {D : Ends} {Q : VK} {te ta tb tc tv : TE} {f : Str} {v x y : V} {i j : Int} {ts : TA} {g : TG} {t : TS} {tt : TT}
theorem go_chain {r r' : R2} (h : ta σ H fun x H1 => tb σ H1 fun y H2 => r x y H2 fun z H3 => ∃ k, z = .bl k ∧ (if k = true then tc σ H3 fun w' H4 => r' y w' H4 Q else Q (.bl false) H3)) : tChain r r' ta tb tc σ H Q := h
theorem go_cvalR (h : ta σ H fun x H1 => ∃ C mc v u, x = .ref C ∧ ClX.CRead K C mc ∧ ClX.CVal K C mc f v u ∧ Q v H1) : ClX.tCVal K ta f σ H Q := h
theorem go_cval {C : Addr} {mc u : Value} {R : V → Prop} (hr : ClX.CRead K C mc) (hv : ClX.CVal K C mc f v u) (h : R v) : ∃ C' mc' v' u', V.ref C = .ref C' ∧ ClX.CRead K C' mc' ∧ ClX.CVal K C' mc' f v' u' ∧ R v' := ⟨C, mc, v, u, rfl, hr, hv, h⟩
theorem go_fld (h : ta σ H fun x H1 => ∃ a C dx fs v, x = .ref a ∧ H1 a = some (.ins C dx fs) ∧ Cls K C ∧ NoAttr K C f ∧ fs.lookup f = some v ∧ Q v H1) : tFld K ta f σ H Q := h
theorem go_fldV {a C dx : Addr} {fs : List (Str × V)} {R : V → Prop} (e : H a = some (.ins C dx fs)) (hl : fs.lookup f = some v) (c : Cls K C) (n : NoAttr K C f) (h : R v) :
    ∃ a' C' dx' fs' v', V.ref a = .ref a' ∧ H a' = some (.ins C' dx' fs') ∧ Cls K C' ∧ NoAttr K C' f ∧ fs'.lookup f = some v' ∧ R v' := ⟨a, C, dx, fs, v, rfl, e, c, n, hl, h⟩
theorem go_sfld (h : tv σ H fun y H1 => ta σ H1 fun x H2 => ∃ a C dx fs, x = .ref a ∧ H2 a = some (.ins C dx fs) ∧ Cls K C ∧ NoAttr K C f ∧ fs.length < 1000 ∧ D.nx σ (upd H2 a (.ins C dx (putF f y fs)))) : sFld K ta tv f D σ H := h
theorem go_sfldV {a C dx : Addr} {fs : List (Str × V)} {R : Hp → Prop} (e : H a = some (.ins C dx fs)) (l : fs.length < 1000) (c : Cls K C) (n : NoAttr K C f) (h : R (upd H a (.ins C dx (putF f v fs)))) :
    ∃ a' C' dx' fs', V.ref a = .ref a' ∧ H a' = some (.ins C' dx' fs') ∧ Cls K C' ∧ NoAttr K C' f ∧ fs'.length < 1000 ∧ R (upd H a' (.ins C' dx' (putF f v fs'))) := ⟨a, C, dx, fs, rfl, e, c, n, l, h⟩
theorem go_make {C : Addr} {sp : Sp} {E : XK} (h : ts σ H fun vs H1 => ∀ x dx, H1 x = none → H1 dx = none → dx ≠ x → sp (.ref x :: vs) (upd (upd H1 dx (.own x)) x (.ins C dx [])) (fun v H2 => v = .non ∧ Q (.ref x) H2) E) : tMake C sp [] E ts σ H Q := by
  unfold tMake
  simpa only [List.append_nil] using h
theorem go_meth {C : Addr} {m : Str} {sp : Sp} {E : XK} (h : ta σ H fun x H1 => ∃ a dx fs, x = .ref a ∧ H1 a = some (.ins C dx fs) ∧ fs.lookup m = none ∧ ts σ H1 fun vs H2 => sp (x :: vs) H2 Q E) : tMeth C m sp [] E ta ts σ H Q := by
  unfold tMeth
  simpa only [List.append_nil] using h
theorem go_methV {a C dx : Addr} {fs : List (Str × V)} {m : Str} {R : Prop} (e : H a = some (.ins C dx fs)) (l : fs.lookup m = none) (h : R) : ∃ a' dx' fs', V.ref a = .ref a' ∧ H a' = some (.ins C dx' fs') ∧ fs'.lookup m = none ∧ R := ⟨a, dx, fs, rfl, e, l, h⟩
/-- a new instance, by name -/
theorem allocI {C p dx : Addr} {H2 : Hp} (hu : upd (upd H dx (.own p)) p (.ins C dx []) = H2) (np : H p = none) (nd : H dx = none) (ne : dx ≠ p) : Ed [] H H2 ∧ H2 p = some (.ins C dx []) ∧ H2 dx = some (.own p) := by
  subst hu
  have n1 : (upd H dx (.own p)) p = none := by rw [upd_ne ne.symm]; exact np
  exact ⟨(Ed.new nd).ex (Ed.new n1), upd_same, by rw [upd_ne ne]; exact upd_same⟩
theorem go_dgetIF {a : Addr} {k : Int} {o : Obj} {kvs : List (Key × V)} {R : V → Prop} (e : H a = some (.frz o (.dK kvs))) (ev : valV kvs (.inl k) = some v) (h : R v) : ∃ a' v', V.ref a = .ref a' ∧ DGet H a' (.int k) (some v') ∧ R v' :=
  ⟨a, v, rfl, .inl ⟨kvs, .inl k, .inr ⟨o, e⟩, rfl, ev.symm⟩, h⟩
theorem go_sorted {a : Addr} {ns : List Int} (e : SqL K H a (ns.map V.int)) (l : ns.length < 64) (h : ∀ (ns' : List Int) (p : Addr), ns'.Perm ns → ns'.Pairwise (· ≤ ·) → H p = none → Q (.ref p) (upd H p (.lst (ns'.map V.int)))) : rSorted K [.ref a] H Q := ⟨a, ns, rfl, e, l, h⟩
theorem go_listD {a : Addr} {kvs : List (Key × V)} (e : H a = some (.dK kvs)) (h : ∀ q, H q = none → Q (.ref q) (upd H q (.lst (kvs.map fun kv => kV kv.1)))) : rListD [.ref a] H Q := ⟨a, kvs, rfl, e, h⟩
theorem go_lenD {a : Addr} {kvs : List (Key × V)} {R : List (Key × V) → Prop} (e : H a = some (.dK kvs)) (h : R kvs) : ∃ b ls, [V.ref a] = [V.ref b] ∧ H b = some (.dK ls) ∧ R ls := ⟨a, kvs, rfl, e, h⟩
theorem go_in {a : Addr} {neg : Bool} {xs : List V} (e : SqL K H a xs ∨ SqT K H a xs) (hx : flatV x = true) (hf : xs.all flatV = true) (h : Q (.bl (if neg then !inV x xs else inV x xs)) H) : rIn K neg x (.ref a) H Q := ⟨a, xs, rfl, e, hx, hf, h⟩
theorem go_inL {a : Addr} {xs : List V} (e : SqL K H a xs) (hx : flatV x = true) (hf : xs.all flatV = true) (h : Q (.bl (inV x xs)) H) : rIn K false x (.ref a) H Q := go_in (neg := false) (.inl e) hx hf h
theorem go_inT {a : Addr} {xs : List V} (e : SqT K H a xs) (hx : flatV x = true) (hf : xs.all flatV = true) (h : Q (.bl (inV x xs)) H) : rIn K false x (.ref a) H Q := go_in (neg := false) (.inr e) hx hf h
theorem go_niL {a : Addr} {xs : List V} (e : SqL K H a xs) (hx : flatV x = true) (hf : xs.all flatV = true) (h : Q (.bl (!inV x xs)) H) : rIn K true x (.ref a) H Q := go_in (neg := true) (.inl e) hx hf h
theorem go_niT {a : Addr} {xs : List V} (e : SqT K H a xs) (hx : flatV x = true) (hf : xs.all flatV = true) (h : Q (.bl (!inV x xs)) H) : rIn K true x (.ref a) H Q := go_in (neg := true) (.inr e) hx hf h
theorem go_dc {wi : TI} {tk : TE} {vs : List Nat} (h : wi σ H fun J H1 => ∀ D, H1 D = none → ∃ W : Nat → Nat → Hp → Prop, (∃ m, W 0 m (upd H1 D (.dK []))) ∧ ∀ i m H, W i m H →
  (J.stop i H ∧ Q (.ref D) H) ∨ (J.go i H ∧ ∃ Nx : Hp → Prop, (∀ H', Nx H' → ∃ m', m' < m ∧ W (i + 1) m' H') ∧ ∀ x H', J.yld i H x H' → g x (wipe σ vs) H' fun σ2 H2 => wipe σ2 vs = wipe σ vs ∧ tt σ2 H2 fun b H3 =>
    if b = true then tk σ2 H3 fun y H4 => tv σ2 H4 fun z H5 => ∃ kvs k, y = kV k ∧ H5 D = some (.dK kvs) ∧ kvs.length < sizeLine ∧ Nx (upd H5 D (.dK (putK kvs k z))) else Nx H3)) : tDc wi g tt tk tv vs σ H Q := h
theorem go_aug {n : Nat} {ti : TIp} {x : V} (e : σ[n]? = some (some x)) (h : te σ H fun y H1 => ti x y H1 fun z H2 => D.nx (σ.set n (some z)) H2) : tAug n te ti D σ H := ⟨x, e, h⟩
theorem go_ipI {f : Int → Int → Int} (h : Q (.int (f i j)) H) : ipI f (.int i) (.int j) H Q := ⟨i, j, rfl, rfl, h⟩
theorem go_addS {a b : Str} {R : Str → Str → Prop} (l : a.length + b.length ≤ 1000) (h : R a b) : ∃ i j, V.str a = .str i ∧ V.str b = .str j ∧ i.length + j.length ≤ sizeLine ∧ R i j := ⟨a, b, rfl, rfl, Nat.le_of_lt (small1000 l), h⟩
theorem go_M1 {r : V → List V → Hp → VK → Prop} (h : ta σ H fun x H1 => (∃ a, x = .str a) ∧ tb σ H1 fun y H2 => r x [y] H2 Q) : tM1 r ta tb σ H Q := h
theorem go_M0 {r : V → List V → Hp → VK → Prop} (h : ta σ H fun x H1 => (∃ a, x = .str a) ∧ r x [] H1 Q) : tM0 r ta σ H Q := h
theorem go_isS {z : Str} {R : Prop} (h : R) : (∃ a, V.str z = .str a) ∧ R := ⟨⟨z, rfl⟩, h⟩
theorem go_join {a : Str} {p : Addr} {ys : List Str} {R : Str → List Str → Prop} (e : SqL K H p (ys.map V.str)) (l : (ys.map (·.length)).sum + ys.length * a.length ≤ 16777216) (h : R a ys) :
    ∃ a' p', ∃ zs : List Str, V.str a = .str a' ∧ [V.ref p] = [.ref p'] ∧ (SqL K H p' (zs.map V.str) ∨ SqT K H p' (zs.map V.str)) ∧ (zs.map (·.length)).sum + zs.length * a'.length ≤ 16777216 ∧ R a' zs := ⟨a, p, ys, rfl, rfl, .inl e, l, h⟩
theorem go_sub {to ti : TE} {ts : TSet} {R : L2.St → Hp → Prop} (h : to σ H fun o H1 => ti σ H1 fun i H2 => ts o i v H2 fun H3 => R σ H3) : gSub to ti ts v σ H R := h
theorem go_setL {p : Addr} {xs : List V} {k : Int} {j : Nat} {R : Hp → Prop} (e : H p = some (.lst xs)) (hj : ixN xs.length k = some j) (h : R (upd H p (.lst (xs.set j v)))) : rSetL (.ref p) (.int k) v H R := ⟨p, xs, k, j, rfl, rfl, e, hj, h⟩
theorem go_tupL {p : Addr} {xs : List V} {R : Addr → Hp → Prop} (e : SqL K H p xs) (h : ∀ l, H l = none → R l (upd H l (.tup xs))) : ∃ p' ys, [V.ref p] = [.ref p'] ∧ ((SqL K H p' ys ∧ ∀ l, H l = none → R l (upd H l (.tup ys))) ∨ (SqT K H p' ys ∧ R p' H)) := ⟨p, xs, rfl, .inl ⟨e, h⟩⟩
theorem at_m1 {xs : List V} (h : xs[xs.length - 1]? = some v) : atI xs (-1) = some v := by
  have h0 : 0 < xs.length := by
    rcases Nat.eq_zero_or_pos xs.length with e | e
    · rw [List.eq_nil_of_length_eq_zero e] at h; cases h
    · exact e
  unfold atI ixN
  rw [if_neg (by omega), if_pos (by omega)]
  have : (-1 + (xs.length : Int)).toNat = xs.length - 1 := by omega
  show xs[(-1 + (xs.length : Int)).toNat]? = some v
  rw [this]; exact h
/-- a dict comprehension over n turns that give items one by one -/
theorem dc_by {J : It} {n : Nat} {G : Hp → Prop} {Y : Nat → Hp → V → Hp → Prop} {tk : TE} {vs : List Nat} {R : Addr → Hp → Prop} (w : Walk J n G Y) (Pv : Addr → Nat → Hp → Prop) (h0 : ∀ D H2, H D = none → Ed [] H H2 → H2 D = some (.dK []) → Pv D 0 H2) (hG : ∀ D i H', H D = none → i ≤ n → Pv D i H' → G H')
    (hs : ∀ D i x H1 H', H D = none → i < n → Pv D i H1 → Y i H1 x H' → g x (wipe σ vs) H' fun σ2 H2 => wipe σ2 vs = wipe σ vs ∧ tt σ2 H2 fun b H3 =>
      if b = true then tk σ2 H3 fun y H4 => tv σ2 H4 fun z H5 => ∃ kvs k, y = kV k ∧ H5 D = some (.dK kvs) ∧ kvs.length < sizeLine ∧ Pv D (i + 1) (upd H5 D (.dK (putK kvs k z))) else Pv D (i + 1) H3) (hd : ∀ D H', H D = none → Pv D n H' → R D H') :
    ∀ D, H D = none → ∃ W : Nat → Nat → Hp → Prop, (∃ m, W 0 m (upd H D (.dK []))) ∧ ∀ i m H, W i m H →
      (J.stop i H ∧ R D H) ∨ (J.go i H ∧ ∃ Nx : Hp → Prop, (∀ H', Nx H' → ∃ m', m' < m ∧ W (i + 1) m' H') ∧ ∀ x H', J.yld i H x H' → g x (wipe σ vs) H' fun σ2 H2 => wipe σ2 vs = wipe σ vs ∧ tt σ2 H2 fun b H3 =>
        if b = true then tk σ2 H3 fun y H4 => tv σ2 H4 fun z H5 => ∃ kvs k, y = kV k ∧ H5 D = some (.dK kvs) ∧ kvs.length < sizeLine ∧ Nx (upd H5 D (.dK (putK kvs k z))) else Nx H3) := fun D nD => by
  refine ⟨fun i m H' => m = n - i ∧ i ≤ n ∧ Pv D i H', ⟨n, by simp, Nat.zero_le _, h0 D _ nD (Ed.new nD) upd_same⟩, ?_⟩
  rintro i m H1 ⟨rfl, hi, p⟩
  have q := hG D i H1 nD hi p
  by_cases hlt : i < n
  · exact .inr ⟨w.goes i H1 hlt q, Pv D (i + 1), fun H' p' => ⟨n - (i + 1), by omega, rfl, hlt, p'⟩, fun x H' y => hs D i x H1 H' nD hlt p (w.yields i H1 x H' hlt q y)⟩
  · have : i = n := by omega
    subst this
    exact .inl ⟨w.stops H1 q, hd D H1 nD p⟩
theorem putK_le {κ : Type} [DecidableEq κ] (c : List (κ × V)) (k : κ) (x : V) : (putK c k x).length ≤ c.length + 1 := by
  unfold putK
  split
  · rw [List.length_map]; omega
  · rw [List.length_append]; simp
theorem all_sqt {a : Addr} {xs : List V} (h : ∀ H, SqT K H a xs) (H : Hp) : SqT K H a xs := h H
/-! ### a dict that is locked while it is walked -/
theorem frz' {S : List Addr} {H' : Hp} {a : Addr} {o : Obj} {u : HO} (e : Ed S H H') (h : H a = some (.frz o u)) : H' a = some (.frz o u) := e.frz _ _ _ h
/-- unlocked again: d is what it was, all else as it is -/
theorem unlock {S : List Addr} {d : Addr} {u : HO} {od : Obj} {H1 H' H2 : Hp} (h : H d = some u) (m : Mut (some u)) (e1 : upd H d (.frz od u) = H1) (e2 : Ed S H1 H') (e3 : upd H' d u = H2) :
    Ed S H H2 ∧ H2 d = some u ∧ ∀ a o, a ≠ d → H' a = some o → H2 a = some o := by
  subst e1 e3
  have nf : ∀ ob w, u ≠ .frz ob w := fun ob w z => by rw [z] at m; exact m
  have nt : ∀ xs, u ≠ .tup xs := fun xs z => by rw [z] at m; exact m
  refine ⟨⟨fun a o ha e => ?_, fun a xs e => ?_, fun a ob w e => ?_, fun a e => ?_⟩, upd_same, fun a o n e => by rw [upd_ne n]; exact e⟩
  · by_cases q : a = d
    · subst q; rw [h] at e; cases e; exact upd_same
    · rw [upd_ne q]; exact e2.keep a o ha (by rw [upd_ne q]; exact e)
  · by_cases q : a = d
    · subst q; rw [h] at e; cases e; exact (nt _ rfl).elim
    · rw [upd_ne q]; exact e2.tup a xs (by rw [upd_ne q]; exact e)
  · by_cases q : a = d
    · subst q; rw [h] at e; cases e; exact (nf _ _ rfl).elim
    · rw [upd_ne q]; exact e2.frz a ob w (by rw [upd_ne q]; exact e)
  · by_cases q : a = d
    · subst q; rw [upd_same] at e; cases e
    · rw [upd_ne q] at e
      have := e2.dom a e
      rw [upd_ne q] at this; exact this
/-- for k in d -/
theorem lock_keys {n : Nat} {d : Addr} {kvs : List (Key × V)} (hv : σ[n]? = some (some (.ref d))) (hd : H d = some (.dK kvs)) (S : List Addr) (Pv : Hp → Nat → L2.St → Hp → Prop) (hE : ∀ H1 i σ' H', Pv H1 i σ' H' → Ed S H1 H')
    (h0 : ∀ H1 od, Ed [d] H H1 → H1 d = some (.frz od (.dK kvs)) → Pv H1 0 σ H1)
    (turn : ∀ H1 od i k w σ' H', Ed [d] H H1 → H1 d = some (.frz od (.dK kvs)) → H' d = some (.frz od (.dK kvs)) → kvs[i]? = some (k, w) → Pv H1 i σ' H' →
      g (kV k) σ' H' fun σ2 H2 => t { nx := Pv H1 (i + 1), ct := Pv H1 (i + 1), rt := fun v H3 => H3 d = some (.frz od (.dK kvs)) ∧ D.rt v (upd H3 d (.dK kvs)), bk := fun σ3 H3 => H3 d = some (.frz od (.dK kvs)) ∧ D.nx σ3 (upd H3 d (.dK kvs)) } σ2 H2)
    (done : ∀ H1 σ' H' H2, Ed [d] H H1 → Pv H1 kvs.length σ' H' → Ed S H H2 → H2 d = some (.dK kvs) → (∀ a o, a ≠ d → H' a = some o → H2 a = some o) → D.nx σ' H2) : tLock (tFor (iKeys (tVar n)) g t) D σ H := by
  refine ⟨d, .dK kvs, hd, trivial, fun od => ?_⟩
  generalize hu : upd H d (.frz od (.dK kvs)) = H1
  obtain ⟨e1, h1⟩ := chg hu hd
  refine ⟨_, hv, d, od, rfl, .inl ⟨kvs, h1, for_it walk_keys (Pv H1) (h0 H1 od e1 h1) (fun i σ' H' _ p => (hE _ _ _ _ p).frz _ _ _ h1) (fun i x σ' H' H2 hi p y => ?_) fun σ' H' p => ?_⟩⟩
  · obtain ⟨rfl, k, w, hk, rfl⟩ := y
    exact turn H1 od i k w σ' H2 e1 h1 ((hE _ _ _ _ p).frz _ _ _ h1) hk p
  · obtain ⟨e2, h2, k2⟩ := unlock hd trivial hu (hE _ _ _ _ p) rfl
    exact ⟨(hE _ _ _ _ p).frz _ _ _ h1, done H1 σ' H' _ e1 p e2 h2 k2⟩
/-- [e for k in d] -/
theorem lockE_keys {n : Nat} {d : Addr} {kvs : List (Key × V)} {vs : List Nat} (hv : σ[n]? = some (some (.ref d))) (hd : H d = some (.dK kvs)) (S : List Addr) (Pv : Hp → Addr → Nat → Hp → Prop) (hE : ∀ H1 L i H', Pv H1 L i H' → Ed S H1 H')
    (h0 : ∀ H1 od L H2, Ed [d] H H1 → H1 d = some (.frz od (.dK kvs)) → H1 L = none → Ed [] H1 H2 → H2 L = some (.lst []) → Pv H1 L 0 H2)
    (turn : ∀ H1 od L i k w H', Ed [d] H H1 → H1 L = none → H' d = some (.frz od (.dK kvs)) → kvs[i]? = some (k, w) → Pv H1 L i H' →
      g (kV k) (wipe σ vs) H' fun σ2 H2 => wipe σ2 vs = wipe σ vs ∧ tt σ2 H2 fun b H3 => if b = true then te σ2 H3 fun y H4 => ∃ acc, H4 L = some (.lst acc) ∧ acc.length < sizeLine ∧ Pv H1 L (i + 1) (upd H4 L (.lst (acc ++ [y]))) else Pv H1 L (i + 1) H3)
    (done : ∀ H1 L H' H2, H L = none → Pv H1 L kvs.length H' → Ed S H H2 → H2 d = some (.dK kvs) → (∀ a o, a ≠ d → H' a = some o → H2 a = some o) → Q (.ref L) H2) : tLockE (tLc (iKeys (tVar n)) g tt te vs) σ H Q := by
  refine ⟨d, .dK kvs, hd, trivial, fun od => ?_⟩
  generalize hu : upd H d (.frz od (.dK kvs)) = H1
  obtain ⟨e1, h1⟩ := chg hu hd
  refine ⟨_, hv, d, od, rfl, .inl ⟨kvs, h1, fun L nL => lc_it walk_keys (Pv H1 L) (h0 H1 od L _ e1 h1 nL (Ed.new nL) upd_same) (fun i H' _ p => (hE _ _ _ _ p).frz _ _ _ h1) (fun i x H' H2 hi p y => ?_) fun H' p => ?_⟩⟩
  · obtain ⟨rfl, k, w, hk, rfl⟩ := y
    exact turn H1 od L i k w H2 e1 nL ((hE _ _ _ _ p).frz _ _ _ h1) hk p
  · obtain ⟨e2, h2, k2⟩ := unlock hd trivial hu (hE _ _ _ _ p) rfl
    exact ⟨(hE _ _ _ _ p).frz _ _ _ h1, done H1 L H' _ (e1.dom _ nL) p e2 h2 k2⟩
/-- y = [e for k in d] -/
theorem lockA_keys {n m : Nat} {d : Addr} {kvs : List (Key × V)} {vs : List Nat} (hv : σ[n]? = some (some (.ref d))) (hd : H d = some (.dK kvs)) (S : List Addr) (Pv : Hp → Addr → Nat → Hp → Prop) (hE : ∀ H1 L i H', Pv H1 L i H' → Ed S H1 H')
    (h0 : ∀ H1 od L H2, Ed [d] H H1 → H1 d = some (.frz od (.dK kvs)) → H1 L = none → Ed [] H1 H2 → H2 L = some (.lst []) → Pv H1 L 0 H2)
    (turn : ∀ H1 od L i k w H', Ed [d] H H1 → H1 L = none → H' d = some (.frz od (.dK kvs)) → kvs[i]? = some (k, w) → Pv H1 L i H' →
      g (kV k) (wipe σ vs) H' fun σ2 H2 => wipe σ2 vs = wipe σ vs ∧ tt σ2 H2 fun b H3 => if b = true then te σ2 H3 fun y H4 => ∃ acc, H4 L = some (.lst acc) ∧ acc.length < sizeLine ∧ Pv H1 L (i + 1) (upd H4 L (.lst (acc ++ [y]))) else Pv H1 L (i + 1) H3)
    (done : ∀ H1 L H' H2, H L = none → Pv H1 L kvs.length H' → Ed S H H2 → H2 d = some (.dK kvs) → (∀ a o, a ≠ d → H' a = some o → H2 a = some o) → D.nx (σ.set m (some (.ref L))) H2) : tLock (tAsg (tLc (iKeys (tVar n)) g tt te vs) (gName m)) D σ H := by
  refine ⟨d, .dK kvs, hd, trivial, fun od => ?_⟩
  generalize hu : upd H d (.frz od (.dK kvs)) = H1
  obtain ⟨e1, h1⟩ := chg hu hd
  refine ⟨_, hv, d, od, rfl, .inl ⟨kvs, h1, fun L nL => lc_it walk_keys (Pv H1 L) (h0 H1 od L _ e1 h1 nL (Ed.new nL) upd_same) (fun i H' _ p => (hE _ _ _ _ p).frz _ _ _ h1) (fun i x H' H2 hi p y => ?_) fun H' p => ?_⟩⟩
  · obtain ⟨rfl, k, w, hk, rfl⟩ := y
    exact turn H1 od L i k w H2 e1 nL ((hE _ _ _ _ p).frz _ _ _ h1) hk p
  · obtain ⟨e2, h2, k2⟩ := unlock hd trivial hu (hE _ _ _ _ p) rfl
    exact ⟨(hE _ _ _ _ p).frz _ _ _ h1, done H1 L H' _ (e1.dom _ nL) p e2 h2 k2⟩
end
end Vc

/-! Kw: method calls with keywords (my own; the way is pe_meth's and pe_callK's). -/
namespace Vc
open PySem PySem.Spec PyProof.Rows L2
section
variable {X : Cx} {CX : CXT} {k : Nat} {f C : Addr} {fd : FuncData} {ps ks : List Str} {sp : Sp} {E : XK} {x m : Str} {p pos apos : Pos} {e o : Expr} {es : List Expr} {kws : List Keyword} {ta : TE} {t tk : TA} {g : List Value → List Value → List Value} {gV : List V → List V → List V}
theorem kbinds {K : PySem.W.Frag} {x qual : Str} {st : Stmt} (F : Fun K x qual st f fd)
    (h : ∀ (kV doc pm : Value) (an : Option Addr) (cdv ct : Value) (us ws : List Value), (g us ws).length = ps.length → bindArgs (PySem.W.fnOf x qual (defArgs st) (defBody st) (defScope st) .none kV doc pm an cdv ct) ⟨us, ks.zip ws⟩ = pure (ps.zip (g us ws)))
    (rel : ∀ {vs : List V} {us : List Value} {zs : List V} {ws : List Value}, Vals vs us → Vals zs ws → Vals (gV vs zs) (g us ws)) : KBinds K fd ps ks g gV := by
  obtain ⟨oc, od, kV, doc, pm, an, cdv, ct, osl, rfl, lk, hcd⟩ := F.ex
  exact ⟨fun s us ws _ hl => .of_eq (h kV doc pm an cdv ct us ws hl), rel⟩
def tMethK (C : Addr) (m : Str) (sp : Sp) (gV : List V → List V → List V) (E : XK) (ta : TE) (t tk : TA) : TE := fun σ H Q => ta σ H fun x H1 => ∃ a dx fs, x = .ref a ∧ H1 a = some (.ins C dx fs) ∧ fs.lookup m = none ∧ t σ H1 fun vs H2 => tk σ H2 fun zs H3 => sp (gV (x :: vs) zs) H3 Q E
/-- o.m(k = v, ..) -/
theorem pe_methK0 {pl : Sem Bool} (he : PE X o ta) (c : Cls X.K C) (hm : Meth X.K C m f) (F : FnOk X.prog X.w X.K X.mg X.base CX k f fd ps sp) (hr : Room k X.A) (hb : KBinds X.K fd ps ks g gV) (hx : Passes CX X E) (hkw : PK X kws tk)
    (hall : (backToKw pos (keywordEach kws X.env)).all (·.1.isSome) = true := by rfl) (hks : (backToKw pos (keywordEach kws X.env)).filterMap (·.1) = ks := by rfl)
    (hpl : ((backTo pos (starEach [] X.env)).any (·.1) || (backToKw pos (keywordEach kws X.env)).any (·.1.isNone)) = false := by rfl)
    (ht : eval (.Call (.Attribute o m apos) [] kws pos) X.env = (do
      let ov ← eval o X.env
      standAt apos.atName
      let (f, first) ← holding [ov] (getMethod ov m pl)
      callWith pos f first (backTo pos (starEach [] X.env)) (backToKw pos (keywordEach kws X.env))) := by rfl) :
    PE X (.Call (.Attribute o m apos) [] kws pos) (tMethK C m sp gV E ta tNil tk) := by
  refine ⟨fun pins s σ H Q I h => ?_⟩
  refine PySem.W.methodCall_KW (pl := pl) (thn (he.run pins s σ H _ I h) fun u s1 ⟨x, H1, I1, rx, a, dx, fs, ex, ea, l, q⟩ => ?_) ht
  subst ex
  obtain rfl : u = Value.ref a := rx
  refine getmeth_ok I1 ea c hm l ?_
  refine PySem.W.callWith_KW0 (first := [.ref a]) (h₀ := X.base) I.ok.mod.kin hm.kp hall (thn (hkw.run pos pins s1 σ H1 _ I1 q) fun ws s2 ⟨zs, H2, I2, rz, q2⟩ => ⟨I2.kIn, ?_⟩) hpl
  rw [hks]
  exact run_fnk (us := [.ref a]) (vs := [.ref a]) F hr hb hx I2 (.cons rfl .nil) rz q2
/-- o.m(e, .., k = v, ..) -/
theorem pe_methK {pl : Sem Bool} (he : PE X o ta) (c : Cls X.K C) (hm : Meth X.K C m f) (F : FnOk X.prog X.w X.K X.mg X.base CX k f fd ps sp) (hr : Room k X.A) (hb : KBinds X.K fd ps ks g gV) (hx : Passes CX X E) (ha : PA X (e :: es) t) (hkw : PK X kws tk)
    (hall : (backToKw pos (keywordEach kws X.env)).all (·.1.isSome) = true := by rfl) (hks : (backToKw pos (keywordEach kws X.env)).filterMap (·.1) = ks := by rfl)
    (hst : starEach (e :: es) X.env = (false, eval e X.env) :: starEach es X.env := by rfl)
    (hpl : ((backTo pos (starEach (e :: es) X.env)).any (·.1) || (backToKw pos (keywordEach kws X.env)).any (·.1.isNone)) = false := by rfl)
    (ht : eval (.Call (.Attribute o m apos) (e :: es) kws pos) X.env = (do
      let ov ← eval o X.env
      standAt apos.atName
      let (f, first) ← holding [ov] (getMethod ov m pl)
      callWith pos f first (backTo pos (starEach (e :: es) X.env)) (backToKw pos (keywordEach kws X.env))) := by rfl) :
    PE X (.Call (.Attribute o m apos) (e :: es) kws pos) (tMethK C m sp gV E ta t tk) := by
  refine ⟨fun pins s σ H Q I h => ?_⟩
  refine PySem.W.methodCall_KW (pl := pl) (thn (he.run pins s σ H _ I h) fun u s1 ⟨x, H1, I1, rx, a, dx, fs, ex, ea, l, q⟩ => ?_) ht
  subst ex
  obtain rfl : u = Value.ref a := rx
  refine getmeth_ok I1 ea c hm l ?_
  refine PySem.W.callWith_KW (first := [.ref a]) (h₀ := X.base) I.ok.mod.kin hm.kp hall (thn (ha.run pos pins s1 σ H1 _ I1 q) fun us s2 ⟨vs, H2, I2, r, q2⟩ => ?_) hpl hst
  refine thn (hkw.run pos pins s2 σ H2 _ I2 q2) fun ws s3 ⟨zs, H3, I3, rz, q3⟩ => ⟨I3.kIn, ?_⟩
  rw [hks]
  exact run_fnk (us := .ref a :: us) (vs := .ref a :: vs) F hr hb hx I3 (.cons rfl r) rz q3
end
section
variable {σ : L2.St} {H : Hp} {Q : VK} {ta : TE} {ts tk : TA} {C : Addr} {m : Str} {sp : Sp} {E : XK} {gV : List V → List V → List V}
theorem go_methK (h : ta σ H fun x H1 => ∃ a dx fs, x = .ref a ∧ H1 a = some (.ins C dx fs) ∧ fs.lookup m = none ∧ ts σ H1 fun vs H2 => tk σ H2 fun zs H3 => sp (gV (x :: vs) zs) H3 Q E) : tMethK C m sp gV E ta ts tk σ H Q := h
theorem go_callK (h : ts σ H fun vs H1 => tk σ H1 fun zs H2 => sp (gV vs zs) H2 Q E) : tCallK sp gV E ts tk σ H Q := h
end
end Vc

/-! Sup: an own exception over own classes over ValueError, whose __init__ begins super().__init__('text') (my own; ways of HandS.Call's fn_of, HandS.ExcInit and KE.KExcSuper). -/
namespace Vc
open PySem PySem.Spec PyProof.Rows L2 PySem.W
/-- a def with the free cell __class__ -/
structure SupScope (N P : List Str) (sc : Scope) : Prop where
  kind : sc.kind = .function
  co : sc.isCoroutine = false
  gen : sc.isGenerator = false
  nd : N.Nodup
  pre : N.take P.length = P
  par : ∀ x ∈ P, sc.names.lookup x = some .local
  nocell : ∀ y ∈ sc.names, y.2 ≠ .cell
  free1 : ∀ y ∈ sc.names, y.2 = .free → y.1 = "__class__"
  cls : sc.names.lookup ("__class__" : Str) = some .free
  sup : sc.names.lookup ("super" : Str) = some .globalImplicit
/-- the context of such a def's body -/
def cxS (CX : CXT) (P : Program) (w : World) (K : PySem.W.Frag) (mg : Str → Option Value) (base : Heap) (N : List Str) (qual : Str) (scope : Scope) (f : Addr) (cd : Value) (cc : Addr) (A : Around) (outer : List Env) (s : Shared) (H : Hp) (E : XK) : Cx where
  prog := P
  w := w
  K := K
  mg := mg
  base := base
  A := A.deeper (ksEnv qual scope s.heap.objs.size f cd cc)
  N := N
  s_0 := s
  H_0 := H
  env := ksEnv qual scope s.heap.objs.size f cd cc
  outer := outer
  stack := ksEnv qual scope s.heap.objs.size f cd cc :: outer
  ex := []
  calm := true
  fn := fun y => !(y == ("__class__" : Str))
  pn := []
  xe := fun e s' => wpAny (model P w) (A.deeper (ksEnv qual scope s.heap.objs.size f cd cc)) (leaving (ksEnv qual scope s.heap.objs.size f cd cc) e) (fun _ s'' => CX outer H s E e s'') (fun e' s'' => CX outer H s E e' s'') s'
theorem cell1 {x : Str} {c cc : Addr} (h : List.lookup x [(("__class__" : Str), cc)] = some c) : x = "__class__" ∧ c = cc := by
  by_cases e : (x == ("__class__" : Str)) = true
  · rw [List.lookup_cons, e] at h
    exact ⟨eq_of_beq e, (Option.some.inj h).symm⟩
  · rw [List.lookup_cons, Bool.eq_false_iff.mpr e] at h
    cases h
theorem lookup_rev : ∀ {ps : List Str} {us : List Value} {i : Nat} {y : Str} {u : Value}, ps.Nodup → ps[i]? = some y → us[i]? = some u → (ps.zip us).reverse.lookup y = some u := by
  have key : ∀ {l : List (Str × Value)} {y : Str} {u : Value}, (l.map (·.1)).Nodup → (y, u) ∈ l → l.lookup y = some u := by
    intro l
    induction l with
    | nil => intro y u _ h; cases h
    | cons p r ih =>
      intro y u nd h
      rw [List.map_cons, List.nodup_cons] at nd
      rcases List.mem_cons.mp h with e | h
      · subst e; simp [List.lookup]
      · have ne : (y == p.1) = false := by
          rw [beq_eq_false_iff_ne]
          intro e
          exact nd.1 (e ▸ List.mem_map.mpr ⟨(y, u), h, rfl⟩)
        rw [List.lookup_cons, ne]
        exact ih nd.2 h
  intro ps us i y u nd h1 h2
  refine key ?_ ?_
  · rw [List.map_reverse]
    refine List.pairwise_reverse.mpr ?_
    have h3 : ((ps.zip us).map (·.1)).Nodup := nd.sublist (by
      have : (ps.zip us).map (·.1) = ps.take us.length := by
        clear key h1 h2 nd
        induction ps generalizing us with
        | nil => simp
        | cons p r ih =>
          cases us with
          | nil => simp
          | cons u t => simp [ih]
      rw [this]
      exact List.take_sublist _ _)
    exact h3.imp fun h => h.symm
  · rw [List.mem_reverse]
    refine List.mem_iff_getElem?.mpr ⟨i, ?_⟩
    rw [List.getElem?_zip_eq_some]
    exact ⟨h1, h2⟩
theorem inv_sup {CX : CXT} {P : Program} {w : World} {K : PySem.W.Frag} {mg : Str → Option Value} {base : Heap} {N ps : List Str} {qual : Str} {scope : Scope} {f cc : Addr} {cd : Value} {A : Around} {outer : List Env} {s : Shared} {H : Hp} {E : XK} {us : List Value} {vs : List V} {h1 : Heap} {tk : Nat} {oc cv : Value} {od : Option Addr} {sl : Array (Option Value)}
    (S : SupScope N ps scope) (hd : A.handled = none) (e0 : Env0 P w K mg base A outer s H) (hl : vs.length = ps.length) (r : Vals vs us) (hcell : K.lookup cc = some ⟨oc, od, .cell (some cv), sl⟩)
    (ns : h1.Ns s.heap.objs.size (fun x => (ps.zip us).reverse.lookup x)) (hk : ∀ b o, s.heap.get? b = some o → h1.get? b = some o) :
    Inv (cxS CX P w K mg base N qual scope f cd cc A outer s H E) [] (start N vs) H { s with heap := h1, toks := tk } := by
  have hpl : ps.length ≤ N.length := by have := congrArg List.length S.pre; rw [List.length_take] at this; omega
  have hK : base.get? cc = some ⟨oc, od, .cell (some cv), sl⟩ := e0.mod.kin _ _ hcell
  have hs := e0.bs _ _ hK
  refine ⟨⟨e0.mod, S.kind, rfl, rfl, Nat.le_refl _, fun y z c h1 h2 => ?_, fun y hy => ?_, fun y c hf h => ?_, fun _ => hd, Around.frames_deeper e0.frames, .inr ⟨rfl, rfl⟩, fun b z => absurd (show b ∈ ([] : List Addr) from z) (by simp), e0.bs, e0.bsz, fun b _ _ z => absurd (show b ∈ ([] : List Addr) from z) (by simp), fun b z => absurd (show b ∈ ([] : List Addr) from z) (by simp), e0.funs, e0.frf⟩,
    rfl, e0.bare, Un.kept hk, ⟨_, ns, fun i y v h1 h2 h3 => ?_⟩, fun y c h => ?_, e0.hok.fresh (Nat.le_refl _), fun y c h => ?_, fun p hp => absurd (show p ∈ ([] : List (Addr × Obj)) from hp) (by simp), e0.hok.kept hk, ?_⟩
  · exact (cell1 h1).1.trans (cell1 h2).1.symm
  · have hy : scope.names.lookup y = some .cell ∨ scope.names.lookup y = some .free := hy
    rcases hy with hy | hy
    · exact absurd rfl (S.nocell _ (PySem.mem_of_lookup hy))
    · have := S.free1 _ (PySem.mem_of_lookup hy) rfl
      have : y = "__class__" := this
      subst this
      exact ⟨cc, by show List.lookup _ [_] = _; simp [List.lookup]⟩
  · have := (cell1 h).1
    subst this
    cases (show (!((("__class__" : Str)) == ("__class__" : Str))) = true from hf)
  · have hi : i < vs.length := by
      unfold L2.start at h2
      by_cases hi : i < vs.length
      · exact hi
      · rw [List.getElem?_append_right (by simpa using hi)] at h2
        rw [List.getElem?_replicate] at h2
        split at h2 <;> cases h2
    have ha : vs[i]? = some v := by
      unfold L2.start at h2
      rw [List.getElem?_append_left (by simpa using hi), List.getElem?_map] at h2
      cases e : vs[i]? with
      | none => rw [e] at h2; cases h2
      | some a => rw [e] at h2; cases h2; rfl
    obtain ⟨u, hu, rv⟩ := r.get ha
    have hp : ps[i]? = some y := by
      rw [← S.pre, List.getElem?_take_of_lt (by omega)]; exact h1
    have ndP : ps.Nodup := by rw [← S.pre]; exact S.nd.sublist (List.take_sublist _ _)
    exact ⟨u, rv, .inl ⟨S.par y (List.mem_of_getElem? hp), lookup_rev ndP hp hu⟩⟩
  · rw [(cell1 h).2]
    exact ⟨_, _, hk _ _ hs.1, rfl⟩
  · rw [(cell1 h).2]
    exact hs.2
  · unfold L2.start
    show _ = N.length
    rw [List.length_append, List.length_map, List.length_replicate]
    omega
section
variable {prog : Program} {w : World} {A : Around} {E : Value → Shared → Prop} {h : Heap} {g : Array GenState} {d : Drawn} {t : Nat} {os : OsState}
variable {nm q : Str} {C N : Addr} {bs bm : List Value} {hdct : Bool} {sn : List Str} {sub : List Value} {ab : Bool} {col : Option Bool} {dd : Option Addr} {k0 k1 k2 k3 k5 : Option Value}
/-- the bound ValueError.__init__ called -/
theorem call_bv {u e t0 : Addr} {rest : List Value} {Q : Value → Shared → Prop}
    (hC : h.get? C = some (excClassObj nm q C N bs bm hdct sn sub ab col dd k0 k1 k2 k3 k5 "ValueError.__new__")) (he : h.get? e = some (HandSPX.excO C t0)) (hu : h.get? u = some (kxs_mw "ValueError.__init__" e)) (hrest : rest.length ≤ sizeLine)
    (hq : ∀ h' t1, (∀ b o, b ≠ e → h.get? b = some o → h'.get? b = some o) → h'.get? e = some (HandSPX.excO C t1) → Q .none ⟨h', g, d, t, os⟩) :
    wpAny (model prog w) A (call (.ref u) rest) Q E ⟨h, g, d, t, os⟩ := by
  refine wpAny_call (codeAny_of_tree ?_)
  show wpAny _ A.in1 (callAny (.ref u) ⟨rest, []⟩) _ _ _
  simp only [callAny]
  refine wpAny_bind (wpAny_load hu ?_)
  simp only [kxs_mw, show (Value.type "method-wrapper" == Value.type "method" || Value.type "method-wrapper" == Value.type "builtin_function_or_method" || Value.type "method-wrapper" == Value.type "method-wrapper") = true by decide, if_true]
  refine W.KFB.if_so (by decide) ?_
  refine wpAny_bind (check_bound_init F.excBase_ValueError.toExcCallFacts hC he rfl ?_)
  refine wpAny_bind (wpAny_pure (wpAny_pure ?_))
  refine ⟨Code.quiet_builtin _ (by decide +kernel), codeAny_builtin F.excBase_ValueError.initEntry ?_⟩
  rw [Around.under_plainId F.excBase_ValueError.init.plain _]
  wp_walk
  refine hq _ h.objs.size (fun b o hb ho => ?_) ?_
  · rw [Heap.get?_update_other _ _ (Ne.symm hb)]
    exact Heap.get?_push_of_some _ ho
  · rw [Heap.get?_update_self _ (Heap.get?_push_of_some _ he) rfl]
    rfl
end
/-- what super() asks for in the __init__ of the class at C -/
structure SupF (P : Program) (K : PySem.W.Frag) (mg : Str → Option Value) (f cda cc C : Addr) (fd : FuncData) (sv : Str) : Prop where
  lk : ∃ oc od sl, K.lookup f = some ⟨oc, od, .func fd, sl⟩
  par : ∃ ar : Arg, (fd.params.posonlyargs ++ fd.params.args).head? = some ar ∧ ar.arg = sv
  code : ∃ ccl cdd vs ccs file tf, K.lookup cda = some ⟨ccl, cdd, .fields vs, ccs⟩ ∧ vs[2]? = some (.str file tf) ∧ ((P.main.file : Str) == file) = true
  cell : ∃ cl cld csl, K.lookup cc = some ⟨cl, cld, .cell (some (.ref C)), csl⟩
  sub : mroIn K C (.ref C) = some true
  init : ks_superIn K C C "__init__" = some (some (.builtin "ValueError.__init__"))
  subV : subIn K (.ref C) (.type "ValueError") = some true
  nosup : mg "super" = none
  noop : nsIn K cStatics "thirdparty.any" = some none
  top : (P.main.scope.names.lookup ("super" : Str)).isSome = false
section
variable {CX : CXT} {P : Program} {w : World} {K : PySem.W.Frag} {mg : Str → Option Value} {base : Heap} {N ps : List Str} {qual : Str} {scope : Scope} {f cc cda C a : Addr} {A : Around} {outer : List Env} {s0 s : Shared} {H0 H : Hp} {E0' : XK} {pins : List (Addr × Obj)} {σ : L2.St} {fd : FuncData} {sv : Str} {body : List Stmt} {p0 p1 ap cp pos spos : Pos} {x : Str} {nk : Nat} {pl : Sem Bool}
theorem sup_stmt {e : Expr} {Q : Flow → Shared → Prop} (S : SupScope N ps scope) (SF : SupF P K mg f cda cc C fd sv) (T : OexC K C) (I : Inv (cxS CX P w K mg base N qual scope f (.ref cda) cc A outer s0 H0 E0') pins σ H s) (hN : N[0]? = some sv) (hself : scope.names.lookup sv = some .local) (hσ : σ[0]? = some (some (.ref a))) (ea : H a = some (exo a C none))
    (he : PE (cxS CX P w K mg base N qual scope f (.ref cda) cc A outer s0 H0 E0') e (tC (.str x))) (h : ∀ s', Inv (cxS CX P w K mg base N qual scope f (.ref cda) cc A outer s0 H0 E0') pins σ H s' → Q .next s')
    (hi : interactive (ksEnv qual scope s0.heap.objs.size f (.ref cda) cc) = false)
    (hs : swapsWith (.Call (.Attribute (.Call (.Name "super" p0) [] [] p1) "__init__" ap) [e] [] pos) none spos.line (ksEnv qual scope s0.heap.objs.size f (.ref cda) cc) = pure false)
    (hst : starEach [e] (ksEnv qual scope s0.heap.objs.size f (.ref cda) cc) = (false, eval e (ksEnv qual scope s0.heap.objs.size f (.ref cda) cc)) :: starEach [] (ksEnv qual scope s0.heap.objs.size f (.ref cda) cc))
    (ht : eval (.Call (.Attribute (.Call (.Name "super" p0) [] [] p1) "__init__" ap) [e] [] pos) (ksEnv qual scope s0.heap.objs.size f (.ref cda) cc) = (do
      let ov ← attributeBase (.Call (.Name "super" p0) [] [] p1) "__init__" (ksEnv qual scope s0.heap.objs.size f (.ref cda) cc) (eval (.Call (.Name "super" p0) [] [] p1) (ksEnv qual scope s0.heap.objs.size f (.ref cda) cc))
      standAt ap.atName
      let (fm, first) ← holding [ov] (getMethod ov "__init__" pl)
      callWith pos fm first (backTo pos (starEach [e] (ksEnv qual scope s0.heap.objs.size f (.ref cda) cc))) (backToKw pos (keywordEach [] (ksEnv qual scope s0.heap.objs.size f (.ref cda) cc))))) :
    _root_.PySem.wpAt (model P w) (cxS CX P w K mg base N qual scope f (.ref cda) cc A outer s0 H0 E0').A (.func body (ksEnv qual scope s0.heap.objs.size f (.ref cda) cc)) (exec (.Expr (.Call (.Attribute (.Call (.Name "super" p0) [] [] p1) "__init__" ap) [e] [] pos) spos) (ksEnv qual scope s0.heap.objs.size f (.ref cda) cc)) Q (cxS CX P w K mg base N qual scope f (.ref cda) cc A outer s0 H0 E0').xe s := by
  obtain ⟨_, _, _, lkf⟩ := SF.lk
  obtain ⟨ar, hp, rfl⟩ := SF.par
  obtain ⟨_, _, vs, _, file, tf, lkc, hvs, hfile⟩ := SF.code
  obtain ⟨_, _, _, lkl⟩ := SF.cell
  have KX : K.In s.heap := I.kIn
  refine ks_wpAt_Expr_any ?_ hi hs
  refine ks_wpAt_MethodCall (pl := pl) ?_ ht
  refine ks_wpAt_super_base (env := ksEnv qual scope s0.heap.objs.size f (.ref cda) cc) S.sup S.cls (by decide) rfl (KX _ _ lkf) rfl hp rfl (KX _ _ lkc) rfl hvs hfile SF.top ?_
  obtain ⟨mb, hb1, hb2⟩ := I.mod.blt
  have hboot : bootBuiltins "super" = some (.type "super") := by decide +kernel
  refine ks_loadName_global S.kind S.sup (Calls.loadGlobal_builtin (I.mod.glob.keeps I.bk) SF.nosup (hb1.keeps I.bk) ((hb2 "super" (by decide)).trans hboot) ⟨rfl, ?_⟩)
  refine wpAny_loadName_free S.kind S.cls (c := cc) (by simp [List.lookup]) ⟨_, KX _ _ lkl, rfl⟩ ?_
  obtain ⟨m, ns, hm⟩ := id I.loc
  obtain ⟨u, ru, lu⟩ := hm 0 _ _ hN hσ (.inl hself)
  obtain rfl : u = Value.ref a := ru
  have hma : m ar.arg = some (.ref a) := by
    rcases lu with ⟨_, e⟩ | ⟨k | k, _⟩
    · exact e
    · have k : scope.names.lookup ar.arg = some .cell := k
      rw [hself] at k; cases k
    · have k : scope.names.lookup ar.arg = some .free := k
      rw [hself] at k; cases k
  refine wpAny_loadName_local S.kind hself ns hma ?_
  obtain ⟨nm, q, Nn, bs, bm, sn, sub, ab, col, dd, k0, k1, k2, k3, k5, hC, hbm⟩ := T.cls
  obtain ⟨t1, ho⟩ := exo_at I.hok ea
  have hCh := KX _ _ hC
  obtain ⟨hh, g, d, t, os⟩ := s
  refine ks_wpAny_isType_cls hCh rfl ⟨rfl, ?_⟩
  refine ks_wpAny_call_super hCh rfl ho rfl (fun c z => by cases z) (looks_mroIn KX SF.sub) fun h' hso hk => ?_
  have KX' : K.In h' := KX.keeps hk
  have hcl : clsIn K C = some { name := nm, bases := bs, mro := .ref C :: bm, ns := Nn, qualname := q, hasDict := true, slotNames := sn, subclasses := sub, abstract := ab, collection := col, hasDel := false } := by unfold clsIn; rw [hC] <;> rfl
  have IA : InstAt h' a { cls := .ref C, dict := none, data := .fields #[.ref t1, .none, .none, .none, .bool false, .none] } C none := ⟨hk _ _ ho, rfl, rfl, trivial⟩
  have hsi := SF.init
  unfold ks_superIn at hsi
  rw [hcl, Option.bind_some] at hsi
  refine kxs_getMethod kxs_ValueError hso (looks_opaque KX' SF.noop) (l₀ := .ref C :: bm) ?_ rfl KX' hsi (IA.type.andThen (looks_subIn KX' SF.subV)) (ks_ne KX' IA hcl) (by decide) ?_
  · exact fun A Q E s k q => wpAny_bind ((looks_clsIn KX' hcl) A _ E s k (wpAny_pure q))
  have hk2 : ∀ b o, hh.get? b = some o → (h'.push (kxs_mw "ValueError.__init__" a)).get? b = some o := fun b o z => Heap.get?_push_of_some _ (hk b o z)
  have I2 : Inv (cxS CX P w K mg base N qual scope f (.ref cda) cc A outer s0 H0 E0') pins σ H ⟨h'.push (kxs_mw "ValueError.__init__" a), g, d, t + 1, os⟩ := I.kept (t' := t + 1) hk2
  have hu : (h'.push (kxs_mw "ValueError.__init__" a)).get? h'.objs.size = some (kxs_mw "ValueError.__init__" a) := Heap.get?_push_at rfl rfl
  have hsz : hh.objs.size ≤ h'.objs.size := Nat.le_of_lt (Nat.lt_of_le_of_lt (Nat.le_refl _) (Heap.lt_size hso))
  have I3 := I2.pins_of (pins' := (h'.objs.size, kxs_mw "ValueError.__init__" a) :: pins) fun p hp => by
    rcases List.mem_cons.mp hp with e | hp
    · subst e
      exact ⟨hu, I.hok.fresh hsz, fun z => absurd (Nat.lt_of_lt_of_le I.lt hsz) (by have z : h'.objs.size = _ := z; rw [z]; exact Nat.lt_irrefl _), I.nofs hsz, fun v z => by cases z⟩
    · exact I2.pin p (List.mem_append_right _ hp)
  have hev := (pa_cons he pa_nil (hs := hst)).run pos _ _ σ H (fun vs H1 => vs = [.str x] ∧ H1 = H) I3 ⟨rfl, rfl⟩
  have hst2 : starEach [e] (cxS CX P w K mg base N qual scope f (.ref cda) cc A outer s0 H0 E0').env = (false, eval e (cxS CX P w K mg base N qual scope f (.ref cda) cc A outer s0 H0 E0').env) :: starEach [] (cxS CX P w K mg base N qual scope f (.ref cda) cc A outer s0 H0 E0').env := hst
  rw [hst2] at hev
  show wpAny _ _ (callWith pos (.ref h'.objs.size) [] (backTo pos (starEach [e] (ksEnv qual scope s0.heap.objs.size f (.ref cda) cc))) []) _ _ _
  rw [hst]
  refine kxs_callWith (i := "ValueError.__init__") (x := a) (by rfl) ?_
  refine PySem.Calls.evalArgs_plain (thn hev fun us s1 ⟨vs, H1, I4, r1, ev, eH⟩ => ?_)
  subst ev eH
  have hu4 := (I4.pin (h'.objs.size, kxs_mw "ValueError.__init__" a) (List.mem_append_right _ (List.mem_cons_self ..))).1
  refine ⟨hu4, ?_⟩
  have I5 : Inv (cxS CX P w K mg base N qual scope f (.ref cda) cc A outer s0 H0 E0') pins σ H1 s1 := I4.pins_of fun p hp => I4.pin p (List.mem_append_right _ (List.mem_cons_of_mem _ hp))
  have hC5 := I5.kIn _ _ hC
  obtain ⟨t5, ho5⟩ := exo_at I5.hok ea
  obtain ⟨hh5, g5, d5, tk5, os5⟩ := s1
  have hlen : us.length = 1 := by rw [← Paired.length r1]; rfl
  refine call_bv (rest := [] ++ us) hC5 ho5 hu4 (by rw [List.nil_append, hlen, sizeLine_eq]; omega) fun h6 t6 k6 hx6 => ?_
  have J := I5.write (t' := tk5) (x := a) (e := a) (o := exo a C none) (by rw [ea]; exact True.intro) (.inl rfl) k6 ⟨_, hx6⟩ (exo_ok hx6)
  have eu : upd H1 a (exo a C none) = H1 := by
    funext b
    by_cases hb : b = a
    · rw [hb, upd_same, ea]
    · rw [upd_ne hb]
  rw [eu] at J
  exact h _ J
/-- as Fun, for a def with the free cell __class__ at cc -/
structure FunS (P : Program) (K : PySem.W.Frag) (mg : Str → Option Value) (x qual : Str) (st : Stmt) (f : Addr) (fd : FuncData) (C : Addr) (sv : Str) : Prop where
  ex : ∃ (oc : Value) (od : Option Addr) (kV doc pm : Value) (an : Option Addr) (cda cc : Addr) (ct : Value) (osl : Array (Option Value)),
    fd = ksFn x qual (defArgs st) (defBody st) (defScope st) .none kV doc pm an (.ref cda) ct cc ∧ K.lookup f = some ⟨oc, od, .func fd, osl⟩ ∧ PySem.W.codeIn K (.ref cda) qual = true ∧ SupF P K mg f cda cc C fd sv
  kp : PySem.W.keepIn K (.ref f) = true
theorem FunS.ok {P : Program} {w : World} {K : PySem.W.Frag} {mg : Str → Option Value} {base : Heap} {CX : CXT} {x qual : Str} {st : Stmt} {rest : List Stmt} {f C : Addr} {fd : FuncData} {sv : Str} {N ps : List Str} {k : Nat} {sp : Sp} {e : Expr} {z : Str} {p0 p1 ap pos spos : Pos} {pl : Sem Bool}
    (F : FunS P K mg x qual st f fd C sv) (S : SupScope N ps (defScope st)) (T : OexC K C) (hb : defBody st = .Expr (.Call (.Attribute (.Call (.Name "super" p0) [] [] p1) "__init__" ap) [e] [] pos) spos :: rest) (hN : N[0]? = some sv) (hself : (defScope st).names.lookup sv = some .local)
    (len : ∀ vs H Q E, sp vs H Q E → vs.length = ps.length)
    (hE : ∀ (X : Cx), PE X e (tC (.str z)))
    (hi : ∀ L cd cc, interactive (ksEnv qual (defScope st) L f cd cc) = false)
    (hs : ∀ L cd cc, swapsWith (.Call (.Attribute (.Call (.Name "super" p0) [] [] p1) "__init__" ap) [e] [] pos) none spos.line (ksEnv qual (defScope st) L f cd cc) = pure false)
    (hst : ∀ L cd cc, starEach [e] (ksEnv qual (defScope st) L f cd cc) = (false, eval e (ksEnv qual (defScope st) L f cd cc)) :: starEach [] (ksEnv qual (defScope st) L f cd cc))
    (ht : ∀ L cd cc, eval (.Call (.Attribute (.Call (.Name "super" p0) [] [] p1) "__init__" ap) [e] [] pos) (ksEnv qual (defScope st) L f cd cc) = (do
      let ov ← attributeBase (.Call (.Name "super" p0) [] [] p1) "__init__" (ksEnv qual (defScope st) L f cd cc) (eval (.Call (.Name "super" p0) [] [] p1) (ksEnv qual (defScope st) L f cd cc))
      standAt ap.atName
      let (fm, first) ← holding [ov] (getMethod ov "__init__" pl)
      callWith pos fm first (backTo pos (starEach [e] (ksEnv qual (defScope st) L f cd cc))) (backToKw pos (keywordEach [] (ksEnv qual (defScope st) L f cd cc)))))
    (hbody : ∀ (cda cc : Addr) (A : Around) (outer : List Env) (s : Shared) (H : Hp) (vs : List V) (Q : VK) (E : XK), sp vs H Q E →
      ∃ a, vs[0]? = some (.ref a) ∧ H a = some (exo a C none) ∧ ∃ t, PSs (cxS CX P w K mg base N qual (defScope st) f (.ref cda) cc A outer s H E) rest t ∧ t { nx := fun _ H' => Q .non H', rt := Q } (start N vs) H) :
    FnOk P w K mg base CX (k + 1) f fd ps sp := by
  obtain ⟨oc, od, kV, doc, pm, an, cda, cc, ct, osl, rfl, lk, hcd, SF⟩ := F.ex
  refine ⟨len, fun A outer s H args us vs Q E hr e0 hbd r hsp => ?_⟩
  have hl := len _ _ _ _ hsp
  have KX : K.In s.heap := e0.mod.kin.keeps fun b o e => (e0.bs b o e).1
  have lim : s.heap.NoLimit := e0.mod.nolimit.keeps fun b o e => (e0.bs b o e).1
  obtain ⟨_, _, _, lkl⟩ := SF.cell
  obtain ⟨a, ha, ea, t, ht2, hq⟩ := hbody cda cc A outer s H vs Q E hsp
  refine ks_codeAny_call_defAt hr.depth (KX _ _ lk) rfl lim (PySem.W.codeRec_of KX hcd) rfl hbd S.nocell (fun y hy => S.par y.1 (List.of_mem_zip (show (y.1, y.2) ∈ _ from hy)).1) (fun h₀ hns hk => ?_) S.co S.gen S.kind
  have I : Inv (cxS CX P w K mg base N qual (defScope st) f (.ref cda) cc A outer s H E) [] (start N vs) H { s with heap := h₀, toks := s.toks + (ps.zip us).length } := inv_sup S hr.hd e0 hl r lkl hns hk
  have fin : ∀ {σ' : L2.St} {H' : Hp} {v : V} {u : Value} {s' : Shared}, Inv (cxS CX P w K mg base N qual (defScope st) f (.ref cda) cc A outer s H E) [] σ' H' s' → RelV v u → Q v H' → CE outer P w H s Q u s' :=
    fun {σ' H' v u s'} J rv q => ⟨v, H', J.os, J.bare, J.base, J.hok, rv, q⟩
  have hσ : (start N vs)[0]? = some (some (.ref a)) := by
    have h0 : 0 < vs.length := by
      rcases Nat.eq_zero_or_pos vs.length with z | z
      · rw [List.eq_nil_of_length_eq_zero z] at ha; cases ha
      · exact z
    unfold L2.start
    rw [List.getElem?_append_left (by simpa using h0), List.getElem?_map, ha]; rfl
  rw [hb]
  refine ks_wpAt_execs_cons (sup_stmt S SF T I hN hself hσ ea (hE _) (fun s' I' => ?_) (hi _ _ _) (hs _ _ _) (hst _ _ _) (ht _ _ _))
  refine wpAt_of_wpAny (wpAny_mono (ht2.run [] s' (start N vs) H _ I' hq) (fun fl s2 hs2 => ?_) fun e s' hs => hs)
  cases fl with
  | ret u =>
    obtain ⟨v, σ', H', J, rv, q⟩ := hs2
    exact fin J rv q
  | next =>
    obtain ⟨σ', H', J, q⟩ := hs2
    exact fin (v := V.non) (u := Value.none) J rfl q
  | brk =>
    obtain ⟨_, _, _, q⟩ := hs2
    exact False.elim q
  | cont =>
    obtain ⟨_, _, _, q⟩ := hs2
    exact False.elim q
/-- how its arguments bind (no defaults) -/
theorem FunS.binds {P : Program} {K : PySem.W.Frag} {mg : Str → Option Value} {x qual : Str} {st : Stmt} {f C : Addr} {fd : FuncData} {sv : Str} {ps : List Str} (F : FunS P K mg x qual st f fd C sv)
    (h : ∀ (kV doc pm : Value) (an : Option Addr) (cda cc : Addr) (ct : Value) (us : List Value), us.length = ps.length → bindArgs (ksFn x qual (defArgs st) (defBody st) (defScope st) .none kV doc pm an (.ref cda) ct cc) ⟨us, []⟩ = pure (ps.zip us)) : Binds K fd ps [] := by
  obtain ⟨oc, od, kV, doc, pm, an, cda, cc, ct, osl, rfl, lk, hcd, SF⟩ := F.ex
  exact .all (h kV doc pm an cda cc ct)
end
end Vc

/-! Exc: own errors raised with their fields, asked and read in a suite; calls of instances that may raise (my own, over HandS' rules for exceptions). -/
namespace Vc
open PySem PySem.Spec PyProof.Rows L2
/-! ### __init__ of an error with one field, with two -/
def spErr1 (C : Addr) (f : Str) : Sp := fun vs H Q _ => ∃ (a : Addr) (v : V), vs = [.ref a, v] ∧ H a = some (exo a C none) ∧ ∀ d, H d = none → d ≠ a → Q .non (upd (upd H d (exd d [(f, v)])) a (exo a C (some d)))
def spErr2 (C : Addr) (f g : Str) : Sp := fun vs H Q _ => ∃ (a : Addr) (v u : V), vs = [.ref a, v, u] ∧ H a = some (exo a C none) ∧ ∀ d, H d = none → d ≠ a → Q .non (upd (upd (upd H d (exd d [(f, v)])) a (exo a C (some d))) d (exd d [(g, u), (f, v)]))
/-- what X(v) leaves, in one word -/
theorem mk_err {C : Addr} {fs : List (Str × V)} {H1 H2 : Hp} {Q : XK} {a d : Addr} (na : H1 a = none) (nd : H1 d = none) (ne : d ≠ a) (hx : ∀ b, b ≠ a → b ≠ d → H2 b = H1 b)
    (q : ∀ d H', H1 d = none → Ed [] H1 H' → H' d = some (.xd fs) → Q (.ref C) (some d) H') : Q (.ref C) (some d) (upd (del H2 a) d (.xd fs)) := by
  have keep : ∀ b o, H1 b = some o → (upd (del H2 a) d (.xd fs)) b = some o := fun b o e => by
    have ha : b ≠ a := ne_of_none e na
    have hd : b ≠ d := ne_of_none e nd
    rw [upd_ne hd, del_ne ha, hx b ha hd]; exact e
  refine q d _ nd ⟨fun b o _ e => keep b o e, fun b xs e => keep b _ e, fun b o u e => keep b _ e, fun b e => ?_⟩ upd_same
  by_cases hd : b = d
  · rw [hd, upd_same] at e; cases e
  · rw [upd_ne hd] at e
    by_cases ha : b = a
    · rw [ha]; exact na
    · rw [del_ne ha, hx b ha hd] at e; exact e
theorem go_err1 {C : Addr} {f : Str} {v : V} {H1 : Hp} {Q : XK} (q : ∀ d H', H1 d = none → Ed [] H1 H' → H' d = some (.xd [(f, v)]) → Q (.ref C) (some d) H') :
    [v].length ≤ 1000 ∧ ∀ a, H1 a = none → spErr1 C f (.ref a :: ([v] ++ [])) (upd H1 a (exo a C none)) (fun v' H2 => v' = .non ∧ ∃ (d : Addr) (fs : List (Str × V)), H2 a = some (exo a C (some d)) ∧ H2 d = some (exd d fs) ∧ H1 d = none ∧ Q (.ref C) (some d) (upd (del H2 a) d (.xd fs))) (fun _ _ _ => False) := by
  refine ⟨by show 1 ≤ 1000; decide, fun a na => ⟨a, v, rfl, upd_same, fun d nd ne => ⟨rfl, d, [(f, v)], upd_same, ?_, ?_, ?_⟩⟩⟩
  · rw [upd_ne ne]; exact upd_same
  · rw [upd_ne ne] at nd; exact nd
  · refine mk_err na (by rw [upd_ne ne] at nd; exact nd) ne (fun b h1 h2 => ?_) q
    rw [upd_ne h1, upd_ne h2, upd_ne h1]
theorem go_err2 {C : Addr} {f g : Str} {v u : V} {H1 : Hp} {Q : XK} (q : ∀ d H', H1 d = none → Ed [] H1 H' → H' d = some (.xd [(g, u), (f, v)]) → Q (.ref C) (some d) H') :
    [v, u].length ≤ 1000 ∧ ∀ a, H1 a = none → spErr2 C f g (.ref a :: ([v, u] ++ [])) (upd H1 a (exo a C none)) (fun v' H2 => v' = .non ∧ ∃ (d : Addr) (fs : List (Str × V)), H2 a = some (exo a C (some d)) ∧ H2 d = some (exd d fs) ∧ H1 d = none ∧ Q (.ref C) (some d) (upd (del H2 a) d (.xd fs))) (fun _ _ _ => False) := by
  refine ⟨by show 2 ≤ 1000; decide, fun a na => ⟨a, v, u, rfl, upd_same, fun d nd ne => ⟨rfl, d, [(g, u), (f, v)], ?_, upd_same, ?_, ?_⟩⟩⟩
  · rw [upd_ne ne.symm]; exact upd_same
  · rw [upd_ne ne] at nd; exact nd
  · refine mk_err na (by rw [upd_ne ne] at nd; exact nd) ne (fun b h1 h2 => ?_) q
    rw [upd_ne h2, upd_ne h1, upd_ne h2, upd_ne h1]
theorem go_mkO {C : Addr} {sp : Sp} {ta : TA} {σ : L2.St} {H : Hp} {Q : XK} (h : ta σ H fun vs H1 => vs.length ≤ 1000 ∧ ∀ a, H1 a = none → sp (.ref a :: (vs ++ [])) (upd H1 a (exo a C none))
  (fun v H2 => v = .non ∧ ∃ (d : Addr) (fs : List (Str × V)), H2 a = some (exo a C (some d)) ∧ H2 d = some (exd d fs) ∧ H1 d = none ∧ Q (.ref C) (some d) (upd (del H2 a) d (.xd fs))) (fun _ _ _ => False)) : tMkO C sp [] ta σ H Q := h
/-- raise X(..) -/
theorem go_raise {t : L2.St → Hp → XK → Prop} {W : WX} {D : Ends} {σ : L2.St} {H : Hp} (h : t σ H fun cls d H' => W cls d σ H') : (fun (_ : Ends) σ H => t σ H fun cls d H' => W cls d σ H') D σ H := h
/-- self.f = e, the first; a further one -/
theorem go_ost {K : PySem.W.Frag} {f : Str} {to te : TE} {D : Ends} {σ : L2.St} {H : Hp} (h : te σ H fun y H1 => to σ H1 fun x H2 => ∃ a C : Addr, x = .ref a ∧ OexC K C ∧ PySem.W.findIn K (.ref C) f = some none ∧
  ((H2 a = some (exo a C none) ∧ ∀ dx, H2 dx = none → dx ≠ a → D.nx σ (upd (upd H2 dx (exd dx [(f, y)])) a (exo a C (some dx)))) ∨
    ∃ (dx : Addr) (fs : List (Str × V)), H2 a = some (exo a C (some dx)) ∧ H2 dx = some (exd dx fs) ∧ fs.length ≤ 900 ∧ D.nx σ (upd H2 dx (exd dx ((f, y) :: fs))))) : tOst K f to te D σ H := h
theorem err_ends1 {K : PySem.W.Frag} {C : Addr} {f : Str} {vs : List V} {H : Hp} {Q : VK} {E : XK} {N : List Str} (T : OexC K C) (no : PySem.W.findIn K (.ref C) f = some none) (h : spErr1 C f vs H Q E) :
    ∃ a, vs[0]? = some (.ref a) ∧ H a = some (exo a C none) ∧ tOst K f (tVar 0) (tVar 1) { nx := fun _ H' => Q .non H', rt := Q } (start N vs) H := by
  obtain ⟨a, v, rfl, ea, q⟩ := h
  exact ⟨a, rfl, ea, v, rfl, .ref a, rfl, a, C, rfl, T, no, .inl ⟨ea, q⟩⟩
theorem err_ends2 {K : PySem.W.Frag} {C : Addr} {f g : Str} {vs : List V} {H : Hp} {Q : VK} {E : XK} {N : List Str} (T : OexC K C) (no : PySem.W.findIn K (.ref C) f = some none) (no2 : PySem.W.findIn K (.ref C) g = some none) (h : spErr2 C f g vs H Q E) :
    ∃ a, vs[0]? = some (.ref a) ∧ H a = some (exo a C none) ∧ tSeq (tOst K f (tVar 0) (tVar 1)) (tOst K g (tVar 0) (tVar 2)) { nx := fun _ H' => Q .non H', rt := Q } (start N vs) H := by
  obtain ⟨a, v, u, rfl, ea, q⟩ := h
  refine ⟨a, rfl, ea, v, rfl, .ref a, rfl, a, C, rfl, T, no, .inl ⟨ea, fun d nd ne => ?_⟩⟩
  exact ⟨u, rfl, .ref a, rfl, a, C, rfl, T, no2, .inr ⟨d, _, upd_same, by rw [upd_ne ne]; exact upd_same, by show 1 ≤ 900; decide, q d nd ne⟩⟩
/-! ### in a suite: isinstance of the error, its fields -/
/-- at d stands the dict of the error -/
def XdAt (H : Hp) (d : Option Addr) : Prop := d = none ∨ ∃ dd fs, d = some dd ∧ H dd = some (.xd fs)
def rIsX (K : PySem.W.Frag) (a : Addr) (cls : Value) (d : Option Addr) : List V → Hp → VK → Prop := fun xs H Q => ∃ (D : Addr) (c : V) (cv : Value) (b : Bool), cls = .ref D ∧ ExcC K D ∧ XdAt H d ∧ xs = [.ref a, c] ∧ (∀ u, RelV c u → u = cv) ∧ PySem.W.kitOne K (.ref D) cv = some b ∧ Q (.bl b) H
theorem call_isX {X : Cx} {a : Addr} {cls : Value} {d : Option Addr} {oe : Obj} {pn : List (Addr × Obj)} (hz : Zc cls d oe) (hf : ∃ vs, oe.data = .fields vs) : CallR (X.suite a ((a, oe) :: pn)) (.builtin "isinstance") (rIsX X.K a cls d) := by
  intro pins s σ H xs us Q I r h
  obtain ⟨D, c, cv, b, rfl, C, hd, rfl, hcv, e, q⟩ := h
  cases r with
  | cons rx rr =>
    cases rr with
    | cons rt rr =>
      cases rr
      cases rx
      have ec := hcv _ rt
      subst ec
      obtain ⟨hget, _⟩ := I.pin (a, oe) (List.mem_append.mpr (.inl List.mem_cons_self))
      obtain ⟨vs, hv⟩ := hf
      obtain ⟨oc, od, oda, osl⟩ := oe
      obtain ⟨h1, h2⟩ := hz
      dsimp only at h1 h2 hv
      subst h1 h2 hv
      have hsome : (PySem.W.clsIn X.K D).isSome = true := by obtain ⟨cd, hc, _⟩ := PySem.W.any_some C.hd; rw [hc]; rfl
      rcases hd with hd | ⟨dd, fs, hd, hxd⟩
      · subst hd
        have J : PySem.W.InstAt s.heap a { cls := .ref D, dict := none, data := .fields vs, slots := osl } D none := ⟨hget, rfl, rfl, trivial⟩
        exact PySem.W.kia_one (PySem.W.handS_kitx_exc C.hg C.hk C.hs C.hd C.ha C.hn C.ht C.hm) I.kIn J e (fun z => nomatch z) fun tk => ⟨.bl b, H, I.kept (t' := tk) fun _ _ z => z, rfl, q⟩
      · subst hd
        have hx : ObjOk X.prog X.w H s.heap dd (.xd fs) := I.hok dd _ hxd
        obtain ⟨mA, hns, hr⟩ := hx
        obtain ⟨odo, ho, hl⟩ := lookIn_ns hns
        have J : PySem.W.InstAt s.heap a { cls := .ref D, dict := some dd, data := .fields vs, slots := osl } D (some odo) := ⟨hget, rfl, rfl, ho⟩
        exact PySem.W.kia_one (PySem.W.kitx_exc hsome C.hg C.hk C.hs C.ha C.hn C.ht C.hm) I.kIn J e (fun z => nomatch z) fun tk => ⟨.bl b, H, I.kept (t' := tk) fun _ _ z => z, rfl, q⟩
section
variable {K : PySem.W.Frag} {a D : Addr} {d : Option Addr} {H : Hp} {Q : VK} {b : Bool}
theorem go_isXC {c : Addr} (C : ExcC K D) (hd : XdAt H d) (hk : PySem.W.kitOne K (.ref D) (.ref c) = some b) (q : Q (.bl b) H) : rIsX K a (.ref D) d [.ref a, .ref c] H Q :=
  ⟨D, .ref c, .ref c, b, rfl, C, hd, rfl, fun _ r => r, hk, q⟩
theorem go_isXT {t : String} (C : ExcC K D) (hd : XdAt H d) (hk : PySem.W.kitOne K (.ref D) (.type t) = some b) (q : Q (.bl b) H) : rIsX K a (.ref D) d [.ref a, .ty t] H Q :=
  ⟨D, .ty t, .type t, b, rfl, C, hd, rfl, fun _ r => r, hk, q⟩
theorem go_xf {C : Addr} {f : Str} {te : TE} {σ : L2.St} {cls : Value} (h : te σ H fun x H1 => x = .ref a ∧ cls = .ref C ∧ ∃ (dd : Addr) (fs : List (Str × V)) (v : V), d = some dd ∧ H1 dd = some (.xd fs) ∧ fs.lookup f = some v ∧ Q v H1) : tXf a cls d C f te σ H Q := h
theorem go_xfV {f : Str} {dd : Addr} {fs : List (Str × V)} {v : V} {R : V → Prop} (e : H dd = some (.xd fs)) (l : fs.lookup f = some v) (h : R v) :
    V.ref a = .ref a ∧ (Value.ref D) = .ref D ∧ ∃ (d' : Addr) (fs : List (Str × V)) (v : V), some dd = some d' ∧ H d' = some (.xd fs) ∧ fs.lookup f = some v ∧ R v := ⟨rfl, rfl, dd, fs, v, rfl, e, l, h⟩
theorem xdAt {dd : Addr} {fs : List (Str × V)} (e : H dd = some (.xd fs)) : XdAt H (some dd) := .inr ⟨dd, fs, rfl, e⟩
end
/-! ### an instance called; what is raised is wished for at the caller's slots -/
section
variable {X : Cx} {CX : CXT} {k : Nat} {C g : Addr} {fd : FuncData} {ps ks : List Str} {sp : Sp} {E : L2.St → XK} {pos : Pos} {fe e : Expr} {es : List Expr} {tf : TE} {t tk : TA} {kws : List Keyword} {gk : List Value → List Value → List Value} {gV : List V → List V → List V}
def InsD (H : Hp) (a C : Addr) : Prop := ∃ dx fs, H a = some (.ins C dx fs)
theorem insD_at {pins : List (Addr × Obj)} {σ : L2.St} {H : Hp} {s : Shared} {a : Addr} (I : Inv X pins σ H s) (h : InsD H a C) : ∃ ox od, PySem.W.InstAt s.heap a ox C od ∧ ox.data = .plain := by
  obtain ⟨dx, fs, h⟩ := h
  obtain ⟨mA, O, _⟩ := ins_get I.hok h
  obtain ⟨od, J, _⟩ := O.look
  exact ⟨_, _, J, rfl⟩
def tCallI (C : Addr) (sp : Sp) (E : L2.St → XK) (tf : TE) (t : TA) : TE := fun σ H Q => tf σ H fun y H1 => ∃ a, y = V.ref a ∧ t σ H1 fun vs H2 => InsD H2 a C ∧ sp (V.ref a :: vs) H2 Q (E σ)
theorem run_callI {pins : List (Addr × Obj)} {σ : L2.St} {H : Hp} {s : Shared} {Q : VK} {a : Addr} {us : List Value} {vs : List V} (c : StX.CallO X.K C g) (F : FnOk X.prog X.w X.K X.mg X.base CX k g fd ps sp) (hr : Room k X.A) (hb : Binds X.K fd ps []) (hx : ∀ σ, PassesAt CX X σ (E σ)) (I : Inv X pins σ H s) (hi : InsD H a C) (r : Vals vs us)
    (h : sp (V.ref a :: vs) H Q (E σ)) : wpAny (model X.prog X.w) X.A (call (.ref a) us) (EP X pins σ Q) X.xe s := by
  obtain ⟨ox, od, J, hd⟩ := insD_at I hi
  have h2 : sp ((V.ref a :: vs) ++ []) H Q (E σ) := by rw [List.append_nil]; exact h
  have hl : (Value.ref a :: us).length = ps.length := by
    have r2 : Vals (V.ref a :: vs) (Value.ref a :: us) := .cons rfl r
    rw [← r2.length]; exact F.len _ _ _ _ h
  have hb' := hb s (.ref a :: us) I.kIn (by rw [List.append_nil]; exact hl)
  rw [List.append_nil] at hb'
  refine wpAny_call (PySem.W.kco_code I.kIn J hd c.at_ c.fn c.fi (codeAny_mono (F.run X.A X.stack s H ⟨.ref a :: us, []⟩ (.ref a :: us) (.ref a :: vs) Q (E σ) hr I.env0 hb' (.cons rfl r) h) fun r s' hq => ?_))
  cases r with
  | error e => exact hx σ pins H s e s' I hq
  | ok fl =>
    cases fl with
    | ret u => exact I.after hq
    | next => exact False.elim hq
    | brk => exact False.elim hq
    | cont => exact False.elim hq
theorem pe_callI (hf : PE X fe tf) (c : StX.CallO X.K C g) (F : FnOk X.prog X.w X.K X.mg X.base CX k g fd ps sp) (hr : Room k X.A) (hb : Binds X.K fd ps []) (hx : ∀ σ, PassesAt CX X σ (E σ)) (ha : PA X (e :: es) t)
    (ht : eval (.Call fe (e :: es) [] pos) X.env = (do callWith pos (← eval fe X.env) [] (backTo pos (starEach (e :: es) X.env)) (backToKw pos (keywordEach [] X.env))) := by rfl)
    (he : starEach (e :: es) X.env = (false, eval e X.env) :: starEach es X.env := by rfl) (hpl : (backTo pos (starEach es X.env)).any (·.1) = false := by rfl) : PE X (.Call fe (e :: es) [] pos) (tCallI C sp E tf t) := by
  refine ⟨fun pins s σ H Q I h => ?_⟩
  refine Call_ (thn (hf.run pins s σ H _ I h) fun u s1 ⟨y, H1, I1, ry, a, ey, q⟩ => ?_) ht
  subst ey
  obtain rfl : u = Value.ref a := ry
  refine StX.callO_with (thn (ha.run pos pins s1 σ H1 _ I1 q) fun us s2 ⟨vs, H2, I2, r, hi, q2⟩ => ?_) he hpl
  obtain ⟨ox, od, J, hd⟩ := insD_at I2 hi
  exact ⟨⟨C, ox, od, J, hd⟩, run_callI c F hr hb hx I2 hi r q2⟩
end
section
variable {σ : L2.St} {H : Hp} {Q : VK} {tf : TE} {ts : TA} {C : Addr} {sp : Sp} {E : L2.St → XK}
theorem go_callI (h : tf σ H fun y H1 => ∃ a, y = V.ref a ∧ ts σ H1 fun vs H2 => InsD H2 a C ∧ sp (V.ref a :: vs) H2 Q (E σ)) : tCallI C sp E tf ts σ H Q := h
theorem go_insD {a dx : Addr} {fs : List (Str × V)} {P : Prop} (e : H a = some (.ins C dx fs)) (h : P) : InsD H a C ∧ P := ⟨⟨dx, fs, e⟩, h⟩
theorem go_refE {a : Addr} {P : Addr → Prop} (h : P a) : ∃ a', V.ref a = .ref a' ∧ P a' := ⟨a, rfl, h⟩
end
/-! ### what is raised is wished for at the caller's slots: methods, instances made, keywords -/
theorem passS0 {X : Cx} {E : L2.St → XK} : ∀ σ, PassesAt CX0 X σ (E σ) := fun _ _ _ _ _ _ _ h => h.elim
theorem passSL {X : Cx} : ∀ σ, PassesAt (L2.CX X.prog X.w) X σ ((fun (_ : L2.St) => E0) σ) := fun σ pins H s e s' I h => passL pins σ H s e s' I h
section
variable {X : Cx} {CX : CXT} {k : Nat} {C f g : Addr} {fd : FuncData} {ps ks : List Str} {sp : Sp} {E : L2.St → XK} {x m : Str} {p pos apos : Pos} {fe e o : Expr} {es : List Expr} {tf ta : TE} {t tk : TA} {kws : List Keyword} {gk : List Value → List Value → List Value} {gV : List V → List V → List V}
def tMethS (C : Addr) (m : Str) (sp : Sp) (E : L2.St → XK) (ta : TE) (t : TA) : TE := fun σ H Q => ta σ H fun x H1 => ∃ a dx fs, x = .ref a ∧ H1 a = some (.ins C dx fs) ∧ fs.lookup m = none ∧ t σ H1 fun vs H2 => sp (x :: vs) H2 Q (E σ)
theorem pe_methS {pl : Sem Bool} (he : PE X o ta) (c : Cls X.K C) (hm : Meth X.K C m f) (F : FnOk X.prog X.w X.K X.mg X.base CX k f fd ps sp) (hr : Room k X.A) (hb : Binds X.K fd ps []) (hx : ∀ σ, PassesAt CX X σ (E σ)) (ha : PA X (e :: es) t)
    (hst : starEach (e :: es) X.env = (false, eval e X.env) :: starEach es X.env := by rfl) (hpl : (backTo pos (starEach es X.env)).any (·.1) = false := by rfl)
    (ht : eval (.Call (.Attribute o m apos) (e :: es) [] pos) X.env = (do
      let ov ← eval o X.env
      standAt apos.atName
      let (f, first) ← holding [ov] (getMethod ov m pl)
      callWith pos f first (backTo pos (starEach (e :: es) X.env)) (backToKw pos (keywordEach [] X.env))) := by rfl) :
    PE X (.Call (.Attribute o m apos) (e :: es) [] pos) (tMethS C m sp E ta t) := by
  refine ⟨fun pins s σ H Q I h => ?_⟩
  refine PySem.W.methodCall_KW (pl := pl) (thn (he.run pins s σ H _ I h) fun u s1 ⟨x, H1, I1, rx, a, dx, fs, ex, ea, l, q⟩ => ?_) ht
  subst ex
  obtain rfl : u = Value.ref a := rx
  refine getmeth_ok I1 ea c hm l ?_
  refine PySem.W.callWith_K (first := [.ref a]) (h₀ := X.base) I.ok.mod.kin hm.kp (thn (ha.run pos pins s1 σ H1 _ I1 q) fun us s2 ⟨vs, H2, I2, r, q2⟩ => ⟨I2.kIn, ?_⟩) hst hpl
  exact run_fnS (us := .ref a :: us) (vs := .ref a :: vs) F hr hb (hx σ) I2 (.cons rfl r) q2
theorem pe_methS0 {pl : Sem Bool} (he : PE X o ta) (c : Cls X.K C) (hm : Meth X.K C m f) (F : FnOk X.prog X.w X.K X.mg X.base CX k f fd ps sp) (hr : Room k X.A) (hb : Binds X.K fd ps []) (hx : ∀ σ, PassesAt CX X σ (E σ))
    (ht : eval (.Call (.Attribute o m apos) [] [] pos) X.env = (do
      let ov ← eval o X.env
      standAt apos.atName
      let (f, first) ← holding [ov] (getMethod ov m pl)
      callWith pos f first (backTo pos (starEach [] X.env)) (backToKw pos (keywordEach [] X.env))) := by rfl) :
    PE X (.Call (.Attribute o m apos) [] [] pos) (tMethS C m sp E ta tNil) := by
  refine ⟨fun pins s σ H Q I h => ?_⟩
  refine PySem.W.methodCall_KW (pl := pl) (thn (he.run pins s σ H _ I h) fun u s1 ⟨x, H1, I1, rx, a, dx, fs, ex, ea, l, q⟩ => ?_) ht
  subst ex
  obtain rfl : u = Value.ref a := rx
  refine getmeth_ok I1 ea c hm l ?_
  exact PySem.W.callWith_K0 (first := [.ref a]) I1.kIn hm.kp (run_fnS (us := [.ref a]) (vs := [.ref a]) F hr hb (hx σ) I1 (.cons rfl .nil) q)
def tMakeS (C : Addr) (sp : Sp) (E : L2.St → XK) (t : TA) : TE := fun σ H Q => t σ H fun vs H1 => ∀ x dx, H1 x = none → H1 dx = none → dx ≠ x → sp (.ref x :: vs) (upd (upd H1 dx (.own x)) x (.ins C dx [])) (fun v H2 => v = .non ∧ Q (.ref x) H2) (E σ)
theorem run_makeS {pins : List (Addr × Obj)} {σ : L2.St} {H : Hp} {s : Shared} {Q : VK} {us : List Value} {vs : List V} (M : Mk X.K C f) (F : FnOk X.prog X.w X.K X.mg X.base CX k f fd ps sp) (hr : Room (k + 1) X.A) (hb : Binds X.K fd ps [])
    (hx : PassesAt CX X σ (E σ)) (I : Inv X pins σ H s) (r : Vals vs us)
    (h : ∀ x dx, H x = none → H dx = none → dx ≠ x → sp (.ref x :: vs) (upd (upd H dx (.own x)) x (.ins C dx [])) (fun v H2 => v = .non ∧ Q (.ref x) H2) (E σ)) :
    wpAny (model X.prog X.w) X.A (call (.ref C) us) (EP X pins σ Q) X.xe s := by
  have hq := h (s.heap.objs.size + 1) s.heap.objs.size (I.hok.fresh (Nat.le_succ _)) (I.hok.fresh (Nat.le_refl _)) (Nat.ne_of_lt (Nat.lt_succ_self _))
  have I2 := Inv.made (C := C) I
  have r2 : Vals (V.ref (s.heap.objs.size + 1) :: vs) (Value.ref (s.heap.objs.size + 1) :: us) := .cons rfl r
  have hl : (Value.ref (s.heap.objs.size + 1) :: us).length = ps.length := by
    have e := r2.length
    rw [F.len _ _ _ _ hq] at e
    exact e.symm
  have hb' := hb _ (Value.ref (s.heap.objs.size + 1) :: us) I2.kIn (by rw [List.append_nil]; exact hl)
  rw [List.append_nil] at hb'
  refine wpAny_call (make_map (f := f) I.kIn M.makes M.init (beq_iff_eq.mp M.fn) (codeAny_mono (F.run _ X.stack _ _ ⟨Value.ref (s.heap.objs.size + 1) :: us, []⟩ (Value.ref (s.heap.objs.size + 1) :: us) _ _ (E σ) (hr.make C us [])
    (I2.env0.make C us []) hb' r2 hq) fun r s' hq' => ?_))
  cases r with
  | error e => exact hx pins _ _ e s' I2 hq'
  | ok fl =>
    cases fl with
    | ret u =>
      obtain ⟨v, H', I3, rv, ev, q3⟩ := I2.after hq'
      subst ev
      exact ⟨rv, ⟨V.ref (s.heap.objs.size + 1), H', I3, rfl, q3⟩⟩
    | next => exact False.elim hq'
    | brk => exact False.elim hq'
    | cont => exact False.elim hq'
theorem pe_makeS (M : Mk X.K C f) (F : FnOk X.prog X.w X.K X.mg X.base CX k f fd ps sp) (hr : Room (k + 1) X.A) (hg : Gl X x) (hm : X.mg x = some (.ref C)) (hb : Binds X.K fd ps []) (hx : ∀ σ, PassesAt CX X σ (E σ))
    (ha : PA X (e :: es) t) (hdb : (x == ("__debug__" : Str)) = false := by decide) (he : starEach (e :: es) X.env = (false, eval e X.env) :: starEach es X.env := by rfl) (hpl : (backTo pos (starEach es X.env)).any (·.1) = false := by rfl) :
    PE X (.Call (.Name x p) (e :: es) [] pos) (tMakeS C sp E t) := by
  refine ⟨fun pins s σ H Q I h => ?_⟩
  refine wpAny_Call_Name_kw (ld_glob I hg hm ?_ hdb)
  refine PySem.W.callWith_K (h₀ := X.base) I.ok.mod.kin M.kp (thn (ha.run pos pins s σ H _ I h) fun us s1 ⟨vs, H1, I1, r, q⟩ => ⟨I1.kIn, ?_⟩) he hpl
  exact run_makeS M F hr hb (hx σ) I1 r q
/-- f(k = v, ..), f an instance -/
def tCallIK (C : Addr) (sp : Sp) (gV : List V → List V → List V) (E : L2.St → XK) (tf : TE) (tk : TA) : TE := fun σ H Q => tf σ H fun y H1 => ∃ a, y = V.ref a ∧ tk σ H1 fun zs H2 => InsD H2 a C ∧ sp (gV [V.ref a] zs) H2 Q (E σ)
theorem callK_of {M : Model} {A : Around} {E : Value → Shared → Prop} {s : Shared} {a : Addr} {pos : Pos} {Q : Value → Shared → Prop} {args : List (Bool × Sem Value)} {kw : List (Option Str × Sem Value)} (hplain : (args.any (·.1) || kw.any (·.1.isNone)) = false)
    (h : wpAny M A (evalArgs (.ref a) true args kw) (fun z s₁ => (∃ C ox od, PySem.W.InstAt s₁.heap a ox C od ∧ ox.data = .plain) ∧ wpAny M A (call (.ref a) ([] ++ z.pos) z.kw) Q E s₁) E s) : wpAny M A (callWith pos (.ref a) [] args kw) Q E s := by
  unfold callWith
  refine wpAny_bind (wpAny_holding (wpAny_mono h (fun z s₁ h₁ => wpAny_bind (wpAny_standAt ?_)) fun _ _ y => y))
  obtain ⟨⟨C, ox, od, J, hd⟩, h₁⟩ := h₁
  have L := PySem.W.kco_keeper (M := M) J hd
  simp only [hplain]
  refine wpAny_bind (L.here ?_)
  have tail : ∀ {t : Sem Value}, wpAny M A t Q E s₁ → wpAny M A (t >>= fun r => holding [r] point >>= fun _ => pure r) Q E s₁ :=
    fun ht => wpAny_bind (wpAny_mono ht (fun r s₂ hr => wpAny_bind (wpAny_holding (wpAny_point (wpAny_pure hr)))) fun _ _ y => y)
  exact tail (wpAny_operateT h₁)
theorem pe_callIK (hf : PE X fe tf) (c : StX.CallO X.K C g) (F : FnOk X.prog X.w X.K X.mg X.base CX k g fd ps sp) (hr : Room k X.A) (hb : KBinds X.K fd ps ks gk gV) (hx : ∀ σ, PassesAt CX X σ (E σ)) (hkw : PK X kws tk)
    (hall : (backToKw pos (keywordEach kws X.env)).all (·.1.isSome) = true := by rfl) (hks : (backToKw pos (keywordEach kws X.env)).filterMap (·.1) = ks := by rfl)
    (hpl : ((backTo pos (starEach [] X.env)).any (·.1) || (backToKw pos (keywordEach kws X.env)).any (·.1.isNone)) = false := by rfl)
    (ht : eval (.Call fe [] kws pos) X.env = (do callWith pos (← eval fe X.env) [] (backTo pos (starEach [] X.env)) (backToKw pos (keywordEach kws X.env))) := by rfl) : PE X (.Call fe [] kws pos) (tCallIK C sp gV E tf tk) := by
  refine ⟨fun pins s σ H Q I h => ?_⟩
  rw [ht]
  refine wpAny_bind (thn (hf.run pins s σ H _ I h) fun u s1 ⟨y, H1, I1, ry, a, ey, q⟩ => ?_)
  subst ey
  obtain rfl : u = Value.ref a := ry
  refine callK_of hpl (PyProof.Rows.evalArgs_kw2_nil hall (thn (hkw.run pos pins s1 σ H1 _ I1 q) fun ws s2 ⟨zs, H2, I2, r, hi, q2⟩ => ?_))
  rw [hks]
  obtain ⟨ox, od, J, hd⟩ := insD_at I2 hi
  have r2 := hb.rel (us := [Value.ref a]) (vs := [V.ref a]) (.cons rfl .nil) r
  have hl : (gk [Value.ref a] ws).length = ps.length := by rw [← r2.length]; exact F.len _ _ _ _ q2
  refine ⟨⟨C, ox, od, J, hd⟩, wpAny_call (PySem.W.kco_code I2.kIn J hd c.at_ c.fn c.fi (codeAny_mono (F.run X.A X.stack s2 H2 ⟨[.ref a], ks.zip ws⟩ (gk [.ref a] ws) (gV [.ref a] zs) Q (E σ) hr I2.env0 (hb.to s2 [.ref a] ws I2.kIn hl) r2 q2) fun r s' hq => ?_))⟩
  cases r with
  | error e => exact hx σ pins H2 s2 e s' I2 hq
  | ok fl =>
    cases fl with
    | ret u => exact I2.after hq
    | next => exact False.elim hq
    | brk => exact False.elim hq
    | cont => exact False.elim hq
end
section
variable {σ : L2.St} {H : Hp} {Q : VK} {tf ta : TE} {ts tk : TA} {C : Addr} {m : Str} {sp : Sp} {E : L2.St → XK} {gV : List V → List V → List V}
theorem go_methS (h : ta σ H fun x H1 => ∃ a dx fs, x = .ref a ∧ H1 a = some (.ins C dx fs) ∧ fs.lookup m = none ∧ ts σ H1 fun vs H2 => sp (x :: vs) H2 Q (E σ)) : tMethS C m sp E ta ts σ H Q := h
theorem go_makeS (h : ts σ H fun vs H1 => ∀ x dx, H1 x = none → H1 dx = none → dx ≠ x → sp (.ref x :: vs) (upd (upd H1 dx (.own x)) x (.ins C dx [])) (fun v H2 => v = .non ∧ Q (.ref x) H2) (E σ)) : tMakeS C sp E ts σ H Q := h
theorem go_callIK (h : tf σ H fun y H1 => ∃ a, y = V.ref a ∧ tk σ H1 fun zs H2 => InsD H2 a C ∧ sp (gV [V.ref a] zs) H2 Q (E σ)) : tCallIK C sp gV E tf tk σ H Q := h
theorem go_callS (h : ts σ H fun vs H1 => sp vs H1 Q (E σ)) : tCallS sp E ts σ H Q := h
end
/-- the error's field, whatever its class -/
def tXfX (K : PySem.W.Frag) (a : Addr) (cls : Value) (d : Option Addr) (f : Str) (te : TE) : TE := fun σ H Q => te σ H fun x H1 => x = .ref a ∧ ∃ C, cls = .ref C ∧ XfC K C ∧ PySem.W.findIn K (.ref C) f = some none ∧ ∃ (dd : Addr) (fs : List (Str × V)) (v : V), d = some dd ∧ H1 dd = some (.xd fs) ∧ fs.lookup f = some v ∧ Q v H1
theorem pe_xfX {X : Cx} {a : Addr} {oe : Obj} {cls : Value} {d : Option Addr} {pn : List (Addr × Obj)} {e : Expr} {te : TE} {pos : Pos} {n : Str} (hz : Zc cls d oe) (hf : ∃ vs, oe.data = .fields vs) (he : PE (X.suite a ((a, oe) :: pn)) e te) (hb : attributeBase e n X.env (eval e X.env) = eval e X.env := by rfl) :
    PE (X.suite a ((a, oe) :: pn)) (.Attribute e n pos) (tXfX X.K a cls d n te) := by
  refine ⟨fun pins s σ H Q I h => ?_⟩
  refine attr_of hb (thn (he.run pins s σ H _ I h) fun u s1 hh => ?_)
  obtain ⟨x, H1, I1, rx, ex, C, ec, T, hno, dd, fs, v, ed, ea, l, q⟩ := hh
  subst ex
  obtain rfl : u = Value.ref a := rx
  subst ec
  subst ed
  obtain ⟨ha, _⟩ := I1.pin (a, oe) (List.mem_append_left _ List.mem_cons_self)
  obtain ⟨vs, hd⟩ := hf
  have hx : ObjOk X.prog X.w H1 s1.heap dd (.xd fs) := I1.hok dd _ ea
  obtain ⟨mA, hns, hr⟩ := hx
  obtain ⟨od, ho, hl⟩ := lookIn_ns hns
  obtain ⟨u, hu, ru⟩ := RelO.some_of (v := v) (o := mA n) (by rw [← l]; exact hr n)
  have J : PySem.W.InstAt s1.heap a oe C (some od) := ⟨ha, hz.1, by unfold PySem.W.notCls; rw [hd] <;> rfl, by rw [hz.2]; exact ho⟩
  exact HandSPX.exc_get I1.kIn J T.ga T.gg T.exC (PySem.W.findObj_own T.hdC hno rfl (by rw [hl, hu])) (handed_of ru) ⟨v, H1, I1.tok _, ru, q⟩
theorem go_xfX {K : PySem.W.Frag} {a : Addr} {cls : Value} {d : Option Addr} {f : Str} {te : TE} {σ : L2.St} {H : Hp} {Q : VK} (h : te σ H fun x H1 => x = .ref a ∧ ∃ C, cls = .ref C ∧ XfC K C ∧ PySem.W.findIn K (.ref C) f = some none ∧ ∃ (dd : Addr) (fs : List (Str × V)) (v : V), d = some dd ∧ H1 dd = some (.xd fs) ∧ fs.lookup f = some v ∧ Q v H1) : tXfX K a cls d f te σ H Q := h
theorem go_xfXV {K : PySem.W.Frag} {a D dd : Addr} {f : Str} {H : Hp} {fs : List (Str × V)} {v : V} {R : V → Prop} (T : XfC K D) (no : PySem.W.findIn K (.ref D) f = some none) (e : H dd = some (.xd fs)) (l : fs.lookup f = some v) (h : R v) :
    V.ref a = .ref a ∧ ∃ C, (Value.ref D) = .ref C ∧ XfC K C ∧ PySem.W.findIn K (.ref C) f = some none ∧ ∃ (d' : Addr) (fs : List (Str × V)) (v : V), some dd = some d' ∧ H d' = some (.xd fs) ∧ fs.lookup f = some v ∧ R v := ⟨rfl, D, rfl, T, no, dd, fs, v, rfl, e, l, h⟩
/-! ### raise and try, by name -/
def tRaise (W : WX) (t : L2.St → Hp → XK → Prop) : TS := fun _ σ H => t σ H fun cls d H' => W cls d σ H'
theorem ps_raiseT {X : Cx} {W : WX} {e : Expr} {t : L2.St → Hp → XK → Prop} {pos : Pos} (hc : X.calm = true) (tk : Takes X W) (he : PMk X e t) : PS X (.Raise (some e) none pos) (tRaise W t) := ps_raise hc tk he
theorem go_raiseT {t : L2.St → Hp → XK → Prop} {W : WX} {D : Ends} {σ : L2.St} {H : Hp} (h : t σ H fun cls d H' => W cls d σ H') : tRaise W t D σ H := h
def tTryAs (K : PySem.W.Frag) (c : Value) (i : Nat) (ts : Addr → Value → Option Addr → TS) (Wout : WX) (tb : WX → TS) : TS := fun D σ H => tb (wAs K c i ts Wout D) D σ H
def tTryOnly (K : PySem.W.Frag) (c : Value) (ts : Addr → Value → Option Addr → TS) (Wout : WX) (tb : WX → TS) : TS := fun D σ H => tb (wOnly K c ts Wout D) D σ H
section
variable {X : Cx} {x n : Str} {c : Value} {i : Nat} {body suite : List Stmt} {b₀ : Stmt} {np pos pos' : Pos} {tb : WX → TS} {ts : Addr → Value → Option Addr → TS} {Wout : WX}
theorem ps_tryAs (hs : X.stack = X.env :: X.outer) (hf : X.env.frame = some X.env.locals) (hN : X.N.Nodup) (hi : X.N[i]? = some n) (hln : X.env.kindOf n = some .local) (hc : Names X x c) (tk : Takes X Wout)
    (hb : ∀ (W : WX) (pn : List (Addr × Obj)) (xe : Value → Shared → Prop), Takes (X.tr pn xe) W → PassesOwn (model X.prog X.w) X.A X.env xe → PSs (X.tr pn xe) body (tb W))
    (hsu : ∀ (a : Addr) (oe : Obj) (cls : Value) (d : Option Addr) (pn : List (Addr × Obj)), Zc cls d oe → (∃ vs, oe.data = .fields vs) → PSs (X.suite a ((a, oe) :: pn)) (b₀ :: suite) (ts a cls d)) :
    PS X (.Try body [.ExceptHandler (some (.Name x np)) (some n) (b₀ :: suite) pos'] [] [] pos) (tTryAs X.K c i ts Wout tb) := ps_try_as hs hf hN hi hln hc tk hb hsu
theorem ps_tryOnly (hs : X.stack = X.env :: X.outer) (hf : X.env.frame = some X.env.locals) (hc : Names X x c) (tk : Takes X Wout)
    (hb : ∀ (W : WX) (pn : List (Addr × Obj)) (xe : Value → Shared → Prop), Takes (X.tr pn xe) W → PassesOwn (model X.prog X.w) X.A X.env xe → PSs (X.tr pn xe) body (tb W))
    (hsu : ∀ (a : Addr) (oe : Obj) (cls : Value) (d : Option Addr) (pn : List (Addr × Obj)), Zc cls d oe → (∃ vs, oe.data = .fields vs) → PSs (X.suite a ((a, oe) :: pn)) (b₀ :: suite) (ts a cls d)) :
    PS X (.Try body [.ExceptHandler (some (.Name x np)) none (b₀ :: suite) pos'] [] [] pos) (tTryOnly X.K c ts Wout tb) := ps_try_only hs hf hc tk hb hsu
end
section
variable {K : PySem.W.Frag} {c : Value} {i : Nat} {tb : WX → TS} {ts : Addr → Value → Option Addr → TS} {Wout : WX} {D : Ends} {σ : L2.St} {H : Hp} {cls : Value} {d : Option Addr}
theorem go_tryAs (h : tb (wAs K c i ts Wout D) D σ H) : tTryAs K c i ts Wout tb D σ H := h
theorem go_tryOnly (h : tb (wOnly K c ts Wout D) D σ H) : tTryOnly K c ts Wout tb D σ H := h
theorem go_wAs (e : PySem.W.exmOne K cls c = some true) (h : ∀ a, H a = none → ts a cls d { nx := fun σ' H' => D.nx (σ'.set i none) H', rt := D.rt, bk := fun σ' H' => D.bk (σ'.set i none) H', ct := fun σ' H' => D.ct (σ'.set i none) H' } (σ.set i (some (.ref a))) H) : wAs K c i ts Wout D cls d σ H :=
  ⟨true, e, fun _ => h, fun q => nomatch q⟩
theorem go_wOnly (e : PySem.W.exmOne K cls c = some true) (h : ∀ a, H a = none → ts a cls d D σ H) : wOnly K c ts Wout D cls d σ H :=
  ⟨true, e, fun _ => h, fun q => nomatch q⟩
end
theorem go_nNone {A B : Prop} (h : A) : if (!(none : Option V).isSome) = true then A else B := iteT h
theorem go_nSome {v : V} {A B : Prop} (h : B) : if (!(some v).isSome) = true then A else B := iteF h
theorem go_None {A B : Prop} (h : B) : if (none : Option V).isSome = true then A else B := iteF h
theorem go_Some {v : V} {A B : Prop} (h : A) : if (some v).isSome = true then A else B := iteT h
/-! ### tuple(x), list(x): readings with a name -/
def rTupOf (K : PySem.W.Frag) : List V → Hp → VK → Prop := fun vs H Q => ∃ p xs, vs = [.ref p] ∧ ((SqL K H p xs ∧ ∀ l, H l = none → Q (.ref l) (upd H l (.tup xs))) ∨ (SqT K H p xs ∧ Q (.ref p) H))
theorem call_tupD {X : Cx} : CallR X (.type "tuple") (rTupOf X.K) := call_tuple_of
def rLstOf (K : PySem.W.Frag) : List V → Hp → VK → Prop := fun vs H Q => ∃ p xs, vs = [.ref p] ∧ (SqL K H p xs ∨ SqT K H p xs) ∧ ∀ l, H l = none → Q (.ref l) (upd H l (.lst xs))
theorem call_lstD {X : Cx} : CallR X (.type "list") (rLstOf X.K) := call_list_of
section
variable {K : PySem.W.Frag} {H : Hp} {Q : VK} {p : Addr} {xs : List V}
theorem go_tupD (e : SqL K H p xs) (h : ∀ l, H l = none → Q (.ref l) (upd H l (.tup xs))) : rTupOf K [.ref p] H Q := ⟨p, xs, rfl, .inl ⟨e, h⟩⟩
theorem go_tupDT (e : SqT K H p xs) (h : Q (.ref p) H) : rTupOf K [.ref p] H Q := ⟨p, xs, rfl, .inr ⟨e, h⟩⟩
theorem go_lstD (e : SqL K H p xs) (h : ∀ l, H l = none → Q (.ref l) (upd H l (.lst xs))) : rLstOf K [.ref p] H Q := ⟨p, xs, rfl, .inl e, h⟩
theorem go_lstDT (e : SqT K H p xs) (h : ∀ l, H l = none → Q (.ref l) (upd H l (.lst xs))) : rLstOf K [.ref p] H Q := ⟨p, xs, rfl, .inr e, h⟩
theorem go_lstDO (e : SqL K H p xs ∨ SqT K H p xs) (h : ∀ l, H l = none → Q (.ref l) (upd H l (.lst xs))) : rLstOf K [.ref p] H Q := ⟨p, xs, rfl, e, h⟩
end
theorem go_cat {H : Hp} {Q : VK} {p q : Addr} {xs ys : List V} (h1 : H p = some (.lst xs)) (h2 : H q = some (.lst ys)) (l : xs.length + ys.length ≤ 1000) (h : ∀ r, H r = none → Q (.ref r) (upd H r (.lst (xs ++ ys)))) : rCat (.ref p) (.ref q) H Q :=
  ⟨p, q, xs, ys, rfl, rfl, h1, h2, Nat.le_of_lt (small1000 l), h⟩
theorem go_prop {C : Addr} {sp : Sp} {E : XK} {ta : TE} {σ : L2.St} {H : Hp} {Q : VK} {dvs : List V} (h : ta σ H fun x H1 => ∃ a dx fs, x = .ref a ∧ H1 a = some (.ins C dx fs) ∧ sp (.ref a :: dvs) H1 Q E) : tProp C sp dvs E ta σ H Q := h
end Vc

/-! Xo: operators of own classes: ==, a property stored (my own; ways of HandS.OwnEq and HandS.Property). -/
namespace Vc
open PySem PySem.Spec PyProof.Rows L2
/-! ### a == b by a's own __eq__ -/
structure EqM (K : PySem.W.Frag) (C g : Addr) : Prop where
  at_ : PySem.W.findIn K (.ref C) "__eq__" = some (some (.ref g))
  fn : PySem.W.isFn K (.ref g) = true
def rEqO (K : PySem.W.Frag) (C : Addr) (sp : Sp) : R2 := fun x y H Q => ∃ (a dx : Addr) (fs : List (Str × V)) (t : Value), x = .ref a ∧ H a = some (.ins C dx fs) ∧ TyX K H y t ∧ PySem.W.notFirst K C t = true ∧ sp [x, y] H (fun v H' => ∃ b, v = .bl b ∧ Q (.bl b) H') E0
theorem op_eqO {X : Cx} {C g : Addr} {fd : FuncData} {ps : List Str} {sp : Sp} {n : Nat} (F : FnOk X.prog X.w X.K X.mg X.base CX0 n g fd ps sp) (hr : Room n X.A) (m : EqM X.K C g) (hb : Binds X.K fd ps []) : OpR X (compareOp .Eq) (rEqO X.K C sp) := by
  intro pins s σ H x y v u Q I rx ry hq
  obtain ⟨a, dx, fs, t, rfl, ha, ty, nf, q⟩ := hq
  cases rx
  show wpAny (model X.prog X.w) X.A (richCompare .Eq (.ref a) u) (EP X pins σ Q) X.xe s
  obtain ⟨mA, J, _⟩ := ins_get I.hok ha
  obtain ⟨od, J, _⟩ := J.look
  obtain ⟨_, Z, p, _⟩ := kit_of I ry ty
  obtain ⟨mm, hF⟩ := I.fr
  refine PySem.W.cmp_K (op := .Eq) (tb := t) hr.units0 hF I.ok.mod.kin J (Z.ty _ _ I.kIn p) nf m.at_ m.fn ?_
  have hl := F.len _ _ _ _ q
  have r2 : Vals [V.ref a, y] [Value.ref a, u] := .cons rfl (.cons ry .nil)
  have hb' := hb s [.ref a, u] I.kIn (by simpa using hl)
  rw [List.append_nil] at hb'
  refine wpAny_call (codeAny_mono (F.run X.A X.stack s H ⟨[.ref a, u], []⟩ [.ref a, u] [.ref a, y] _ E0 hr I.env0 hb' r2 q) fun r s' hq => ?_)
  cases r with
  | error e => exact hq.elim
  | ok fl =>
    cases fl with
    | ret w =>
      obtain ⟨z, H', I', rz, b, ez, qz⟩ := I.after hq
      subst ez
      cases rz
      exact ⟨.bl b, H', I', rfl, qz⟩
    | next => exact False.elim hq
    | brk => exact False.elim hq
    | cont => exact False.elim hq
/-! ### o.f = e, f a property with a setter -/
structure PropSet (K : PySem.W.Frag) (C : Addr) (f : Str) (p g : Addr) : Prop where
  tk : PySem.W.takerIn K C f = some (some (.ref p))
  ty : PySem.W.typeIn K (.ref p) = some (.type "property")
  rec_ : ∃ a rest, PySem.W.recIn K p "property" = some (a :: .ref g :: rest)
def tSetP (C : Addr) (sp : Sp) (E : L2.St → XK) (to te : TE) : TS := fun D σ H => te σ H fun y H1 => to σ H1 fun x H2 => ∃ (a dx : Addr) (fs : List (Str × V)), x = .ref a ∧ H2 a = some (.ins C dx fs) ∧ sp [.ref a, y] H2 (fun _ H3 => D.nx σ H3) (E σ)
theorem ps_fldP {X : Cx} {CX : CXT} {C p g : Addr} {f : Str} {fd : FuncData} {ps : List Str} {sp : Sp} {n : Nat} {E : L2.St → XK} {o e : Expr} {to te : TE} {p' pos : Pos} (c : Cls X.K C) (m : PropSet X.K C f p g) (F : FnOk X.prog X.w X.K X.mg X.base CX n g fd ps sp) (hr : Room (n + 2) X.A) (hb : Binds X.K fd ps []) (hx : ∀ σ, PassesAt CX X σ (E σ))
    (ho : PE X o to) (he : PE X e te) (hs : swapsWith e (some (.Attribute o f p')) pos.line X.env = pure false := by rfl) : PS X (.Assign [.Attribute o f p'] e pos) (tSetP C sp E to te) := by
  refine ⟨fun pins s σ H D I h => ?_⟩
  refine plainObj_wpAny_Assign_Attribute (thn (he.run pins s σ H _ I h) fun v s1 ⟨y, H1, I1, r1, q1⟩ => thn (ho.run pins s1 σ H1 _ I1 q1) fun u s2 ⟨x, H2, I2, r2, a, dx, fs, ex, ea, q⟩ => ?_) hs
  subst ex
  obtain rfl : u = Value.ref a := r2
  obtain ⟨mA, J, _⟩ := ins_get I2.hok ea
  obtain ⟨od, J, _⟩ := J.look
  obtain ⟨mm, hF⟩ := I2.fr
  obtain ⟨b, rest, hrec⟩ := m.rec_
  have I3 := I2.tok (s2.toks + 1)
  have hl := F.len _ _ _ _ q
  have hb' := hb { s2 with toks := s2.toks + 1 } [.ref a, v] I3.kIn (by simpa using hl)
  rw [List.append_nil] at hb'
  refine PySem.W.set_prop hF I.ok.mod.kin J c.sa c.po m.tk m.ty hrec ?_
  refine codeAny_mono (F.run X.A.in1.in1 X.stack { s2 with toks := s2.toks + 1 } H2 ⟨[.ref a, v], []⟩ [.ref a, v] [.ref a, y] _ (E σ) hr.in1.in1 I3.env0.in1.in1 hb' (.cons rfl (.cons r1 .nil)) q) fun r s' hq => ?_
  cases r with
  | error er => exact hx σ pins H2 { s2 with toks := s2.toks + 1 } er s' I3 hq
  | ok fl =>
    cases fl with
    | ret w =>
      obtain ⟨z, H', I', rz, qz⟩ := I3.after hq
      exact ⟨σ, H', I', qz⟩
    | next => exact False.elim hq
    | brk => exact False.elim hq
    | cont => exact False.elim hq
section
variable {K : PySem.W.Frag} {H : Hp} {Q : VK} {a C dx : Addr} {fs : List (Str × V)} {y : V} {t : Value} {sp : Sp}
theorem go_eqO (ha : H a = some (.ins C dx fs)) (ty : TyX K H y t) (nf : PySem.W.notFirst K C t = true) (h : sp [.ref a, y] H (fun v H' => ∃ b, v = .bl b ∧ Q (.bl b) H') E0) : rEqO K C sp (.ref a) y H Q := ⟨a, dx, fs, t, rfl, ha, ty, nf, h⟩
theorem go_setP {E : L2.St → XK} {to te : TE} {D : Ends} {σ : L2.St} (h : te σ H fun y H1 => to σ H1 fun x H2 => ∃ (a dx : Addr) (fs : List (Str × V)), x = .ref a ∧ H2 a = some (.ins C dx fs) ∧ sp [.ref a, y] H2 (fun _ H3 => D.nx σ H3) (E σ)) : tSetP C sp E to te D σ H := h
theorem go_setPV {R : Addr → Prop} (ha : H a = some (.ins C dx fs)) (h : R a) : ∃ (a' dx : Addr) (fs : List (Str × V)), V.ref a = .ref a' ∧ H a' = some (.ins C dx fs) ∧ R a' := ⟨a, dx, fs, rfl, ha, h⟩
theorem ty_ins (ha : H a = some (.ins C dx fs)) (c : C8.InsC K C) : TyX K H (.ref a) (.ref C) := .base (.ins ha c.cl c.ha c.hn c.htk c.hm)
theorem go_isiC {x : V} {c : Addr} {b : Bool} (ht : TyX K H x t) (hk : PySem.W.kitOne K t (.ref c) = some b) (h : Q (.bl b) H) : rIsi K [x, .ref c] H Q := ⟨x, .ref c, t, .ref c, b, rfl, .own c, ht, hk, h⟩
end
/-! ### defaults -/
section
variable {K : PySem.W.Frag} {x qual : Str} {params : Arguments} {body : List Stmt} {scope : Scope} {dvs : List V} {kws : List (Str × V)} {f : Addr} {fd : FuncData} {ps ks : List Str}
theorem bindsAll (F : FunD K x qual params body scope dvs kws f fd) (hd : dvs ≠ [])
    (h : ∀ (T : Addr) (kV doc pm : Value) (an : Option Addr) (cdv ct : Value) (us its : List Value), us.length = ps.length → its.length = dvs.length →
      ∃ k, bindArgs (PySem.W.fnOf x qual params body scope (.ref T) kV doc pm an cdv ct) ⟨us, []⟩ = seqItems? (.ref T) >>= k ∧ k (some its.toArray) = pure (ps.zip us)) : Binds K fd ps [] := by
  obtain ⟨ds, r, b⟩ := F.binds1 (ps := ps) ps.length dvs.length hd (by rw [Nat.sub_self, Nat.add_zero]) (fun T kV doc pm an cdv ct us its l1 l2 => by
    obtain ⟨k, e1, e2⟩ := h T kV doc pm an cdv ct us its l1 l2
    exact ⟨k, e1, by rw [List.drop_of_length_le (Nat.le_of_eq l2), List.append_nil]; exact e2⟩)
  rw [List.drop_of_length_le (Nat.le_refl _)] at r
  cases r
  exact b
theorem kbindsD (F : FunD K x qual params body scope dvs kws f fd) (hd : dvs ≠ []) (g : {α : Type} → List α → List α → List α → List α)
    (hrel : ∀ {vs ds zs : List V} {us its ws : List Value}, Vals ds its → Vals vs us → Vals zs ws → Vals (g ds vs zs) (g its us ws))
    (h : ∀ (T : Addr) (kV doc pm : Value) (an : Option Addr) (cdv ct : Value) (us its ws : List Value), its.length = dvs.length → (g its us ws).length = ps.length →
      ∃ k, bindArgs (PySem.W.fnOf x qual params body scope (.ref T) kV doc pm an cdv ct) ⟨us, ks.zip ws⟩ = seqItems? (.ref T) >>= k ∧ k (some its.toArray) = pure (ps.zip (g its us ws))) :
    ∃ its : List Value, KBinds K fd ps ks (g its) (g dvs) := by
  obtain ⟨oc, od, dV, kV, doc, pm, an, cdv, ct, osl, rfl, lk, hcd, hD, hK⟩ := F.ex
  rcases hD with ⟨e, _⟩ | ⟨_, T, o, its, m, rfl, lT, oT, rT⟩
  · exact absurd e hd
  · refine ⟨its, ⟨fun s us ws X hl => ?_, fun r1 r2 => hrel rT r1 r2⟩⟩
    obtain ⟨k, e1, e2⟩ := h T kV doc pm an cdv ct us its ws rT.length.symm hl
    refine BindsTo.of_looks fun M => ?_
    rw [e1]
    exact looks_items X lT oT (.of_pure e2)
end
/-! ### C(k = v, ..) -/
def tMakeK (C : Addr) (sp : Sp) (gV : List V → List V → List V) (E : XK) (tk : TA) : TE := fun σ H Q => tk σ H fun zs H2 => ∀ x dx, H2 x = none → H2 dx = none → dx ≠ x → sp (gV [.ref x] zs) (upd (upd H2 dx (.own x)) x (.ins C dx [])) (fun v H3 => v = .non ∧ Q (.ref x) H3) E
section
variable {X : Cx} {CX : CXT} {k : Nat} {f C : Addr} {fd : FuncData} {ps ks : List Str} {sp : Sp} {E : XK} {x : Str} {p pos : Pos} {kws : List Keyword} {tk : TA} {g : List Value → List Value → List Value} {gV : List V → List V → List V}
theorem pe_makeK0 (M : Mk X.K C f) (F : FnOk X.prog X.w X.K X.mg X.base CX k f fd ps sp) (hr : Room (k + 1) X.A) (hg : Gl X x) (hm : X.mg x = some (.ref C)) (hb : KBinds X.K fd ps ks g gV) (hx : Passes CX X E)
    (hkw : PK X kws tk) (hall : (backToKw pos (keywordEach kws X.env)).all (·.1.isSome) = true := by rfl) (hks : (backToKw pos (keywordEach kws X.env)).filterMap (·.1) = ks := by rfl)
    (hdb : (x == ("__debug__" : Str)) = false := by decide)
    (hpl : ((backTo pos (starEach [] X.env)).any (·.1) || (backToKw pos (keywordEach kws X.env)).any (·.1.isNone)) = false := by rfl) :
    PE X (.Call (.Name x p) [] kws pos) (tMakeK C sp gV E tk) := by
  refine ⟨fun pins s σ H Q I h => ?_⟩
  refine wpAny_Call_Name_kw (ld_glob I hg hm ?_ hdb)
  refine PySem.W.callWith_KW0 (h₀ := X.base) I.ok.mod.kin M.kp hall (thn (hkw.run pos pins s σ H _ I h) fun ws s2 ⟨zs, H2, I2, rz, q2⟩ => ⟨I2.kIn, ?_⟩) hpl
  rw [hks]
  show wpAny _ _ (call (.ref C) [] (ks.zip ws)) _ _ _
  have hq := q2 (s2.heap.objs.size + 1) s2.heap.objs.size (I2.hok.fresh (Nat.le_succ _)) (I2.hok.fresh (Nat.le_refl _)) (Nat.ne_of_lt (Nat.lt_succ_self _))
  have I3 := Inv.made (C := C) I2
  have r1 : Vals [V.ref (s2.heap.objs.size + 1)] [Value.ref (s2.heap.objs.size + 1)] := .cons rfl .nil
  have r2 := hb.rel r1 rz
  have hl : (g [Value.ref (s2.heap.objs.size + 1)] ws).length = ps.length := by rw [← r2.length]; exact F.len _ _ _ _ hq
  refine wpAny_call (make_map (f := f) I2.kIn M.makes M.init (beq_iff_eq.mp M.fn) (codeAny_mono (F.run _ X.stack _ _ ⟨[Value.ref (s2.heap.objs.size + 1)], ks.zip ws⟩ (g [Value.ref (s2.heap.objs.size + 1)] ws) _ _ E (hr.make C [] (ks.zip ws))
    (I3.env0.make C [] (ks.zip ws)) (hb.to _ [Value.ref (s2.heap.objs.size + 1)] ws I3.kIn hl) r2 hq) fun r s' hq' => ?_))
  cases r with
  | error e => exact hx pins σ _ _ e s' I3 hq'
  | ok fl =>
    cases fl with
    | ret u =>
      obtain ⟨v, H', I4, rv, ev, q3⟩ := I3.after hq'
      subst ev
      exact ⟨rv, ⟨V.ref (s2.heap.objs.size + 1), H', I4, rfl, q3⟩⟩
    | next => exact False.elim hq'
    | brk => exact False.elim hq'
    | cont => exact False.elim hq'
end
theorem go_makeK {C : Addr} {sp : Sp} {gV : List V → List V → List V} {E : XK} {tk : TA} {σ : L2.St} {H : Hp} {Q : VK} (h : tk σ H fun zs H2 => ∀ x dx, H2 x = none → H2 dx = none → dx ≠ x → sp (gV [.ref x] zs) (upd (upd H2 dx (.own x)) x (.ins C dx [])) (fun v H3 => v = .non ∧ Q (.ref x) H3) E) : tMakeK C sp gV E tk σ H Q := h
theorem go_make0 {C : Addr} {sp : Sp} {dvs : List V} {E : XK} {σ : L2.St} {H : Hp} {Q : VK} (h : ∀ x dx, H x = none → H dx = none → dx ≠ x → sp (.ref x :: dvs) (upd (upd H dx (.own x)) x (.ins C dx [])) (fun v H2 => v = .non ∧ Q (.ref x) H2) E) : tMake C sp dvs E tNil σ H Q := h
end Vc

/-! Xr: ranges of any size: walked, made into lists (my own; over the library's LongRange and KdlSrc). -/
namespace Vc
open PySem PySem.Spec PyProof.Rows L2
theorem turn_long {P : Program} {w : World} {K : PySem.W.Frag} {tg : Expr} (it : Addr) (lo : Int) (n : Nat) : Turn P w K tg (Itr lo n) [it] it (fun i h => IsLongIter h it (lo + (i : Nat) * 1) ((n : Int) - (i : Nat)) 1) where
  mem := List.mem_singleton.mpr rfl
  obj := fun i h st b hb => by
    cases List.mem_singleton.mp hb
    refine ⟨_, st, fun v z => ?_⟩
    have q : Data.fields #[rawInt (lo + (i : Nat) * 1), rawInt ((n : Int) - (i : Nat)), rawInt 1] = Data.cell v := z
    cases q
  keep := fun i h h' st k => k it (List.mem_singleton.mpr rfl) _ st
  item := by
    intro X hP hw hK hc i pins s σ H E I hf st hg
    subst hP hw hK
    obtain ⟨f0, f1, f2, f3, f4, f5⟩ := hf it (List.mem_singleton.mpr rfl)
    refine (Walks.longrange (prog := X.prog) (w := X.w) (I.ok.hd hc) it lo 1 n).item i s _ _ hg st fun v h' tk hv st' kk => ?_
    obtain ⟨t, rfl⟩ := hv
    have J : Inv X pins σ H { s with heap := h', toks := tk } := I.turned (fun b o hb e => kk b o (fun z => hb (List.mem_singleton.mp z)) e) f0 f1 f3 f4 f5
    refine ⟨_, rfl, go_of (s := { s with heap := h', toks := tk }) (n := "longrange_iterator") st' rfl rfl (by decide) ⟨.int (lo + i), H, J, ⟨t, by rw [Int.mul_one]⟩, ⟨rfl, rfl⟩, st', fun b hb => (hf b hb).1⟩⟩
  done := by
    intro X hP hw hK hc i pins s σ H E I hf st hg
    subst hP hw hK
    obtain ⟨f0, f1, f2, f3, f4, f5⟩ := hf it (List.mem_singleton.mpr rfl)
    have hz : (n : Int) - (i : Nat) ≤ 0 := by have : n ≤ i := hg; omega
    exact wpAny_pyNext_long_end (I.ok.hd hc) st hz fun h' eb => ⟨rfl, I.turned (t' := s.toks) (fun b o hb e => eb b o hb e) f0 f1 f3 f4 f5⟩
  self := fun _ _ _ _ _ st h => wpAny_pyIter_longiter st h
theorem size_one (a b : Int) : Builtin.Range.rangeSize a b 1 = (((b - a).toNat : Nat) : Int) := rangeSize_nat a b
/-- a range object that stands, walked; of any size -/
theorem range_itL {tg : Expr} {X : Cx} {pins : List (Addr × Obj)} {σ : L2.St} {H : Hp} {s : Shared} {R : It → Hp → Prop} {E : Value → Shared → Prop} {lo hi : Int} {t u v : Tok} {tk : Nat} (I : Inv X pins σ H s)
    (q : R (Itr lo (hi - lo).toNat) H) : wpAny (model X.prog X.w) X.A (pyIter (.ref s.heap.objs.size)) (PIE X pins σ tg R) E { s with heap := s.heap.push { cls := .type "range", data := .fields #[.int lo t, .int hi u, .int 1 v] }, toks := tk } := by
  have J : Inv X pins σ H { s with heap := s.heap.push { cls := .type "range", data := .fields #[.int lo t, .int hi u, .int 1 v] }, toks := tk } := I.kept fun b o e => Heap.get?_push_of_some _ e
  have z1 : lo + ((0 : Nat) : Int) * 1 = lo := by simp
  have z2 : (((hi - lo).toNat : Nat) : Int) - ((0 : Nat) : Int) = Builtin.Range.rangeSize lo hi 1 := by rw [size_one]; simp
  by_cases hs : Builtin.Range.small lo hi 1 = true
  · refine wpAny_pyIter_range (IsRange.new ..) hs ?_
    refine ⟨_, [_], _, _, H, rfl, J.kept (t' := tk) fun b o e => Heap.get?_push_of_some _ e, turn_range _ lo (hi - lo).toNat, ?_, fun b hb => ?_, q⟩
    · show IsRangeIter _ _ (lo + ((0 : Nat) : Int) * 1) ((((hi - lo).toNat : Nat) : Int) - ((0 : Nat) : Int)) 1
      rw [z1, z2]
      exact Heap.get?_push_size _ rfl
    · cases List.mem_singleton.mp hb
      exact J.fpOk (Nat.le_refl _) (J.hok.fresh (Nat.le_refl _))
  · refine wpAny_pyIter_longrange (IsRange.new ..) (Bool.eq_false_iff.mpr hs) ?_
    refine ⟨_, [_], _, _, H, rfl, J.kept (t' := tk) fun b o e => Heap.get?_push_of_some _ e, turn_long _ lo (hi - lo).toNat, ?_, fun b hb => ?_, q⟩
    · show IsLongIter _ _ (lo + ((0 : Nat) : Int) * 1) ((((hi - lo).toNat : Nat) : Int) - ((0 : Nat) : Int)) 1
      rw [z1, z2]
      exact Heap.get?_push_size _ rfl
    · cases List.mem_singleton.mp hb
      exact J.fpOk (Nat.le_refl _) (J.hok.fresh (Nat.le_refl _))
/-- for x in range(a, b), a and b of any size -/
def iRngL (ta : TA) : TI := fun σ H R => ta σ H fun vs H1 => ∃ i j : Int, vs = [.int i, .int j] ∧ R (Itr i (j - i).toNat) H1
theorem pi_rangeL {tg : Expr} {X : Cx} {a b : Expr} {ta : TA} {p pos : Pos} (hg : Gl X "range") (hm : X.mg "range" = none) (ha : PA X [a, b] ta) (hs : starEach [a, b] X.env = [(false, eval a X.env), (false, eval b X.env)] := by rfl) (hs2 : starEach [b] X.env = [(false, eval b X.env)] := by rfl) :
    PI X tg (.Call (.Name "range" p) [a, b] [] pos) (iRngL ta) := by
  refine ⟨fun pins s σ H R I h => ?_⟩
  refine Call_ (ld_blt I hg hm boot_range (PyProof.Rows.callWith_type1 (thn (ha.run pos pins s σ H _ I h) fun us s1 ⟨vs, H1, I1, r1, i, j, e, q⟩ => ?_) (by rw [hs, hs2]) (by rw [hs2]; rfl)))
  subst e
  rcases r1 with _ | ⟨⟨t, rfl⟩, _ | ⟨⟨t', rfl⟩, _ | _⟩⟩
  exact call_range_2 (range_itL I1 q)
theorem go_iRngL {ta : TA} {σ : L2.St} {H : Hp} {R : It → Hp → Prop} (h : ta σ H fun vs H1 => ∃ i j : Int, vs = [.int i, .int j] ∧ R (Itr i (j - i).toNat) H1) : iRngL ta σ H R := h
theorem go_iRngLV {i j : Int} {P : Int → Int → Prop} (h : P i j) : ∃ i' j' : Int, [V.int i, V.int j] = [.int i', .int j'] ∧ P i' j' := ⟨i, j, rfl, h⟩
/-! ### list(range(a, b)), a and b of any size -/
section
variable {prog : Program} {w : World} {A : Around} {E : Value → Shared → Prop} {s : Shared}
/-- the list's own loop, from where its iterator stands -/
theorem long_loop {R : Result → Shared → Prop} {r it : Addr} {a c : Int} {n : Nat} (hh : A.handled = none) (hlen : n ≤ sizeLine) (S : Addr) (hSI : S ≠ it) (res : Value) (c₁ : Nat) (h0 : Heap) (base : Heap) (tk : Nat)
    (st : IsLongIter h0 it (a + ((0 : Nat) : Int) * c) ((n : Int) - ((0 : Nat) : Int)) c) (kb : ∀ b o, b ≠ S → base.get? b = some o → h0.get? b = some o) (nI : base.get? it = none) (hS : h0.get? S = some { cls := .type "list", data := .seq #[] c₁ })
    (hR : ∀ h' tk acc' c', (∀ b o, b ≠ S → base.get? b = some o → h'.get? b = some o) → h'.get? S = some { cls := .type "list", dict := none, data := .seq acc' c', slots := #[] } → ItemsOf (fun i v => ∃ t, v = .int (a + i * c) t) acc' n → R (.ok (.ret res)) { s with heap := h', toks := tk }) :
    codeAny (model prog w) A (.builtin "list.extend.loop" ⟨[.ref S, .ref it, res], []⟩) R { s with heap := h0, toks := tk } := by
  refine codeAny_extend_loopS (Walks.longrange (prog := prog) (w := w) (A := A.in1) hh it a c n).toS hlen S (fun z => hSI (List.mem_singleton.mp z)) res n 0 { s with heap := h0, toks := tk } #[] c₁ rfl (Nat.zero_le _) st hS (ItemsOf.nil _) fun s' acc' c' hm hS' hacc => ?_
  rw [Moved.eq_with hm]
  refine hR s'.heap s'.toks acc' c' (fun b o hb e => hm.heap b o (fun z => ?_) (kb b o hb e)) hS' hacc
  rcases List.mem_cons.mp z with z | z
  · exact hb z
  · rw [List.mem_singleton.mp z, nI] at e; cases e
theorem long_extend {R : Result → Shared → Prop} {r : Addr} {a b c : Int} {t u v : Tok} {n : Nat} (hh : A.handled = none) (hr : IsRange s.heap r a b c t u v) (hbig : Builtin.Range.small a b c = false) (hn : Builtin.Range.rangeSize a b c = n) (hlen : n ≤ 2 ^ 24)
    (S : Addr) (res : Value) (c₀ : Nat) (hS : s.heap.get? S = some { cls := .type "list", data := .seq #[] c₀ })
    (hR : ∀ h' tk acc' c', (∀ b o, b ≠ S → s.heap.get? b = some o → h'.get? b = some o) → h'.get? S = some { cls := .type "list", dict := none, data := .seq acc' c', slots := #[] } → ItemsOf (fun i v => ∃ t, v = .int (a + i * c) t) acc' n → R (.ok (.ret res)) { s with heap := h', toks := tk }) :
    wpAny (model prog w) A.in1 (Builtin.List.listExtendWith (.ref S) (.ref r) res)
      (fun fin s' => match fin with | .done f => R (.ok f) s' | .again c' => c'.quiet = true ∧ codeAny (model prog w) A c' R s') (fun e s' => R (.error e) s') s := by
  have nSr : S ≠ r := fun e => by rw [e, hr] at hS; simp at hS
  have nSI : S ≠ s.heap.objs.size := Nat.ne_of_lt (Heap.lt_size hS)
  have nI : s.heap.get? s.heap.objs.size = none := by
    cases q : s.heap.get? s.heap.objs.size with
    | none => rfl
    | some o => exact absurd (Heap.lt_size q) (Nat.lt_irrefl _)
  generalize hO : ({ cls := .type "longrange_iterator", data := .fields #[rawInt a, rawInt (Builtin.Range.rangeSize a b c), rawInt c] } : Obj) = oI
  have st0 : ∀ h : Heap, h.get? s.heap.objs.size = some oI → IsLongIter h s.heap.objs.size (a + ((0 : Nat) : Int) * c) ((n : Int) - ((0 : Nat) : Int)) c := fun h e => by
    show h.get? _ = some _
    rw [e, ← hO, hn]; simp
  have hl : n ≤ sizeLine := by rw [sizeLine_eq]; omega
  unfold Builtin.List.listExtendWith
  refine wpAny_bind (wpAny_typeOf (T := "range") ⟨_, hr, rfl⟩ ?_)
  have q1 : Builtin.List.listSameRef (.ref S) (.ref r) = false := by simp [Builtin.List.listSameRef, nSr]
  have q2 : ((Value.type "range" == Value.type "list") || (Value.type "range" == Value.type "tuple")) = false := by decide
  simp only [q1, q2, Bool.or_false, Bool.false_or, Bool.false_eq_true, if_false]
  refine wpAny_bind (wpAny_pyIter_longrange hr hbig ?_)
  rw [hO]
  refine wpAny_bind (wpAny_holding (wpAny_hint_range (n := n) (Heap.get?_push_of_some _ hr) hn hlen ?_))
  have p1 : (s.heap.push oI).get? s.heap.objs.size = some oI := by subst hO; exact Heap.get?_push_size _ rfl
  have p2 := Heap.get?_push_of_some oI hS
  refine wpAny_ite_split (fun _ => ?_) (fun _ => wpAny_pure ⟨plainId_quiet F.plain_extend_loop _, long_loop (prog := prog) (w := w) (s := s) (r := r) hh hl S nSI res c₀ _ s.heap _ (st0 _ p1) (fun b o _ e => Heap.get?_push_of_some _ e) nI p2 hR⟩)
  refine wpAny_bind (wpAny_rule (wpAny_bind ?_))
  show wpAny _ _ (updateSeq S (·.push .none) >>= fun _ => updateSeq S (·.pop)) _ _ _
  refine wpAny_bind (wpAny_updateSeq p2 rfl ?_)
  have p3 := Heap.get?_update_self (Obj.mapSeq (·.push Value.none)) p2 rfl
  refine wpAny_updateSeq (hz := by seq_fits) p3 rfl ?_
  have p4 := Heap.get?_update_self (Obj.mapSeq (·.pop)) p3 rfl
  refine wpAny_pure ⟨plainId_quiet F.plain_extend_loop _, long_loop (prog := prog) (w := w) (s := s) (r := r) hh hl S nSI res _ _ s.heap _ (st0 _ ?_) (fun b o hb e => ?_) nI p4 hR⟩
  · rw [Heap.get?_update_other _ _ nSI, Heap.get?_update_other _ _ nSI]; exact p1
  · rw [Heap.get?_update_other _ _ (Ne.symm hb), Heap.get?_update_other _ _ (Ne.symm hb)]; exact Heap.get?_push_of_some _ e
theorem long_init {R : Result → Shared → Prop} {r : Addr} {a b c : Int} {t u v : Tok} {n : Nat} (hh : A.handled = none) (hr : IsRange s.heap r a b c t u v) (hbig : Builtin.Range.small a b c = false) (hn : Builtin.Range.rangeSize a b c = n) (hlen : n ≤ 2 ^ 24)
    (S : Addr) (hS : s.heap.get? S = some { cls := .type "list", data := .seq #[] })
    (hR : ∀ h' tk acc' c', (∀ b o, b ≠ S → s.heap.get? b = some o → h'.get? b = some o) → h'.get? S = some { cls := .type "list", dict := none, data := .seq acc' c', slots := #[] } → ItemsOf (fun i v => ∃ t, v = .int (a + i * c) t) acc' n → R (.ok (.ret .none)) { s with heap := h', toks := tk }) :
    wpAny (model prog w) A.in1 (Builtin.«list.__init__» ⟨[.ref S, .ref r], []⟩)
      (fun fin s' => match fin with | .done f => R (.ok f) s' | .again c' => c'.quiet = true ∧ codeAny (model prog w) A c' R s') (fun e s' => R (.error e) s') s := by
  have nSr : S ≠ r := fun e => by rw [e, hr] at hS; simp at hS
  show wpAny _ _ (do let old ← Builtin.List.listItems (.ref S); Builtin.List.listUpdate (.ref S) (fun _ => #[]); letGo old.toList.reverse; Builtin.List.listExtendWith (.ref S) (.ref r) .none) _ _ s
  unfold Builtin.List.listItems
  refine wpAny_bind (wpAny_bind (wpAny_seqItems hS rfl (wpAny_pure ?_)))
  show wpAny _ _ (updateSeq S (fun _ => #[]) >>= fun _ => letGo (#[] : Array Value).toList.reverse >>= fun _ => Builtin.List.listExtendWith (.ref S) (.ref r) .none) _ _ s
  refine wpAny_bind (wpAny_updateSeq hS rfl (wpAny_bind (wpAny_letGo ?_)))
  have oth : ∀ {b : Addr} {o : Obj}, b ≠ S → s.heap.get? b = some o → (s.heap.update S (Obj.mapSeq (fun _ => (#[] : Array Value)))).get? b = some o :=
    fun hb e => by rw [Heap.get?_update_other _ _ (Ne.symm hb)]; exact e
  refine long_extend hh (oth (Ne.symm nSr) hr) hbig hn hlen S .none _ (Heap.get?_update_self _ hS rfl) fun h' tk acc' c' hk hS' hacc => ?_
  exact hR h' tk acc' c' (fun b o hb e => hk b o hb (oth hb e)) hS' hacc
theorem call_list_rangeL {Q : Value → Shared → Prop} {r : Addr} {a b c : Int} {t u v : Tok} {n : Nat} (hh : A.handled = none) (hr : IsRange s.heap r a b c t u v) (hn : Builtin.Range.rangeSize a b c = n) (hlen : n ≤ 2 ^ 24)
    (hQ : ∀ h' tk acc' c', (∀ b o, s.heap.get? b = some o → h'.get? b = some o) → h'.get? s.heap.objs.size = some { cls := .type "list", dict := none, data := .seq acc' c', slots := #[] } → ItemsOf (fun i v => ∃ t, v = .int (a + i * c) t) acc' n → Q (.ref s.heap.objs.size) { s with heap := h', toks := tk }) :
    wpAny (model prog w) A (call (.type "list") [.ref r]) Q E s := by
  by_cases hs : Builtin.Range.small a b c = true
  · exact call_list_range hh hr hs hn hlen hQ
  · refine callType_codes (Q₁ := fun obj s₁ => obj = .ref s.heap.objs.size ∧ s₁ = { s with heap := s.heap.push { cls := .type "list", data := .seq #[] } }) F.called_list (F.typeCall_list_1 _) F.entry_list_init (code_list_new _ ⟨rfl, rfl⟩) fun obj s₁ h₁ => ?_
    obtain ⟨rfl, rfl⟩ := h₁
    have hS : (s.heap.push { cls := .type "list", data := .seq #[] }).get? s.heap.objs.size = some { cls := .type "list", data := .seq #[] } := Heap.get?_push_size _ rfl
    exact ⟨⟨_, hS, rfl⟩, F.args_list_init_2 _ _, long_init (A := A.in1) hh (Heap.get?_push_of_some _ hr) (Bool.eq_false_iff.mpr hs) hn hlen _ hS fun h' tk acc' c' hk hS' hacc =>
      ⟨rfl, hQ h' tk acc' c' (fun b o e => hk b o (Nat.ne_of_lt (Heap.lt_size e)) (Heap.get?_push_of_some _ e)) hS' hacc⟩⟩
end
/-- the ints a .. b - 1 -/
def rgI (a b : Int) : List Int := (List.range (b - a).toNat).map fun i => a + (i : Nat)
theorem rgI_len (a b : Int) : (rgI a b).length = (b - a).toNat := by unfold rgI; rw [List.length_map, List.length_range]
theorem rgI_V (a b : Int) : (rgI a b).map V.int = rgV a b := by unfold rgI rgV; rw [List.map_map]; rfl
def tLstRgL (te : L2.St → Hp → (Int → Int → Hp → Prop) → Prop) : TE := fun σ H Q => te σ H fun a b H1 => (b - a).toNat ≤ 2 ^ 24 ∧ ∀ q, H1 q = none → Q (.ref q) (upd H1 q (.lst ((rgI a b).map V.int)))
/-- list(range(..)) -/
theorem pe_listRgL {X : Cx} {e : Expr} {te : L2.St → Hp → (Int → Int → Hp → Prop) → Prop} {p pos : Pos} (hc : X.calm = true) (hg : Gl X "list") (hm : X.mg "list" = none) (he : PRg X e te) (na : starEach [e] X.env = (false, eval e X.env) :: starEach [] X.env := by rfl) : PE X (.Call (.Name "list" p) [e] [] pos) (tLstRgL te) := by
  refine ⟨fun pins s σ H Q I h => ?_⟩
  refine Call_ (ld_blt I hg hm boot_list (PyProof.Rows.callWith_type1 (args_cons (thn (he pins s σ H _ I h) fun x s1 ⟨r, a, b, t, u, v, H1, ex, hr, I1, ok, q⟩ => args_nil ?_) na) na))
  subst ex
  refine call_list_rangeL (n := (b - a).toNat) (I1.ok.hd hc) hr (rangeSize_nat a b) ok fun h' tk acc c' hk e' hi => ?_
  have hz : ((rgI a b).map V.int).length ≤ sizeLine := by rw [List.length_map, rgI_len, sizeLine_eq]; omega
  refine ⟨.ref s1.heap.objs.size, _, I1.laid hk (Nat.le_refl _) (show ObjOk X.prog X.w _ _ _ (.lst ((rgI a b).map V.int)) from ⟨hz, acc.toList, c', by rw [rgI_V]; exact vals_rg hi, by rw [Array.toArray_toList]; exact e'⟩), rfl, q _ (I1.hok.fresh (Nat.le_refl _))⟩
section
variable {ta tb : TE} {σ : L2.St} {H : Hp} {Q : VK} {K : PySem.W.Frag}
theorem go_lstRg (h : ta σ H fun x H1 => tb σ H1 fun y H2 => ∃ i j, x = .int i ∧ y = .int j ∧ (j - i).toNat ≤ 2 ^ 24 ∧ ∀ q, H2 q = none → Q (.ref q) (upd H2 q (.lst ((rgI i j).map V.int)))) : tLstRgL (tRg2 ta tb) σ H Q := h
theorem go_lstRgV {i j : Int} {P : Int → Int → Prop} (h : P i j) : ∃ i' j' : Int, V.int i = .int i' ∧ V.int j = .int j' ∧ P i' j' := ⟨i, j, rfl, rfl, h⟩
theorem go_minL {p : Addr} {ns : List Int} (e : SqL K H p (ns.map V.int)) (l : 0 < ns.length) (h : ∀ m, m ∈ ns → (∀ y, y ∈ ns → m ≤ y) → Q (.int m) H) : rMin K [.ref p] H Q := ⟨p, ns, rfl, e, l, h⟩
end
/-! ### the plain law of such lists -/
theorem rgI_nil {a b : Int} (h : b ≤ a) : rgI a b = [] := by
  unfold rgI
  have : (b - a).toNat = 0 := by omega
  rw [this]; rfl
theorem rgI_snoc {a b : Int} (h : a ≤ b) : rgI a (b + 1) = rgI a b ++ [b] := by
  unfold rgI
  have e : (b + 1 - a).toNat = (b - a).toNat + 1 := by omega
  rw [e, List.range_succ, List.map_append]
  have : a + (((b - a).toNat : Nat) : Int) = b := by omega
  rw [List.map_cons, List.map_nil, this]
theorem rgI_app {a b : Int} (h : a ≤ b) : ∀ n : Nat, rgI a b ++ rgI b (b + n) = rgI a (b + n)
  | 0 => by rw [show b + ((0 : Nat) : Int) = b by omega, rgI_nil (Int.le_refl b), List.append_nil]
  | n + 1 => by
    have e : b + ((n + 1 : Nat) : Int) = (b + n) + 1 := by omega
    rw [e, rgI_snoc (a := b) (by omega), rgI_snoc (a := a) (by omega), ← List.append_assoc, rgI_app h n]
theorem rgI_cat {a b c : Int} (h : a ≤ b) (k : b ≤ c) : rgI a b ++ rgI b c = rgI a c := by
  have := rgI_app h (c - b).toNat
  rwa [show b + (((c - b).toNat : Nat) : Int) = c by omega] at this
theorem rgI_last {a b : Int} (h : a ≤ b) : (rgI a (b + 1))[(b - a).toNat]? = some b := by
  rw [rgI_snoc h, List.getElem?_append_right (by rw [rgI_len]; exact Nat.le_refl _), rgI_len]
  simp
theorem rgI_get {a b : Int} {i : Nat} {x : Int} (h : (rgI a b)[i]? = some x) : x = a + i ∧ a + i < b := by
  unfold rgI at h
  rw [List.getElem?_map] at h
  cases e : (List.range (b - a).toNat)[i]? with
  | none => rw [e] at h; cases h
  | some k =>
    rw [e] at h
    obtain ⟨hk, rfl⟩ := List.getElem?_eq_some_iff.mp e
    rw [List.getElem_range] at h
    rw [List.length_range] at hk
    cases h
    exact ⟨rfl, by omega⟩
end Vc

local macro_rules | `(tactic| walk_at "go1") => `(tactic| first
  | with_reducible refine Vc.go_seq ?_
  | with_reducible refine Vc.go_asg ?_
  | with_reducible refine Vc.go_name ?_
  | ((with_reducible refine' Vc.go_var ?hv ?_); (case hv => rfl))
  | with_reducible refine Vc.go_c ?_
  | with_reducible refine Vc.go_op ?_
  | with_reducible refine Vc.go_un ?_
  | with_reducible refine Vc.go_cb ?_
  | with_reducible refine Vc.go_cons ?_
  | with_reducible refine Vc.go_nil ?_
  | with_reducible refine Vc.go_dget ?_
  | with_reducible refine Vc.go_drop ?_
  | with_reducible refine Vc.go_chain ?_
  | with_reducible refine Vc.go_cvalR ?_
  | with_reducible refine Vc.go_fld ?_
  | with_reducible refine Vc.go_sfld ?_
  | with_reducible refine Vc.go_make ?_
  | with_reducible refine Vc.go_meth ?_
  | with_reducible refine Vc.go_dc ?_
  | with_reducible refine Vc.go_lenSet ?_
  | ((with_reducible refine' Vc.go_aug ?hv ?_); (case hv => rfl))
  | with_reducible refine Vc.go_ipI ?_
  | ((with_reducible refine' Vc.go_addS ?l ?_); (case l => walk_at "ln"))
  | with_reducible refine Vc.go_M1 ?_
  | with_reducible refine Vc.go_M0 ?_
  | with_reducible refine Vc.go_isS ?_
  | with_reducible refine Vc.go_sub ?_
  | ((with_reducible refine' Vc.go_tupD ?e ?_); (case e => walk_at "hs"))
  | ((with_reducible refine' Vc.go_tupDT ?e ?_); (case e => walk_at "hs"))
  | ((with_reducible refine' Vc.go_lstDO ?e ?_); (case e => assumption))
  | ((with_reducible refine' Vc.go_lstD ?e ?_); (case e => walk_at "hs"))
  | ((with_reducible refine' Vc.go_lstDT ?e ?_); (case e => walk_at "hs"))
  | with_reducible refine Vc.go_strE ?_
  | with_reducible refine Vc.go_sign ?_
  | with_reducible refine Vc.go_for ?_
  | with_reducible refine Vc.go_iList ?_
  | with_reducible refine Vc.go_iTup ?_
  | with_reducible refine Vc.go_iRng1 ?_
  | with_reducible refine Vc.go_iRng2 ?_
  | with_reducible refine Vc.go_iStr ?_
  | with_reducible refine Vc.go_lc ?_
  | with_reducible refine Vc.go_disp ?_
  | with_reducible refine Vc.go_pairs ?_
  | with_reducible refine Vc.go_pairs0 ?_
  | with_reducible refine' L2.iteT ?_
  | with_reducible refine' L2.iteF ?_
  | with_reducible refine' Vc.go_neL ?_
  | with_reducible refine' Vc.go_nNone ?_
  | with_reducible refine' Vc.go_nSome ?_
  | with_reducible refine' Vc.go_None ?_
  | with_reducible refine' Vc.go_Some ?_
  | with_reducible refine' Vc.go_eqL ?_
  | with_reducible refine' Vc.go_nT ?_
  | with_reducible refine' Vc.go_nF ?_
  | with_reducible refine Vc.go_ret ?_
  | with_reducible refine Vc.go_retN ?_
  | with_reducible refine Vc.go_next ?_
  | with_reducible refine Vc.go_ifS ?_
  | with_reducible refine Vc.go_test ?_
  | with_reducible refine Vc.go_B ?_
  | with_reducible refine Vc.go_bl ?_
  | with_reducible refine Vc.go_blP ?_
  | with_reducible refine Vc.go_notT ?_
  | with_reducible refine Vc.go_andT ?_
  | with_reducible refine Vc.go_orT ?_
  | with_reducible refine Vc.go_yes ?_
  | with_reducible refine Vc.go_andV ?_
  | with_reducible refine Vc.go_orV ?_
  | with_reducible refine Vc.go_notV ?_
  | with_reducible refine Vc.go_if ?_
  | with_reducible refine Vc.go_I0 ?_
  | with_reducible refine Vc.go_U ?_
  | ((with_reducible refine' Vc.go_I ?hc ?_); (case hc => walk_at "side"))
  | with_reducible refine Vc.go_eqI ?_
  | with_reducible refine Vc.go_neI ?_
  | with_reducible refine Vc.go_eqS ?_
  | with_reducible refine Vc.go_neS ?_
  | with_reducible refine Vc.go_eqB ?_
  | with_reducible refine Vc.go_neB ?_
  | ((with_reducible refine' Vc.go_isi ?ht ?hk ?_); (case ht => walk_at "ty"); (case hk => walk_at "kit"))
  | ((with_reducible refine' Vc.go_isiT2 ?ht ?e ?hk ?hk2 ?hc ?_); (case ht => walk_at "ty"); (case e => walk_at "hs"); (case hk => walk_at "kit"); (case hk2 => walk_at "kit"); (case hc => first | exact Vc.or_t | exact Vc.or_f))
  | with_reducible refine Vc.go_isN ?_
  | with_reducible refine' Vc.go_iteNT ?_
  | ((with_reducible refine' Vc.go_iteN ?h ?_); (case h => (intro z; cases z)))
  | ((with_reducible refine' Vc.go_cval ?hr ?hv ?_); (case hr => assumption); (case hv => assumption))
  | ((with_reducible refine' Vc.go_fldV ?e ?hl ?c ?n ?_); (case e => walk_at "hs"); (case hl => walk_at "fl"); (case c => assumption); (case n => assumption))
  | ((with_reducible refine' Vc.go_sfldV ?e ?l ?c ?n ?_); (case e => walk_at "hs"); (case l => walk_at "fn"); (case c => assumption); (case n => assumption))
  | ((with_reducible refine' Vc.go_methV ?e ?l ?_); (case e => walk_at "hs"); (case l => walk_at "fl"))
  | ((with_reducible refine' Vc.go_lenD ?e ?_); (case e => walk_at "hs"))
  | ((with_reducible refine' Vc.go_listD ?e ?_); (case e => walk_at "hs"))
  | ((with_reducible refine' Vc.go_lenS ?l ?_); (case l => walk_at "ln"))
  | ((with_reducible refine' Vc.go_dgetIF ?he ?hv ?_); (case he => walk_at "hs"); (case hv => walk_at "dv"))
  | ((with_reducible refine' Vc.go_inL ?e ?hx ?hf ?_); (case e => walk_at "hs"); (case hx => rfl); (case hf => walk_at "flat"))
  | ((with_reducible refine' Vc.go_inT ?e ?hx ?hf ?_); (case e => walk_at "hs"); (case hx => rfl); (case hf => walk_at "flat"))
  | ((with_reducible refine' Vc.go_niL ?e ?hx ?hf ?_); (case e => walk_at "hs"); (case hx => rfl); (case hf => walk_at "flat"))
  | ((with_reducible refine' Vc.go_niT ?e ?hx ?hf ?_); (case e => walk_at "hs"); (case hx => rfl); (case hf => walk_at "flat"))
  | with_reducible refine Vc.go_call ?_
  | with_reducible refine Vc.go_raiseT ?_
  | with_reducible refine Vc.go_mkO ?_
  | with_reducible refine Vc.go_err1 ?_
  | with_reducible refine Vc.go_err2 ?_
  | with_reducible refine Vc.go_callS ?_
  | with_reducible refine Vc.go_callI ?_
  | with_reducible refine Vc.go_methS ?_
  | with_reducible refine Vc.go_makeS ?_
  | with_reducible refine Vc.go_callIK ?_
  | with_reducible refine Vc.go_refE ?_
  | ((with_reducible refine' Vc.go_insD ?e ?_); (case e => walk_at "hs"))
  | with_reducible refine Vc.go_xfX ?_
  | ((with_reducible refine' Vc.go_xfXV ?T ?n ?e ?l ?_); (case T => assumption); (case n => assumption); (case e => walk_at "hs"); (case l => walk_at "fl"))
  | ((with_reducible refine' Vc.go_isXC ?C ?d ?k ?_); (case C => assumption); (case d => ((with_reducible refine' Vc.xdAt ?e); (case e => walk_at "hs"))); (case k => assumption))
  | ((with_reducible refine' Vc.go_isXT ?C ?d ?k ?_); (case C => assumption); (case d => ((with_reducible refine' Vc.xdAt ?e); (case e => walk_at "hs"))); (case k => assumption))
  | with_reducible refine Vc.go_iRngL ?_
  | with_reducible refine Vc.go_iRngLV ?_
  | with_reducible refine Vc.go_lstRg ?_
  | with_reducible refine Vc.go_lstRgV ?_
  | with_reducible refine Vc.go_tryX ?_
  | with_reducible refine Vc.go_setP ?_
  | ((with_reducible refine' Vc.go_setPV ?e ?_); (case e => walk_at "hs"))
  | with_reducible refine Vc.go_prop ?_
  | with_reducible refine Vc.go_makeK ?_
  | with_reducible refine Vc.go_make0 ?_
  | with_reducible refine Vc.go_xfT ?_
  | ((with_reducible refine' Vc.go_xfTV ?E ?T ?n ?l ?_); (case E => walk_at "bd"); (case T => assumption); (case n => assumption); (case l => walk_at "fl"))
  | ((with_reducible refine' Vc.go_isTC ?E ?C ?k ?_); (case E => walk_at "bd"); (case C => assumption); (case k => assumption))
  | ((with_reducible refine' Vc.go_isTT ?E ?C ?k ?_); (case E => walk_at "bd"); (case C => assumption); (case k => assumption))
  | with_reducible refine Vc.go_tryAs ?_
  | with_reducible refine Vc.go_tryOnly ?_
  | with_reducible refine Vc.go_tup ?_
  | with_reducible refine Vc.go_lst ?_
  | with_reducible refine Vc.go_dnew ?_
  | with_reducible refine Vc.go_din ?_
  | with_reducible refine Vc.go_dnotin ?_
  | with_reducible refine Vc.go_dput ?_
  | with_reducible refine Vc.go_sl ?_
  | with_reducible refine Vc.go_nopart ?_
  | with_reducible refine Vc.go_part ?_
  | with_reducible refine Vc.go_partI ?_
  | with_reducible refine Vc.go_bm ?_
  | with_reducible refine Vc.go_bm0 ?_
  | with_reducible refine Vc.go_abs ?_
  | with_reducible refine Vc.go_int1 ?_
  | with_reducible refine Vc.go_int1b ?_
  | ((with_reducible refine' Vc.go_dgetS ?he ?hv ?_); (case he => walk_at "hs"); (case hv => walk_at "dv"))
  | ((with_reducible refine' Vc.go_dgetI ?he ?hv ?_); (case he => walk_at "hs"); (case hv => walk_at "dv"))
  | ((with_reducible refine' Vc.go_dputS ?he ?hl ?_); (case he => walk_at "hs"); (case hl => walk_at "ln"))
  | ((with_reducible refine' Vc.go_dputI ?he ?hl ?_); (case he => walk_at "hs"); (case hl => walk_at "ln"))
  | ((with_reducible refine' Vc.go_dinI ?he ?_); (case he => walk_at "hs"))
  | with_reducible refine Vc.go_methK ?_
  | with_reducible refine Vc.go_callK ?_
  | ((with_reducible refine' Vc.go_lenL ?he ?_); (case he => walk_at "hs"))
  | ((with_reducible refine' Vc.go_lenT ?he ?_); (case he => walk_at "hs"))
  | ((with_reducible refine' Vc.go_slS ?hz ?_); (case hz => walk_at "ln"))
  | ((with_reducible refine' Vc.go_slL ?he ?_); (case he => walk_at "hs"))
  | ((with_reducible refine' Vc.go_tyL ?he ?_); (case he => walk_at "hs"))
  | ((with_reducible refine' Vc.go_len ?hl ?_); (case hl => walk_at "ln"))
  | ((with_reducible refine' Vc.go_append ?he ?hl ?_); (case he => walk_at "hs"); (case hl => walk_at "ln"))
  | ((with_reducible refine' Vc.go_ixL ?he ?hv ?_); (case he => walk_at "hs"); (case hv => walk_at "ix"))
  | ((with_reducible refine' Vc.go_ixT ?he ?hv ?_); (case he => walk_at "hs"); (case hv => walk_at "ix"))
  | ((with_reducible refine' Vc.go_ixS ?he ?hv ?_); (case he => walk_at "ln"); (case hv => walk_at "ix")))
local macro_rules | `(tactic| walk_at "kit") => `(tactic| first
  | with_reducible exact Vc.kit_int_int
  | with_reducible exact Vc.kit_int_bool
  | with_reducible exact Vc.kit_int_str
  | with_reducible exact Vc.kit_int_tuple
  | with_reducible exact Vc.kit_int_list
  | with_reducible exact Vc.kit_int_dict
  | with_reducible exact Vc.kit_bool_int
  | with_reducible exact Vc.kit_bool_bool
  | with_reducible exact Vc.kit_bool_str
  | with_reducible exact Vc.kit_bool_tuple
  | with_reducible exact Vc.kit_bool_list
  | with_reducible exact Vc.kit_bool_dict
  | with_reducible exact Vc.kit_str_int
  | with_reducible exact Vc.kit_str_bool
  | with_reducible exact Vc.kit_str_str
  | with_reducible exact Vc.kit_str_tuple
  | with_reducible exact Vc.kit_str_list
  | with_reducible exact Vc.kit_str_dict
  | with_reducible exact Vc.kit_NoneType_int
  | with_reducible exact Vc.kit_NoneType_bool
  | with_reducible exact Vc.kit_NoneType_str
  | with_reducible exact Vc.kit_NoneType_tuple
  | with_reducible exact Vc.kit_NoneType_list
  | with_reducible exact Vc.kit_NoneType_dict
  | with_reducible exact Vc.kit_list_int
  | with_reducible exact Vc.kit_list_bool
  | with_reducible exact Vc.kit_list_str
  | with_reducible exact Vc.kit_list_tuple
  | with_reducible exact Vc.kit_list_list
  | with_reducible exact Vc.kit_list_dict
  | with_reducible exact Vc.kit_tuple_int
  | with_reducible exact Vc.kit_tuple_bool
  | with_reducible exact Vc.kit_tuple_str
  | with_reducible exact Vc.kit_tuple_tuple
  | with_reducible exact Vc.kit_tuple_list
  | with_reducible exact Vc.kit_tuple_dict
  | with_reducible exact Vc.kit_dict_int
  | with_reducible exact Vc.kit_dict_bool
  | with_reducible exact Vc.kit_dict_str
  | with_reducible exact Vc.kit_dict_tuple
  | with_reducible exact Vc.kit_dict_list
  | with_reducible exact Vc.kit_dict_dict)
local macro_rules | `(tactic| walk_at "ty") => `(tactic| first
  | with_reducible exact .base (.int _)
  | with_reducible exact .base (.bl _)
  | with_reducible exact .base (.str _)
  | with_reducible exact .base .non
  | ((with_reducible refine' Vc.tyL ?h); (case h => walk_at "hs"))
  | ((with_reducible refine' Vc.tyT ?h); (case h => walk_at "hs")))
local macro_rules | `(tactic| walk_at "fl") => `(tactic| first | assumption | rfl)
local macro_rules | `(tactic| walk_at "fn") => `(tactic| first | assumption | exact (show 0 < 1000 by decide) | exact (show 1 < 1000 by decide) | exact (show 2 < 1000 by decide) | exact (show 3 < 1000 by decide) | exact (show 4 < 1000 by decide) | exact (show 5 < 1000 by decide) | exact (show 6 < 1000 by decide))
local macro_rules | `(tactic| walk_at "goo") => `(tactic| repeat (first
  | walk_at "go1"
  | ((with_reducible refine' Vc.go_iteT' ?h ?_); (case h => omega))
  | ((with_reducible refine' Vc.go_iteF' ?h ?_); (case h => omega))
  | ((with_reducible refine' Vc.go_itenT' ?h ?_); (case h => omega))
  | ((with_reducible refine' Vc.go_itenF' ?h ?_); (case h => omega))
  | ((with_reducible refine' Vc.go_iteT' ?h ?_); (case h => decide))
  | ((with_reducible refine' Vc.go_iteF' ?h ?_); (case h => decide))))
local macro_rules | `(tactic| walk_at "flat") => `(tactic| first | assumption | rfl)
local macro_rules | `(tactic| walk_at "ix") => `(tactic| first | assumption | rfl)
local macro_rules | `(tactic| walk_at "dv") => `(tactic| first | assumption | rfl)
local macro_rules | `(tactic| walk_at "ln") => `(tactic| first | assumption | (simp only [List.length_cons, List.length_nil, List.length_append, List.length_map]; omega) | decide)
local macro_rules | `(tactic| walk_at "go") => `(tactic| repeat walk_at "go1")
local macro_rules | `(tactic| walk_at "side") => `(tactic| first
  | omega
  | (dsimp only; omega)
  | exact ⟨by omega, by omega, by omega⟩
  | exact Vc.mulw (by omega) (by omega)
  | exact Vc.divw (by omega) (by omega))
local macro_rules | `(tactic| walk_at "hs") => `(tactic| first
  | assumption
  | ((with_reducible refine' Vc.Ed.at0 ?e ?h); (case e => assumption); (case h => walk_at "hs"))
  | ((with_reducible refine' Vc.Ed.at1 ?e ?n ?h); (case e => assumption); (case n => walk_at "ne"); (case h => walk_at "hs"))
  | ((with_reducible refine' Vc.Ed.at2 ?e ?n ?m ?h); (case e => assumption); (case n => walk_at "ne"); (case m => walk_at "ne"); (case h => walk_at "hs"))
  | ((with_reducible refine' Vc.frz' ?e ?h); (case e => assumption); (case h => walk_at "hs"))
  | ((with_reducible refine' L2.SqL.of ?h); (case h => walk_at "hs"))
  | ((with_reducible refine' Vc.all_sqt ?h _); (case h => assumption))
  | ((with_reducible refine' Vc.sqt_of ?h); (case h => walk_at "hs"))
  | ((with_reducible refine' Vc.Ed.sqt ?e ?h); (case e => assumption); (case h => walk_at "hs"))
  | ((with_reducible refine' Vc.Ed.sql0 ?e ?h); (case e => assumption); (case h => walk_at "hs"))
  | ((with_reducible refine' Vc.Ed.sql1 ?e ?n ?h); (case e => assumption); (case n => walk_at "ne"); (case h => walk_at "hs")))
local macro_rules | `(tactic| walk_at "ne") => `(tactic| first
  | assumption
  | ((with_reducible refine' Ne.symm ?h); (case h => assumption))
  | ((with_reducible refine' Vc.ne1 ?e ?h); (case e => assumption); (case h => walk_at "hs"))
  | ((with_reducible refine' Vc.ne2 ?e ?h); (case e => assumption); (case h => walk_at "hs"))
  | ((with_reducible refine' Vc.nek ?e ?h ?d); (case e => assumption); (case h => assumption); (case d => intro z; cases z)))
local macro_rules | `(tactic| walk_at "free") => `(tactic| first
  | assumption
  | ((with_reducible refine' Vc.Ed.back ?e ?h); (case e => assumption); (case h => walk_at "free")))
local macro_rules | `(tactic| walk_at "in") => `(tactic| first
  | ((with_reducible refine' Or.inl ?h); (case h => (simp only [List.mem_cons, List.not_mem_nil, or_false, true_or, or_true]; done)))
  | ((with_reducible refine' Or.inr ?h); (case h => walk_at "free")))
local macro_rules | `(tactic| walk_at "ed") => `(tactic| first
  | assumption
  | with_reducible exact Vc.Ed.refl
  | ((with_reducible refine' Vc.Ed.ex' ?b ?a); (case b => assumption); (case a => walk_at "ed"))
  | ((with_reducible refine' Vc.Ed.one' ?b ?a ?h); (case b => assumption); (case a => walk_at "ed"); (case h => walk_at "in"))
  | ((with_reducible refine' Vc.Ed.two' ?b ?a ?h ?g); (case b => assumption); (case a => walk_at "ed"); (case h => walk_at "in"); (case g => walk_at "in")))
local macro_rules | `(tactic| walk_at "bd") => `(tactic| first
  | assumption
  | ((with_reducible refine' Vc.ErrAt.ed0 ?e ?h); (case e => assumption); (case h => walk_at "bd")))

namespace My
open PySem PySem.Spec PyProof.Rows L2
abbrev PG : Program := PySem.Challenge.pw_codestitch_k05_units_and_chunks
def topS (i : Nat) : Stmt := PySem.Challenge.pw_codestitch_k05_units_and_chunks.main.body.getD i (.Pass ⟨0, 0, 0, 0⟩)
abbrev s_touched : Stmt := topS 6
theorem sc_touched : FnScope ["size", "low", "high"] ["size", "low", "high"] (defScope s_touched) := ⟨rfl, rfl, rfl, by decide +kernel, rfl, by decide +kernel, by decide +kernel⟩
abbrev s_Layoutu_initu : Stmt := inClass (topS 7) 2
theorem sc_Layoutu_initu : FnScope ["self", "unit", "chunk"] ["self", "unit", "chunk"] (defScope s_Layoutu_initu) := ⟨rfl, rfl, rfl, by decide +kernel, rfl, by decide +kernel, by decide +kernel⟩
abbrev s_Layout_unit : Stmt := inClass (topS 7) 3
theorem sc_Layout_unit : FnScope ["self"] ["self"] (defScope s_Layout_unit) := ⟨rfl, rfl, rfl, by decide +kernel, rfl, by decide +kernel, by decide +kernel⟩
abbrev s_Layout_chunk : Stmt := inClass (topS 7) 5
theorem sc_Layout_chunk : FnScope ["self"] ["self"] (defScope s_Layout_chunk) := ⟨rfl, rfl, rfl, by decide +kernel, rfl, by decide +kernel, by decide +kernel⟩
abbrev s_Layout_units : Stmt := inClass (topS 7) 8
theorem sc_Layout_units : FnScope ["self", "low", "high"] ["self", "low", "high"] (defScope s_Layout_units) := ⟨rfl, rfl, rfl, by decide +kernel, rfl, by decide +kernel, by decide +kernel⟩
abbrev s_Layout_chunks : Stmt := inClass (topS 7) 9
theorem sc_Layout_chunks : FnScope ["self", "low", "high"] ["self", "low", "high"] (defScope s_Layout_chunks) := ⟨rfl, rfl, rfl, by decide +kernel, rfl, by decide +kernel, by decide +kernel⟩
abbrev s_Layout_span : Stmt := inClass (topS 7) 10
theorem sc_Layout_span : FnScope ["self", "unit", "size", "low"] ["self", "unit", "size"] (defScope s_Layout_span) := ⟨rfl, rfl, rfl, by decide +kernel, rfl, by decide +kernel, by decide +kernel⟩
abbrev s__law_bag : Stmt := topS 9
theorem sc__law_bag : FnScope ["_law_script", "_law_state", "_law_cell"] ["_law_script"] (defScope s__law_bag) := ⟨rfl, rfl, rfl, by decide +kernel, rfl, by decide +kernel, by decide +kernel⟩
abbrev s__law_draw : Stmt := topS 10
theorem sc__law_draw : FnScope ["_law_bag_here", "_law_limit", "_law_cell", "_law_mixed", "_law_found"] ["_law_bag_here", "_law_limit"] (defScope s__law_draw) := ⟨rfl, rfl, rfl, by decide +kernel, rfl, by decide +kernel, by decide +kernel⟩
abbrev s__law_same : Stmt := topS 11
theorem sc__law_same : FnScope ["_law_actual", "_law_expected", "_law_k"] ["_law_actual", "_law_expected"] (defScope s__law_same) := ⟨rfl, rfl, rfl, by decide +kernel, rfl, by decide +kernel, by decide +kernel⟩
abbrev s__law_pieces : Stmt := topS 12
theorem sc__law_pieces : FnScope ["_law_size", "_law_low", "_law_high", "_law_found", "_law_address", "_law_piece"] ["_law_size", "_law_low", "_law_high"] (defScope s__law_pieces) := ⟨rfl, rfl, rfl, by decide +kernel, rfl, by decide +kernel, by decide +kernel⟩
abbrev s__law_pair : Stmt := topS 13
theorem sc__law_pair : FnScope ["_law_bag_here", "_law_size", "_law_unit", "_law_low", "_law_length"] ["_law_bag_here", "_law_size", "_law_unit"] (defScope s__law_pair) := ⟨rfl, rfl, rfl, by decide +kernel, rfl, by decide +kernel, by decide +kernel⟩
abbrev s__law_asked : Stmt := topS 14
theorem sc__law_asked : FnScope ["_law_layout", "_law_unit", "_law_chunk", "_law_size", "_law_low", "_law_high", "_law_units", "_law_held", "_law_piece", "_law_span", "_law_due", "_law_address"] ["_law_layout", "_law_unit", "_law_chunk", "_law_size", "_law_low", "_law_high"] (defScope s__law_asked) := ⟨rfl, rfl, rfl, by decide +kernel, rfl, by decide +kernel, by decide +kernel⟩
abbrev s_law : Stmt := topS 15
theorem sc_law : FnScope ["_law_script", "_law_bag_here", "_law_unit", "_law_chunk", "_law_size", "_law_low", "_law_high", "_law_layout"] ["_law_script"] (defScope s_law) := ⟨rfl, rfl, rfl, by decide +kernel, rfl, by decide +kernel, by decide +kernel⟩
abbrev s_BadLayoutu_initu : Stmt := inClass (topS 4) 0
theorem sc_BadLayoutu_initu : Vc.SupScope ["self", "part"] ["self", "part"] (defScope s_BadLayoutu_initu) := ⟨rfl, rfl, rfl, by decide +kernel, rfl, by decide +kernel, by decide +kernel, by decide +kernel, rfl, rfl⟩
structure Ad where
  C_Layout : Addr
  f_touched : Addr
  d_touched : FuncData
  f_Layoutu_initu : Addr
  d_Layoutu_initu : FuncData
  f_Layout_unit : Addr
  d_Layout_unit : FuncData
  pr_Layout_unit : Addr
  f_Layout_chunk : Addr
  d_Layout_chunk : FuncData
  pr_Layout_chunk : Addr
  f_Layout_units : Addr
  d_Layout_units : FuncData
  f_Layout_chunks : Addr
  d_Layout_chunks : FuncData
  f_Layout_span : Addr
  d_Layout_span : FuncData
  f__law_bag : Addr
  d__law_bag : FuncData
  f__law_draw : Addr
  d__law_draw : FuncData
  f__law_same : Addr
  d__law_same : FuncData
  f__law_pieces : Addr
  d__law_pieces : FuncData
  f__law_pair : Addr
  d__law_pair : FuncData
  f__law_asked : Addr
  d__law_asked : FuncData
  f_law : Addr
  d_law : FuncData
  C_BadLayout : Addr
  f_BadLayoutu_initu : Addr
  d_BadLayoutu_initu : FuncData
  a_UNITS : Addr
  a_CHUNKS : Addr
structure Txt (K : PySem.W.Frag) (mg : Str → Option Value) (A : Ad) : Prop where
  g_Layout : mg "Layout" = some (.ref A.C_Layout)
  g_touched : mg "touched" = some (.ref A.f_touched)
  F_touched : Fun K "touched" "touched" s_touched A.f_touched A.d_touched
  b_touched : Binds K A.d_touched ["size", "low", "high"] []
  F_Layoutu_initu : FunD K "__init__" "Layout.__init__" (defArgs s_Layoutu_initu) (defBody s_Layoutu_initu) (defScope s_Layoutu_initu) [.int 1, .int 1] [] A.f_Layoutu_initu A.d_Layoutu_initu
  b_Layoutu_initu : Binds K A.d_Layoutu_initu ["self", "unit", "chunk"] []
  bd1_Layoutu_initu : ∃ ds, Vals [.int 1, .int 1] ds ∧ Binds K A.d_Layoutu_initu ["self", "unit", "chunk"] ds
  bd2_Layoutu_initu : ∃ ds, Vals [.int 1] ds ∧ Binds K A.d_Layoutu_initu ["self", "unit", "chunk"] ds
  p_Layout_unit : PropOf K A.C_Layout "unit" A.pr_Layout_unit A.f_Layout_unit
  F_Layout_unit : Fun K "unit" "Layout.unit" s_Layout_unit A.f_Layout_unit A.d_Layout_unit
  b_Layout_unit : Binds K A.d_Layout_unit ["self"] []
  p_Layout_chunk : PropOf K A.C_Layout "chunk" A.pr_Layout_chunk A.f_Layout_chunk
  F_Layout_chunk : Fun K "chunk" "Layout.chunk" s_Layout_chunk A.f_Layout_chunk A.d_Layout_chunk
  b_Layout_chunk : Binds K A.d_Layout_chunk ["self"] []
  F_Layout_units : Fun K "units" "Layout.units" s_Layout_units A.f_Layout_units A.d_Layout_units
  b_Layout_units : Binds K A.d_Layout_units ["self", "low", "high"] []
  F_Layout_chunks : Fun K "chunks" "Layout.chunks" s_Layout_chunks A.f_Layout_chunks A.d_Layout_chunks
  b_Layout_chunks : Binds K A.d_Layout_chunks ["self", "low", "high"] []
  F_Layout_span : Fun K "span" "Layout.span" s_Layout_span A.f_Layout_span A.d_Layout_span
  b_Layout_span : Binds K A.d_Layout_span ["self", "unit", "size"] []
  g__law_bag : mg "_law_bag" = some (.ref A.f__law_bag)
  F__law_bag : Fun K "_law_bag" "_law_bag" s__law_bag A.f__law_bag A.d__law_bag
  b__law_bag : Binds K A.d__law_bag ["_law_script"] []
  g__law_draw : mg "_law_draw" = some (.ref A.f__law_draw)
  F__law_draw : Fun K "_law_draw" "_law_draw" s__law_draw A.f__law_draw A.d__law_draw
  b__law_draw : Binds K A.d__law_draw ["_law_bag_here", "_law_limit"] []
  g__law_same : mg "_law_same" = some (.ref A.f__law_same)
  F__law_same : Fun K "_law_same" "_law_same" s__law_same A.f__law_same A.d__law_same
  b__law_same : Binds K A.d__law_same ["_law_actual", "_law_expected"] []
  g__law_pieces : mg "_law_pieces" = some (.ref A.f__law_pieces)
  F__law_pieces : Fun K "_law_pieces" "_law_pieces" s__law_pieces A.f__law_pieces A.d__law_pieces
  b__law_pieces : Binds K A.d__law_pieces ["_law_size", "_law_low", "_law_high"] []
  g__law_pair : mg "_law_pair" = some (.ref A.f__law_pair)
  F__law_pair : Fun K "_law_pair" "_law_pair" s__law_pair A.f__law_pair A.d__law_pair
  b__law_pair : Binds K A.d__law_pair ["_law_bag_here", "_law_size", "_law_unit"] []
  g__law_asked : mg "_law_asked" = some (.ref A.f__law_asked)
  F__law_asked : Fun K "_law_asked" "_law_asked" s__law_asked A.f__law_asked A.d__law_asked
  b__law_asked : Binds K A.d__law_asked ["_law_layout", "_law_unit", "_law_chunk", "_law_size", "_law_low", "_law_high"] []
  g_law : mg "law" = some (.ref A.f_law)
  F_law : Fun K "law" "law" s_law A.f_law A.d_law
  b_law : Binds K A.d_law ["_law_script"] []
  cl_Layout : Cls K A.C_Layout
  mk_Layout : Mk K A.C_Layout A.f_Layoutu_initu
  m_Layout_units : Meth K A.C_Layout "units" A.f_Layout_units
  m_Layout_chunks : Meth K A.C_Layout "chunks" A.f_Layout_chunks
  m_Layout_span : Meth K A.C_Layout "span" A.f_Layout_span
  no_Layout_held_unit : NoAttr K A.C_Layout "held_unit"
  no_Layout_held_chunk : NoAttr K A.C_Layout "held_chunk"
  n_len : mg "len" = none
  n_abs : mg "abs" = none
  n_int : mg "int" = none
  n_list : mg "list" = none
  n_range : mg "range" = none
  n_isinstance : mg "isinstance" = none
  n_bool : mg "bool" = none
  n_str : mg "str" = none
  n_tuple : mg "tuple" = none
  n_all : mg "all" = none
  n_set : mg "set" = none
  n_sorted : mg "sorted" = none
  n_min : mg "min" = none
  n_ValueError : mg "ValueError" = none
  g_BadLayout : mg "BadLayout" = some (.ref A.C_BadLayout)
  ox_BadLayout : OexC K A.C_BadLayout
  i_BadLayout : PySem.W.findIn K (.ref A.C_BadLayout) "__init__" = some (some (.ref A.f_BadLayoutu_initu))
  ti_BadLayout : PySem.W.typeIn K (.ref A.f_BadLayoutu_initu) = some (.type "function")
  no_BadLayout_part : PySem.W.findIn K (.ref A.C_BadLayout) "part" = some none
  xf_BadLayout : XfC K A.C_BadLayout
  ec_BadLayout : ExcC K A.C_BadLayout
  F_BadLayoutu_initu : Vc.FunS PySem.Challenge.pw_codestitch_k05_units_and_chunks K mg "__init__" "BadLayout.__init__" s_BadLayoutu_initu A.f_BadLayoutu_initu A.d_BadLayoutu_initu A.C_BadLayout "self"
  b_BadLayoutu_initu : Binds K A.d_BadLayoutu_initu ["self", "part"] []
  cr_Layout : ClX.CRead K A.C_Layout (.type "type")
  cv_UNITS : ClX.CVal K A.C_Layout (.type "type") "UNITS" (.ref A.a_UNITS) (.ref A.a_UNITS)
  q_UNITS : ∀ H, SqT K H A.a_UNITS [.int 1, .int 2, .int 4, .int 8]
  cv_CHUNKS : ClX.CVal K A.C_Layout (.type "type") "CHUNKS" (.ref A.a_CHUNKS) (.ref A.a_CHUNKS)
  q_CHUNKS : ∀ H, SqT K H A.a_CHUNKS [.int 1, .int 2, .int 4, .int 8, .int 16]
end My
namespace My
open PySem PySem.Spec PyProof.Rows L2
theorem ok_BadLayoutu_initu {w : World} {K : PySem.W.Frag} {mg : Str → Option Value} {base : Heap} {A : Ad} (T : Txt K mg A) : FnOk PySem.Challenge.pw_codestitch_k05_units_and_chunks w K mg base CX0 1 A.f_BadLayoutu_initu A.d_BadLayoutu_initu ["self", "part"] (Vc.spErr1 A.C_BadLayout "part") := by
  refine T.F_BadLayoutu_initu.ok sc_BadLayoutu_initu T.ox_BadLayout rfl rfl rfl (fun vs H Q E h => ?_) (fun X => pe_str) (fun _ _ _ => rfl) (fun _ _ _ => rfl) (fun _ _ _ => rfl) (fun _ _ _ => rfl) (fun cda cc Ar outer s H vs Q E h => ?_)
  · obtain ⟨_, _, rfl, _⟩ := h
    rfl
  · obtain ⟨a, h1, h2, h3⟩ := Vc.err_ends1 T.ox_BadLayout T.no_BadLayout_part h
    exact ⟨a, h1, h2, _, pss_one (ps_ost (pv 0) (pv 1)), h3⟩
end My
namespace My
open PySem PySem.Spec PyProof.Rows L2
/-! ### the bag: what a script's draws come from -/
def bagK (c : Addr) (a r s : Int) : List (Key × V) := [(.inr "cells", .ref c), (.inr "at", .int a), (.inr "rest", .int r), (.inr "state", .int s)]
theorem bag_cells {c a r s} : valV (bagK c a r s) (.inr "cells") = some (.ref c) := by rfl
theorem bag_at {c a r s} : valV (bagK c a r s) (.inr "at") = some (.int a) := by rfl
theorem bag_rest {c a r s} : valV (bagK c a r s) (.inr "rest") = some (.int r) := by rfl
theorem bag_state {c a r s} : valV (bagK c a r s) (.inr "state") = some (.int s) := by rfl
theorem bag_put_at {c a r s x} : putK (bagK c a r s) (.inr "at") (.int x) = bagK c x r s := by rfl
theorem bag_put_rest {c a r s x} : putK (bagK c a r s) (.inr "rest") (.int x) = bagK c a x s := by rfl
theorem bag_put_state {c a r s x} : putK (bagK c a r s) (.inr "state") (.int x) = bagK c a r x := by rfl
local macro_rules | `(tactic| walk_at "dv") => `(tactic| first | exact bag_cells | exact bag_at | exact bag_rest | exact bag_state | assumption | rfl)
theorem bag_n {c a r s} : (bagK c a r s).length ≤ 1000 := by show 4 ≤ 1000; decide
local macro_rules | `(tactic| walk_at "ln") => `(tactic| first | exact bag_n | assumption | (simp only [List.length_cons, List.length_nil, List.length_append, List.length_map]; omega) | decide)
structure BagS (H : Hp) (b c : Addr) (ns : List Int) (a r s : Int) : Prop where
  ob : H b = some (.dK (bagK c a r s))
  cl : H c = some (.lst (ns.map V.int))
  len : ns.length ≤ 63
  a0 : 0 ≤ a
  a1 : a ≤ ns.length
  r0 : 0 ≤ r
  s0 : 0 ≤ s
  s1 : s < 2147483647
def Bag (H : Hp) (b c : Addr) : Prop := ∃ ns a r s, BagS H b c ns a r s
theorem Bag.ed {H H' : Hp} {b c : Addr} {S : List Addr} (h : Bag H b c) (e : Vc.Ed S H H') (hb : b ∉ S) (hc : c ∉ S) : Bag H' b c := by
  obtain ⟨ns, a, r, s, B⟩ := h
  exact ⟨ns, a, r, s, e.keep _ _ hb B.ob, e.keep _ _ hc B.cl, B.len, B.a0, B.a1, B.r0, B.s0, B.s1⟩
theorem Bag.ed0 {H H' : Hp} {b c : Addr} (e : Vc.Ed [] H H') (h : Bag H b c) : Bag H' b c := h.ed e (fun z => nomatch z) (fun z => nomatch z)
theorem Bag.ed1 {H H' : Hp} {b c p : Addr} (e : Vc.Ed [p] H H') (hb : b ≠ p) (hc : c ≠ p) (h : Bag H b c) : Bag H' b c :=
  h.ed e (fun z => hb (List.mem_singleton.mp z)) (fun z => hc (List.mem_singleton.mp z))
theorem Bag.ne {H : Hp} {b c : Addr} (h : Bag H b c) : b ≠ c := by
  obtain ⟨ns, a, r, s, B⟩ := h
  exact ne_of B.ob B.cl (by intro z; cases z)
theorem Bag.fb {H : Hp} {b c p : Addr} (h : Bag H b c) (n : H p = none) : b ≠ p ∧ c ≠ p := by
  obtain ⟨ns, a, r, s, B⟩ := h
  exact ⟨ne_of_none B.ob n, ne_of_none B.cl n⟩
theorem cut_ns {ns : List Int} (h : ns.length ≤ 63) : cutV (ns.map V.int) none (some 63) = ns.map V.int := by
  have e := Vc.cut_take (ns.map V.int) 63
  rw [List.take_of_length_le (by rw [List.length_map]; exact h)] at e
  exact e
def spBag (K : PySem.W.Frag) : Sp := fun vs H Q _ => ∃ (p : Addr) (ns : List Int), vs = [.ref p] ∧ SqL K H p (ns.map V.int) ∧ ns.length ≤ 63 ∧
  ∀ b c H', Vc.Ed [] H H' → Bag H' b c → H b = none → H c = none → Q (.ref b) H'
def spDraw : Sp := fun vs H Q _ => ∃ (b c : Addr) (n : Int), vs = [.ref b, .int n] ∧ Bag H b c ∧ 1 ≤ n ∧ n < 2 ^ 190 ∧
  ∀ i H', 0 ≤ i → i < n → Vc.Ed [b] H H' → Bag H' b c → Q (.int i) H'
section
variable {P : Program} {w : World} {K : PySem.W.Frag} {mg : Str → Option Value} {base : Heap} {A : Ad}
theorem ok__law_draw (T : Txt K mg A) : FnOk P w K mg base CX0 1 A.f__law_draw A.d__law_draw ["_law_bag_here", "_law_limit"] spDraw := by
  refine T.F__law_draw.ok sc__law_draw (fun vs H Q E h => ?_) (fun cdv Ar outer s H vs Q E hr h => ?_)
  · obtain ⟨b, c, n, rfl, _⟩ := h
    rfl
  · obtain ⟨b, c, n, rfl, hB, n1, n2, k⟩ := h
    have hu := hu_of hr
    refine ⟨_, (Evl.pss_cut (ps_while PassesOwn.never (PW.pt (pw_and (pt_cmpR op_lt (pe_dget (by exact hu) (pv 0) pe_str (fun _ _ => rfl)) pe_int (nomark _)) (pw_and1 (pt_cmpR op_lt (pe_dget (by exact hu) (pv 0) pe_str (fun _ _ => rfl)) (pe_callB call_len_seq (by rfl) T.n_len (by decide +kernel) (pa_cons (pe_dget (by exact hu) (pv 0) pe_str (fun _ _ => rfl)) pa_nil)) (nomark _))))) (pss_cons (ps_set (i := 2) sc__law_draw.nd rfl (Or.inl rfl) (pe_callB call_abs (by rfl) T.n_abs (by decide +kernel) (pa_cons (pe_ix ix_list (pe_dget (by exact hu) (pv 0) pe_str (fun _ _ => rfl)) (pe_dget (by exact hu) (pv 0) pe_str (fun _ _ => rfl)) (fun _ _ => rfl)) pa_nil))) (pss_cons (ps_dput (by exact hu) (pv 0) pe_str (pe_op op_add (pe_dget (by exact hu) (pv 0) pe_str (fun _ _ => rfl)) pe_int) rfl) (pss_cons (ps_if (pt_cmpR op_lt (pv 2) (pe_op op_pow pe_int pe_int) (nomark _)) (pss_cons (ps_set (i := 3) sc__law_draw.nd rfl (Or.inl rfl) (pe_op op_mod (pe_callTy call_int1 (by rfl) T.n_int (by decide +kernel) (pa_cons (pe_op op_add (pe_op op_pow (pe_op op_add (pv 2) pe_int) pe_int) (pe_op op_mulW (pe_dget (by exact hu) (pv 0) pe_str (fun _ _ => rfl)) (pe_op op_add (pe_dget (by exact hu) (pv 0) pe_str (fun _ _ => rfl)) pe_int))) pa_nil)) pe_int)) (pss_one (ps_ret (pe_op op_mod (pv 3) (pv 1))))) pss_nil) (pss_one (ps_dput (by exact hu) (pv 0) pe_str (pv 2) rfl)))))) (pss_cons (ps_if (pt_cmpR op_ge (pe_dget (by exact hu) (pv 0) pe_str (fun _ _ => rfl)) pe_int (nomark _)) (pss_cons (ps_set (i := 4) sc__law_draw.nd rfl (Or.inl rfl) (pe_op op_mod (pe_callTy call_int1 (by rfl) T.n_int (by decide +kernel) (pa_cons (pe_dget (by exact hu) (pv 0) pe_str (fun _ _ => rfl)) pa_nil)) (pv 1))) (pss_cons (ps_dput (by exact hu) (pv 0) pe_str (pe_op op_fdivW (pe_dget (by exact hu) (pv 0) pe_str (fun _ _ => rfl)) (pv 1)) rfl) (pss_one (ps_ret (pv 4))))) pss_nil) (pss_cons (ps_dput (by exact hu) (pv 0) pe_str (pe_op op_mod (pe_callTy call_int1 (by rfl) T.n_int (by decide +kernel) (pa_cons (pe_op op_add (pe_op op_mulW (pe_dget (by exact hu) (pv 0) pe_str (fun _ _ => rfl)) pe_int) pe_int) pa_nil)) pe_int) rfl) (pss_one (ps_ret (pe_op op_mod (pe_op op_mod (pe_callTy call_int1 (by rfl) T.n_int (by decide +kernel) (pa_cons (pe_op op_pow (pe_dget (by exact hu) (pv 0) pe_str (fun _ _ => rfl)) pe_int) pa_nil)) pe_int) (pv 1))))))), ?_⟩
    obtain ⟨ns, a, r, s, B⟩ := hB
    refine Evl.q_cut (M := fun σ H' => ∃ y3 y4 a r s, σ = [some (.ref b), some (.int n), y3, y4, none] ∧ BagS H' b c ns a r s ∧ Vc.Ed [b] H H') ?_ ?_
    · -- the loop
      refine ⟨fun m σ H' => ∃ y3 y4 a r s, σ = [some (.ref b), some (.int n), y3, y4, none] ∧ BagS H' b c ns a r s ∧ Vc.Ed [b] H H' ∧ m = ns.length - a.toNat, ⟨_, none, none, a, r, s, rfl, B, Vc.Ed.refl, rfl⟩, ?_⟩
      rintro m σ H1 ⟨y3, y4, a, r, s, rfl, B, e1, rfl⟩
      obtain ⟨hb, hc, hl, ha, ha1, hr0, hs0, hs1⟩ := id B
      walk_at "go"
      refine Vc.go_ite (fun h1 => ?_) (fun h1 => ?_)
      · walk_at "go"
        refine Vc.go_ite (fun h2 => ?_) (fun h2 => ?_)
        · rw [List.length_map] at h2
          refine ⟨fun σ' H' => ∃ y3 y4 a' r s, σ' = [some (.ref b), some (.int n), y3, y4, none] ∧ BagS H' b c ns a' r s ∧ Vc.Ed [b] H H' ∧ ns.length - a'.toNat < ns.length - a.toNat, ?_, ?_⟩
          · rintro σ' H' ⟨y3, y4, a', r, s, e, B', e', l⟩
            exact ⟨_, l, y3, y4, a', r, s, e, B', e', rfl⟩
          have hi : (ns.map V.int)[a.toNat]? = some (.int (ns.getD a.toNat 0)) := by
            rw [List.getElem?_map, List.getElem?_eq_getElem (by omega)]
            simp [List.getD, List.getElem?_eq_getElem (show a.toNat < ns.length by omega)]
          have hx : atI (ns.map V.int) a = some (.int (ns.getD a.toNat 0)) := at_of (by omega) hi
          generalize ns.getD a.toNat 0 = cell at hx
          walk_at "go"
          rw [bag_put_at]
          generalize hu2 : upd _ b _ = H2
          obtain ⟨e2, hb2⟩ := Vc.chg hu2 hb
          generalize hce : (if cell < 0 then -cell else cell) = cl
          have hc0 : 0 ≤ cl := by rw [← hce]; split <;> omega
          walk_at "go"
          refine Vc.go_ite (fun h3 => ?_) (fun h3 => ?_)
          · simp only [Int.reduceToNat, Int.reducePow] at h3
            walk_at "go"
            exact k _ _ (Int.emod_nonneg _ (by omega)) (Int.emod_lt_of_pos _ (by omega)) (by walk_at "ed") ⟨ns, a + 1, r, s, hb2, by walk_at "hs", hl, by omega, by omega, hr0, hs0, hs1⟩
          · walk_at "go"
            rw [bag_put_rest]
            generalize hu3 : upd _ b _ = H3
            obtain ⟨e3, hb3⟩ := Vc.chg hu3 hb2
            exact ⟨_, _, _, _, _, rfl, ⟨hb3, by walk_at "hs", hl, by omega, by omega, hc0, hs0, hs1⟩, by walk_at "ed", by omega⟩
        · exact ⟨_, _, _, _, _, rfl, B, e1⟩
      · walk_at "go"
        exact ⟨_, _, _, _, _, rfl, B, e1⟩
    · rintro σ H1 ⟨y3, y4, a, r, s, rfl, B, e1⟩
      obtain ⟨hb, hc, hl, ha, ha1, hr0, hs0, hs1⟩ := id B
      walk_at "go"
      refine Vc.go_ite (fun h1 => ?_) (fun h1 => ?_)
      · walk_at "go"
        rw [bag_put_rest]
        generalize hu3 : upd _ b _ = H3
        obtain ⟨e3, hb3⟩ := Vc.chg hu3 hb
        walk_at "go"
        exact k _ _ (Int.emod_nonneg _ (by omega)) (Int.emod_lt_of_pos _ (by omega)) (by walk_at "ed") ⟨ns, a, _, s, hb3, by walk_at "hs", hl, by omega, by omega, Int.ediv_nonneg hr0 (by omega), hs0, hs1⟩
      · walk_at "go"
        rw [bag_put_state]
        generalize hu3 : upd _ b _ = H3
        obtain ⟨e3, hb3⟩ := Vc.chg hu3 hb
        walk_at "go"
        exact k _ _ (Int.emod_nonneg _ (by omega)) (Int.emod_lt_of_pos _ (by omega)) (by walk_at "ed") ⟨ns, a, r, _, hb3, by walk_at "hs", hl, by omega, by omega, hr0, Int.emod_nonneg _ (by omega), Int.emod_lt_of_pos _ (by omega)⟩
end
section
variable {P : Program} {w : World} {K : PySem.W.Frag} {mg : Str → Option Value} {base : Heap} {A : Ad}
theorem ok__law_bag (T : Txt K mg A) : FnOk P w K mg base CX0 1 A.f__law_bag A.d__law_bag ["_law_script"] (spBag K) := by
  refine T.F__law_bag.ok sc__law_bag (fun vs H Q E h => ?_) (fun cdv Ar outer s H vs Q E hr h => ?_)
  · obtain ⟨p, ns, rfl, _⟩ := h
    rfl
  · obtain ⟨p, ns, rfl, hS, hl, k⟩ := h
    refine ⟨_, (pss_cons (ps_set (i := 1) sc__law_bag.nd rfl (Or.inl rfl) pe_int) (pss_cons (ps_for PassesOwn.never rfl (pi_list (pe_slice sl_list (pv 0) po_none (po_some pe_int))) (pg_name (i := 2) sc__law_bag.nd rfl (Or.inl rfl)) (pss_one (ps_set (i := 1) sc__law_bag.nd rfl (Or.inl rfl) (pe_op op_mod (pe_callTy call_int1 (by rfl) T.n_int (by decide +kernel) (pa_cons (pe_op op_add (pe_op op_add (pe_op op_mulW (pv 1) pe_int) (pe_op op_mod (pe_callB call_abs (by rfl) T.n_abs (by decide +kernel) (pa_cons (pv 2) pa_nil)) pe_int)) pe_int) pa_nil)) pe_int)))) (pss_one (ps_ret (pe_disp (pps_cons pe_str (pe_callTy Vc.call_lstD (by rfl) T.n_list (by decide +kernel) (pa_cons (pe_slice sl_list (pv 0) po_none (po_some pe_int)) pa_nil)) (pps_cons pe_str pe_int (pps_cons pe_str pe_int (pps_cons pe_str (pv 1) pps_nil)))) (by rfl) (by rfl) (fun z => by cases z) (by decide)))))), ?_⟩
    walk_at "go"
    intro q nq
    generalize hu : upd _ q _ = H2
    obtain ⟨e2, hq⟩ := Vc.alloc hu nq
    refine ⟨q, rfl, ⟨_, by walk_at "hs"⟩, for_list (xs := cutV (ns.map V.int) none (some 63)) (fun i σ H' => ∃ z y, σ = [some (.ref p), some (.int z), y] ∧ 0 ≤ z ∧ z < 2147483647 ∧ H' = H2) ⟨7, none, rfl, by omega, by omega, rfl⟩ ?_ ?_ ?_⟩
    · rintro i σ H' _ ⟨z, y, rfl, _, _, rfl⟩
      walk_at "hs"
    · rintro i x σ H' hi ⟨z, y, rfl, z0, z1, rfl⟩
      have hx : ∃ n, x = .int n := by
        have h1 : x ∈ cutV (ns.map V.int) none (some 63) := List.mem_of_getElem? hi
        unfold cutV at h1
        have h2 := List.mem_of_mem_drop (List.mem_of_mem_take h1)
        obtain ⟨n, _, rfl⟩ := List.mem_map.mp h2
        exact ⟨n, rfl⟩
      obtain ⟨n, rfl⟩ := hx
      walk_at "go"
      generalize (if n < 0 then -n else n) = m
      walk_at "go"
      exact ⟨_, _, rfl, Int.emod_nonneg _ (by omega), Int.emod_lt_of_pos _ (by omega), rfl⟩
    · rintro σ H' ⟨z, y, rfl, z0, z1, rfl⟩
      walk_at "go"
      intro b nb
      generalize hu3 : upd _ b _ = H3
      obtain ⟨e3, hb⟩ := Vc.alloc hu3 nb
      walk_at "go"
      intro q2 nq2
      generalize hu4 : upd _ q2 _ = H4
      obtain ⟨e4, hq2⟩ := Vc.alloc hu4 nq2
      walk_at "go"
      intro c nc
      generalize hu5 : upd _ c _ = H5
      obtain ⟨e5, hc⟩ := Vc.alloc hu5 nc
      walk_at "go"
      refine ⟨by walk_at "hs", bagK c 0 0 z, rfl, by show 4 ≤ 15; decide, ?_⟩
      generalize hu6 : upd _ b _ = H6
      obtain ⟨e6, hb6⟩ := Vc.chg hu6 (by walk_at "hs" : H5 b = some (.dK []))
      have hm : mergeK [] (bagK c 0 0 z) = bagK c 0 0 z := rfl
      rw [hm] at hb6
      rw [cut_ns hl] at hc
      exact k b c H6 (by walk_at "ed") ⟨ns, 0, 0, z, hb6, by walk_at "hs", hl, by omega, by omega, by omega, z0, z1⟩ (by walk_at "free") (by walk_at "free")
end

end My
namespace My
open PySem PySem.Spec PyProof.Rows L2
/-! ### _law_same: data that are the same -/
def Atom (d : PyData) : Prop := d = .none ∨ (∃ b, d = .bool b) ∨ (∃ i, d = .int i) ∨ ∃ x, d = .str x
def Shal : Nat → PyData → Prop
  | 0, d => Atom d
  | n + 1, d => Atom d ∨ ∃ ds, (d = .list ds ∨ d = .tuple ds) ∧ ds.length ≤ 1000 ∧ ∀ x ∈ ds, Shal n x
def spSame (K : PySem.W.Frag) : Nat → Sp
  | 0 => fun _ _ _ _ => False
  | n + 1 => fun vs H Q _ => ∃ (x y : V) (d : PyData), vs = [x, y] ∧ Shal n d ∧ Dp K H x d ∧ Dp K H y d ∧ ∀ H', Vc.Ed [] H H' → Q (.bl true) H'
theorem dpAll_len {K : PySem.W.Frag} {H : Hp} : ∀ {xs : List V} {ds : List PyData}, DpAll K H xs ds → xs.length = ds.length
  | _, _, .nil => rfl
  | _, _, .cons _ t => congrArg (· + 1) (dpAll_len t)
theorem dpAll_get {K : PySem.W.Frag} {H : Hp} : ∀ {xs : List V} {ds : List PyData} {i : Nat} {d : PyData}, DpAll K H xs ds → ds[i]? = some d → ∃ x, xs[i]? = some x ∧ Dp K H x d
  | _, _, _, _, .nil, e => by simp at e
  | _, _, 0, _, .cons h _, e => by simp at e; subst e; exact ⟨_, rfl, h⟩
  | _, _, i + 1, d, .cons _ t, e => by
    obtain ⟨x, h1, h2⟩ := dpAll_get (i := i) (d := d) t (by simpa using e)
    exact ⟨x, by simpa using h1, h2⟩
section
variable {P : Program} {w : World} {K : PySem.W.Frag} {mg : Str → Option Value} {base : Heap} {A : Ad}
theorem ok__law_same (T : Txt K mg A) : ∀ n, FnOk P w K mg base CX0 n A.f__law_same A.d__law_same ["_law_actual", "_law_expected"] (spSame K n)
  | 0 => ⟨fun _ _ _ _ h => h.elim, fun _ _ _ _ _ _ _ _ _ _ _ _ _ h => h.elim⟩
  | n + 1 => by
    have G__law_same := ok__law_same T n
    refine T.F__law_same.ok sc__law_same (fun vs H Q E h => ?_) (fun cdv Ar outer s H vs Q E hr h => ?_)
    · obtain ⟨x, y, d, rfl, _⟩ := h
      rfl
    · obtain ⟨x, y, d, rfl, hd, hx, hy, k⟩ := h
      refine ⟨_, (pss_cons (ps_if (pt_val (pe_callB call_isiT (by rfl) T.n_isinstance (by decide +kernel) (pa_cons (pv 1) (pa_cons (pe_tup (pa_cons (pe_bltn (v := .ty "tuple") (by rfl) T.n_tuple (by decide +kernel) rfl) (pa_cons (pe_bltn (v := .ty "list") (by rfl) T.n_list (by decide +kernel) rfl) pa_nil))) pa_nil)))) (pss_cons (ps_if (PW.pt (pw_or (pt_cmpR op_ne (pe_callB call_isi (by rfl) T.n_isinstance (by decide +kernel) (pa_cons (pv 1) (pa_cons (pe_bltn (v := .ty "tuple") (by rfl) T.n_tuple (by decide +kernel) rfl) pa_nil))) (pe_callB call_isi (by rfl) T.n_isinstance (by decide +kernel) (pa_cons (pv 0) (pa_cons (pe_bltn (v := .ty "tuple") (by rfl) T.n_tuple (by decide +kernel) rfl) pa_nil))) (nomark _)) (pw_or1 (pt_not (pt_val (pe_callB call_isiT (by rfl) T.n_isinstance (by decide +kernel) (pa_cons (pv 0) (pa_cons (pe_tup (pa_cons (pe_bltn (v := .ty "tuple") (by rfl) T.n_tuple (by decide +kernel) rfl) (pa_cons (pe_bltn (v := .ty "list") (by rfl) T.n_list (by decide +kernel) rfl) pa_nil))) pa_nil)))))))) (pss_one (ps_ret pe_bl)) pss_nil) (pss_cons (ps_if (pt_cmpR op_ne (pe_callB call_len_seq (by rfl) T.n_len (by decide +kernel) (pa_cons (pv 0) pa_nil)) (pe_callB call_len_seq (by rfl) T.n_len (by decide +kernel) (pa_cons (pv 1) pa_nil)) (nomark _)) (pss_one (ps_ret pe_bl)) pss_nil) (pss_cons (ps_for PassesOwn.never rfl (pi_range1 (by rfl) T.n_range (pa_cons (pe_callB call_len_seq (by rfl) T.n_len (by decide +kernel) (pa_cons (pv 1) pa_nil)) pa_nil)) (pg_name (i := 2) sc__law_same.nd rfl (Or.inl rfl)) (pss_one (ps_if (pt_not (pt_val (pe_call G__law_same hr (by rfl) T.g__law_same T.F__law_same.kp T.b__law_same .nil pass0 (pa_cons (pe_ix ix_seq (pv 0) (pv 2) (fun _ _ => rfl)) (pa_cons (pe_ix ix_seq (pv 1) (pv 2) (fun _ _ => rfl)) pa_nil))))) (pss_one (ps_ret pe_bl)) pss_nil))) (pss_one (ps_ret pe_bl))))) pss_nil) (pss_cons (ps_if (pt_cmpR op_isN (pv 1) pe_non (nomark _)) (pss_one (ps_ret (pe_cmpR op_isN (pv 0) pe_non (nomark _)))) pss_nil) (pss_cons (ps_if (pt_val (pe_callB call_isi (by rfl) T.n_isinstance (by decide +kernel) (pa_cons (pv 1) (pa_cons (pe_bltn (v := .ty "bool") (by rfl) T.n_bool (by decide +kernel) rfl) pa_nil)))) (pss_one (ps_ret (pe_and (pe_callB call_isi (by rfl) T.n_isinstance (by decide +kernel) (pa_cons (pv 0) (pa_cons (pe_bltn (v := .ty "bool") (by rfl) T.n_bool (by decide +kernel) rfl) pa_nil))) (pe_one (pe_cmpR op_eq (pv 0) (pv 1) (nomark _)))))) pss_nil) (pss_cons (ps_if (pt_val (pe_callB call_isi (by rfl) T.n_isinstance (by decide +kernel) (pa_cons (pv 1) (pa_cons (pe_bltn (v := .ty "int") (by rfl) T.n_int (by decide +kernel) rfl) pa_nil)))) (pss_one (ps_ret (pe_and (pe_callB call_isi (by rfl) T.n_isinstance (by decide +kernel) (pa_cons (pv 0) (pa_cons (pe_bltn (v := .ty "int") (by rfl) T.n_int (by decide +kernel) rfl) pa_nil))) (pe_and (pe_not (pe_callB call_isi (by rfl) T.n_isinstance (by decide +kernel) (pa_cons (pv 0) (pa_cons (pe_bltn (v := .ty "bool") (by rfl) T.n_bool (by decide +kernel) rfl) pa_nil)))) (pe_one (pe_cmpR op_eq (pv 0) (pv 1) (nomark _))))))) pss_nil) (pss_one (ps_ret (pe_and (pe_callB call_isi (by rfl) T.n_isinstance (by decide +kernel) (pa_cons (pv 0) (pa_cons (pe_bltn (v := .ty "str") (by rfl) T.n_str (by decide +kernel) rfl) pa_nil))) (pe_one (pe_cmpR op_eq (pv 0) (pv 1) (nomark _)))))))))), ?_⟩
      cases hy with
      | non =>
        cases hx
        walk_at "go"
        intro p np
        generalize hu : upd _ p _ = H1
        obtain ⟨e1, hp⟩ := Vc.alloc hu np
        walk_at "go"
        exact k _ (by walk_at "ed")
      | bl b =>
        cases hx
        walk_at "go"
        intro p np
        generalize hu : upd _ p _ = H1
        obtain ⟨e1, hp⟩ := Vc.alloc hu np
        walk_at "go"
        show Q (.bl (decide _)) H1
        rw [decide_eq_true rfl]
        exact k _ (by walk_at "ed")
      | int i =>
        cases hx
        walk_at "go"
        intro p np
        generalize hu : upd _ p _ = H1
        obtain ⟨e1, hp⟩ := Vc.alloc hu np
        walk_at "go"
        show Q (.bl (decide _)) H1
        rw [decide_eq_true rfl]
        exact k _ (by walk_at "ed")
      | str z =>
        cases hx
        walk_at "go"
        intro p np
        generalize hu : upd _ p _ = H1
        obtain ⟨e1, hp⟩ := Vc.alloc hu np
        walk_at "go"
        show Q (.bl (decide _)) H1
        rw [decide_eq_true rfl]
        exact k _ (by walk_at "ed")
      | @lst a1 xs1 ds ha ea =>
        cases hx with
        | @lst a2 xs2 _ hb eb =>
        have l1 := dpAll_len ea
        have l2 := dpAll_len eb
        obtain ⟨m, rfl, hn, hds⟩ : ∃ m, n = m + 1 ∧ ds.length ≤ 1000 ∧ ∀ x ∈ ds, Shal m x := by
          cases n with
          | zero => rcases hd with h | ⟨_, h⟩ | ⟨_, h⟩ | ⟨_, h⟩ <;> cases h
          | succ m =>
            rcases hd with (h | ⟨_, h⟩ | ⟨_, h⟩ | ⟨_, h⟩) | ⟨ds', h | h, h1, h2⟩
            all_goals first | (cases h; exact ⟨m, rfl, h1, h2⟩) | cases h
        walk_at "go"
        intro p np
        generalize hu : upd _ p _ = H1
        obtain ⟨e1, hp⟩ := Vc.alloc hu np
        walk_at "go"
        intro p2 np2
        generalize hu2 : upd _ p2 _ = H2
        obtain ⟨e2, hp2⟩ := Vc.alloc hu2 np2
        walk_at "go"
        refine Vc.go_iten (fun h => (h (by omega)).elim) (fun _ => ?_)
        walk_at "go"
        refine ⟨by omega, by omega, for_range (lo := 0) (fun i σ H' => ∃ y3, σ = [some (.ref a2), some (.ref a1), y3] ∧ Vc.Ed [] H2 H') ⟨none, rfl, Vc.Ed.refl⟩ ?_ ?_⟩
        · rintro i σ H3 hi ⟨y3, rfl, e3⟩
          obtain ⟨d, hd⟩ : ∃ d, ds[i]? = some d := ⟨ds[i]'(by omega), List.getElem?_eq_getElem (by omega)⟩
          obtain ⟨v1, g1, q1⟩ := dpAll_get ea hd
          obtain ⟨v2, g2, q2⟩ := dpAll_get eb hd
          have x1 : atI xs1 (0 + (i : Int)) = some v1 := at_of (by omega) g1
          have x2 : atI xs2 (0 + (i : Int)) = some v2 := at_of (by omega) g2
          walk_at "go"
          refine Or.inl ?_
          walk_at "go"
          refine Or.inl ?_
          walk_at "go"
          refine ⟨v2, v1, d, rfl, hds d (List.mem_of_getElem? hd), ?_, ?_, fun H4 e4 => ?_⟩
          · exact Vc.Dp.ed0 e3 (Vc.Dp.ed0 e2 (Vc.Dp.ed0 e1 q2))
          · exact Vc.Dp.ed0 e3 (Vc.Dp.ed0 e2 (Vc.Dp.ed0 e1 q1))
          walk_at "go"
          exact ⟨_, rfl, by walk_at "ed"⟩
        · rintro σ H3 ⟨y3, rfl, e3⟩
          walk_at "go"
          exact k _ (by walk_at "ed")
      | @tup a1 xs1 ds ha ea =>
        cases hx with
        | @tup a2 xs2 _ hb eb =>
        have l1 := dpAll_len ea
        have l2 := dpAll_len eb
        obtain ⟨m, rfl, hn, hds⟩ : ∃ m, n = m + 1 ∧ ds.length ≤ 1000 ∧ ∀ x ∈ ds, Shal m x := by
          cases n with
          | zero => rcases hd with h | ⟨_, h⟩ | ⟨_, h⟩ | ⟨_, h⟩ <;> cases h
          | succ m =>
            rcases hd with (h | ⟨_, h⟩ | ⟨_, h⟩ | ⟨_, h⟩) | ⟨ds', h | h, h1, h2⟩
            all_goals first | (cases h; exact ⟨m, rfl, h1, h2⟩) | cases h
        walk_at "go"
        intro p np
        generalize hu : upd _ p _ = H1
        obtain ⟨e1, hp⟩ := Vc.alloc hu np
        walk_at "go"
        intro p2 np2
        generalize hu2 : upd _ p2 _ = H2
        obtain ⟨e2, hp2⟩ := Vc.alloc hu2 np2
        walk_at "go"
        refine Vc.go_iten (fun h => (h (by omega)).elim) (fun _ => ?_)
        walk_at "go"
        refine ⟨by omega, by omega, for_range (lo := 0) (fun i σ H' => ∃ y3, σ = [some (.ref a2), some (.ref a1), y3] ∧ Vc.Ed [] H2 H') ⟨none, rfl, Vc.Ed.refl⟩ ?_ ?_⟩
        · rintro i σ H3 hi ⟨y3, rfl, e3⟩
          obtain ⟨d, hd⟩ : ∃ d, ds[i]? = some d := ⟨ds[i]'(by omega), List.getElem?_eq_getElem (by omega)⟩
          obtain ⟨v1, g1, q1⟩ := dpAll_get ea hd
          obtain ⟨v2, g2, q2⟩ := dpAll_get eb hd
          have x1 : atI xs1 (0 + (i : Int)) = some v1 := at_of (by omega) g1
          have x2 : atI xs2 (0 + (i : Int)) = some v2 := at_of (by omega) g2
          walk_at "go"
          refine Or.inr <| Or.inl ?_
          walk_at "go"
          refine Or.inr <| Or.inl ?_
          walk_at "go"
          refine ⟨v2, v1, d, rfl, hds d (List.mem_of_getElem? hd), ?_, ?_, fun H4 e4 => ?_⟩
          · exact Vc.Dp.ed0 e3 (Vc.Dp.ed0 e2 (Vc.Dp.ed0 e1 q2))
          · exact Vc.Dp.ed0 e3 (Vc.Dp.ed0 e2 (Vc.Dp.ed0 e1 q1))
          walk_at "go"
          exact ⟨_, rfl, by walk_at "ed"⟩
        · rintro σ H3 ⟨y3, rfl, e3⟩
          walk_at "go"
          exact k _ (by walk_at "ed")
end

end My
namespace My
open PySem PySem.Spec PyProof.Rows L2
/-! ### layouts -/
def UNS : List Int := [1, 2, 4, 8]
def CHS : List Int := [1, 2, 4, 8, 16]
def layErr (u c : Int) : Option Str := if u ∉ UNS then some "unit" else if c ∉ CHS ∨ c < u then some "chunk" else none
def layF (u c : Int) : List (Str × V) := [("held_unit", .int u), ("held_chunk", .int c)]
def LayAt (A : Ad) (H : Hp) (p : Addr) (u c : Int) : Prop := ∃ dx, H p = some (.ins A.C_Layout dx (layF u c))
theorem lay_unit {u c} : (layF u c).lookup ("held_unit" : Str) = some (.int u) := rfl
theorem lay_chunk {u c} : (layF u c).lookup ("held_chunk" : Str) = some (.int c) := rfl
theorem lay_new {u c} : putF "held_chunk" (.int c) (putF "held_unit" (.int u) []) = layF u c := rfl
theorem lay_putu {u c v} : putF "held_unit" (.int v) (layF u c) = layF v c := rfl
theorem lay_putc {u c v} : putF "held_chunk" (.int v) (layF u c) = layF u v := rfl
theorem LayAt.ed0 {A : Ad} {H H' : Hp} {p : Addr} {u c : Int} (e : Vc.Ed [] H H') (h : LayAt A H p u c) : LayAt A H' p u c := by
  obtain ⟨dx, h⟩ := h
  exact ⟨dx, e.at0 h⟩
theorem inV_ints (n : Int) (ns : List Int) : inV (.int n) (ns.map V.int) = decide (n ∈ ns) := by
  rw [Bool.eq_iff_iff, decide_eq_true_eq]
  show (List.any (ns.map V.int) fun y => eqV y (.int n)) = true ↔ _
  rw [List.any_eq_true]
  constructor
  · rintro ⟨y, hy, e⟩
    obtain ⟨m, hm, rfl⟩ := List.mem_map.mp hy
    have : m = n := by simpa [eqV] using e
    rw [← this]; exact hm
  · exact fun h => ⟨_, List.mem_map.mpr ⟨n, h, rfl⟩, by simp [eqV]⟩
theorem inV_uns (n : Int) : inV (.int n) [.int 1, .int 2, .int 4, .int 8] = decide (n ∈ UNS) := inV_ints n UNS
theorem inV_chs (n : Int) : inV (.int n) [.int 1, .int 2, .int 4, .int 8, .int 16] = decide (n ∈ CHS) := inV_ints n CHS
def spLayInit (A : Ad) : Sp := fun vs H Q E => ∃ (p dx : Addr) (u c : Int), vs = [.ref p, .int u, .int c] ∧ H p = some (.ins A.C_Layout dx []) ∧
  (∀ e, layErr u c = some e → ∀ d H', Vc.Ed [] H H' → H' d = some (.xd [("part", .str e)]) → E (.ref A.C_BadLayout) (some d) H') ∧
  (layErr u c = none → ∀ H', Vc.Ed [p] H H' → LayAt A H' p u c → Q .non H')
def spLayGetU (A : Ad) : Sp := fun vs H Q _ => ∃ (p : Addr) (u c : Int), vs = [.ref p] ∧ LayAt A H p u c ∧ Q (.int u) H
def spLayGetC (A : Ad) : Sp := fun vs H Q _ => ∃ (p : Addr) (u c : Int), vs = [.ref p] ∧ LayAt A H p u c ∧ Q (.int c) H
section
variable {w : World} {K : PySem.W.Frag} {mg : Str → Option Value} {base : Heap} {A : Ad}
theorem ok_Layoutu_initu (T : Txt K mg A) : FnOk PG w K mg base (CX PG w) 3 A.f_Layoutu_initu A.d_Layoutu_initu ["self", "unit", "chunk"] (spLayInit A) := by
  have G_BadLayoutu_initu := ok_BadLayoutu_initu (w := w) (base := base) T
  refine T.F_Layoutu_initu.ok sc_Layoutu_initu (fun vs H Q E h => ?_) (fun cdv Ar outer s H vs Q E hr h => ?_)
  · obtain ⟨p, dx, u, c, rfl, _⟩ := h
    rfl
  · obtain ⟨p, dx, u, c, rfl, hp, kE, kQ⟩ := h
    have cl := T.cl_Layout
    have no1 := T.no_Layout_held_unit
    have no2 := T.no_Layout_held_chunk
    have cr := T.cr_Layout
    have cv1 := T.cv_UNITS
    have cv2 := T.cv_CHUNKS
    have qU := T.q_UNITS
    have qC := T.q_CHUNKS
    have bad : ∀ e, layErr u c = some e → ∀ d H', H d = none → Vc.Ed [] H H' → H' d = some (.xd [("part", .str e)]) → E (.ref A.C_BadLayout) (some d) H' := fun e he d H' _ e2 h => kE e he d H' e2 h
    refine ⟨_, (pss_cons (ps_if (pt_cmpR op_notIn_seq (pv 1) (ClX.pe_cval (pe_glob (v := .ref A.C_Layout) (by rfl) T.g_Layout rfl)) (by rfl)) (pss_one (Vc.ps_raiseT rfl (takes_of rfl rfl rfl rfl) (pmk_oex T.ox_BadLayout T.i_BadLayout T.ti_BadLayout G_BadLayoutu_initu (by exact hr.mono (by decide)) T.b_BadLayoutu_initu .nil pass0 (by rfl) T.g_BadLayout (pa_cons pe_str pa_nil)))) pss_nil) (pss_cons (ps_if (PW.pt (pw_or (pt_cmpR op_notIn_seq (pv 2) (ClX.pe_cval (pe_glob (v := .ref A.C_Layout) (by rfl) T.g_Layout rfl)) (by rfl)) (pw_or1 (pt_cmpR op_lt (pv 2) (pv 1) (nomark _))))) (pss_one (Vc.ps_raiseT rfl (takes_of rfl rfl rfl rfl) (pmk_oex T.ox_BadLayout T.i_BadLayout T.ti_BadLayout G_BadLayoutu_initu (by exact hr.mono (by decide)) T.b_BadLayoutu_initu .nil pass0 (by rfl) T.g_BadLayout (pa_cons pe_str pa_nil)))) pss_nil) (pss_cons (ps_fld (pv 0) (pv 1) rfl) (pss_one (ps_fld (pv 0) (pv 2) rfl))))), ?_⟩
    walk_at "go"
    rw [inV_uns]
    refine Vc.go_iten (fun h1 => ?_) (fun h1 => ?_)
    · walk_at "go"
      exact bad _ (by unfold layErr; rw [if_pos h1])
    walk_at "go"
    rw [inV_chs]
    refine Vc.go_iten (fun h2 => ?_) (fun h2 => ?_)
    · walk_at "go"
      exact bad _ (by unfold layErr; rw [if_neg (fun z => z h1), if_pos (.inl h2)])
    walk_at "go"
    refine Vc.go_ite (fun h3 => ?_) (fun h3 => ?_)
    · walk_at "go"
      exact bad _ (by unfold layErr; rw [if_neg (fun z => z h1), if_pos (.inr h3)])
    walk_at "go"
    generalize hu1 : upd _ p _ = H1
    obtain ⟨e1, h1'⟩ := Vc.chg hu1 hp
    walk_at "go"
    generalize hu2 : upd _ p _ = H2
    obtain ⟨e2, h2'⟩ := Vc.chg hu2 h1'
    rw [lay_new] at h2'
    exact kQ (by unfold layErr; rw [if_neg (fun z => z h1), if_neg (fun z => z.elim (fun z => z h2) h3)]) H2 (by walk_at "ed") ⟨dx, h2'⟩
theorem ok_Layout_unit (T : Txt K mg A) : FnOk PG w K mg base CX0 1 A.f_Layout_unit A.d_Layout_unit ["self"] (spLayGetU A) := by
  refine T.F_Layout_unit.ok sc_Layout_unit (fun vs H Q E h => ?_) (fun cdv Ar outer s H vs Q E hr h => ?_)
  · obtain ⟨p, u, c, rfl, _⟩ := h
    rfl
  · obtain ⟨p, u, c, rfl, ⟨dx, hp⟩, k⟩ := h
    have cl := T.cl_Layout
    have no1 := T.no_Layout_held_unit
    have l := lay_unit (u := u) (c := c)
    refine ⟨_, (pss_one (ps_ret (pe_fld (pv 0) rfl))), ?_⟩
    walk_at "go"
    exact k
theorem ok_Layout_chunk (T : Txt K mg A) : FnOk PG w K mg base CX0 1 A.f_Layout_chunk A.d_Layout_chunk ["self"] (spLayGetC A) := by
  refine T.F_Layout_chunk.ok sc_Layout_chunk (fun vs H Q E h => ?_) (fun cdv Ar outer s H vs Q E hr h => ?_)
  · obtain ⟨p, u, c, rfl, _⟩ := h
    rfl
  · obtain ⟨p, u, c, rfl, ⟨dx, hp⟩, k⟩ := h
    have cl := T.cl_Layout
    have no1 := T.no_Layout_held_chunk
    have l := lay_chunk (u := u) (c := c)
    refine ⟨_, (pss_one (ps_ret (pe_fld (pv 0) rfl))), ?_⟩
    walk_at "go"
    exact k
end

end My
namespace My
open PySem PySem.Spec PyProof.Rows L2
/-! ### data of ints: laid out, equal -/
theorem lay_ints : ∀ ns : List Int, PyData.canLayAll0 (ns.map PyData.int) = true
  | [] => rfl
  | n :: r => by
    rw [List.map_cons, PyData.canLayAll0, lay_ints r]; rfl
theorem dep_ints : ∀ ns : List Int, PyData.depthAll (ns.map PyData.int) = 0
  | [] => rfl
  | n :: r => by
    rw [List.map_cons, PyData.depthAll, dep_ints r]; rfl
theorem shp_list (ns : List Int) : SeqAt.shaped (.list (ns.map PyData.int)) = true := by
  unfold SeqAt.shaped
  rw [PyData.canLay0, lay_ints, PyData.depth, dep_ints]; rfl
theorem shp_tup (ns : List Int) : SeqAt.shaped (.tuple (ns.map PyData.int)) = true := by
  unfold SeqAt.shaped
  rw [PyData.canLay0, lay_ints, PyData.depth, dep_ints]; rfl
theorem eqv_ints : ∀ ns ms : List Int, PyData.eqvAll (ns.map PyData.int) (ms.map PyData.int) = decide (ns = ms)
  | [], [] => rfl
  | [], _ :: _ => rfl
  | _ :: _, [] => rfl
  | n :: r, m :: q => by
    rw [List.map_cons, List.map_cons, PyData.eqvAll, eqv_ints r q, Bool.eq_iff_iff]
    show ((n == m) && decide (r = q)) = true ↔ _
    simp
theorem eqv_lists (ns ms : List Int) : PyData.eqv (.list (ns.map PyData.int)) (.list (ms.map PyData.int)) = decide (ns = ms) := by rw [PyData.eqv]; exact eqv_ints ns ms
theorem eqv_tups (ns ms : List Int) : PyData.eqv (.tuple (ns.map PyData.int)) (.tuple (ms.map PyData.int)) = decide (ns = ms) := by rw [PyData.eqv]; exact eqv_ints ns ms
theorem dp_ints {K : PySem.W.Frag} {H : Hp} : ∀ (ns : List Int), DpAll K H (ns.map V.int) (ns.map PyData.int)
  | [] => .nil
  | n :: r => .cons (.int n) (dp_ints r)
section
variable {K : PySem.W.Frag} {H : Hp} {Q : VK} {p q : Addr} {ns ms : List Int}
/-- two lists of ints compared -/
theorem go_neLs (e1 : SqL K H p (ns.map V.int)) (e2 : SqL K H q (ms.map V.int)) (h : Q (.bl (!decide (ns = ms))) H) : rNeD K (.ref p) (.ref q) H Q :=
  ⟨_, _, .lst e1 (dp_ints ns), .lst e2 (dp_ints ms), shp_list _, shp_list _, by rw [eqv_lists]; exact h⟩
theorem go_eqLs (e1 : SqL K H p (ns.map V.int)) (e2 : SqL K H q (ms.map V.int)) (h : Q (.bl (decide (ns = ms))) H) : rEqD K (.ref p) (.ref q) H Q :=
  ⟨_, _, .lst e1 (dp_ints ns), .lst e2 (dp_ints ms), shp_list _, shp_list _, by rw [eqv_lists]; exact h⟩
end

end My
namespace My
open PySem PySem.Spec PyProof.Rows L2
/-! ### units and chunks -/
def rgD (a b : Int) : List V := (Vc.rgI a b).map V.int
def spTouched : Sp := fun vs H Q _ => ∃ s lo hi : Int, vs = [.int s, .int lo, .int hi] ∧ s ∈ CHS ∧ 0 ≤ lo ∧ lo < hi ∧ hi ≤ lo + 900 ∧
  ∀ q H', Vc.Ed [] H H' → H' q = some (.lst (rgD (lo / s) ((hi - 1) / s + 1))) → Q (.ref q) H'
def spUnits (A : Ad) : Sp := fun vs H Q _ => ∃ (p : Addr) (u c lo hi : Int), vs = [.ref p, .int lo, .int hi] ∧ LayAt A H p u c ∧ u ∈ CHS ∧ 0 ≤ lo ∧ lo < hi ∧ hi ≤ lo + 900 ∧
  ∀ q H', Vc.Ed [] H H' → H' q = some (.lst (rgD (lo / u) ((hi - 1) / u + 1))) → Q (.ref q) H'
def spChunks (A : Ad) : Sp := fun vs H Q _ => ∃ (p : Addr) (u c lo hi : Int), vs = [.ref p, .int lo, .int hi] ∧ LayAt A H p u c ∧ c ∈ CHS ∧ 0 ≤ lo ∧ lo < hi ∧ hi ≤ lo + 900 ∧
  ∀ q H', Vc.Ed [] H H' → H' q = some (.lst (rgD (lo / c) ((hi - 1) / c + 1))) → Q (.ref q) H'
def spSpan (A : Ad) : Sp := fun vs H Q _ => ∃ (p : Addr) (u c n size : Int), vs = [.ref p, .int n, .int size] ∧ LayAt A H p u c ∧ u ∈ CHS ∧ n.natAbs < 2 ^ 190 ∧
  ∀ q H', Vc.Ed [] H H' → H' q = some (.tup [.int (n * u), .int (if n * u + u ≤ size then n * u + u else size)]) → Q (.ref q) H'
def spPair : Sp := fun vs H Q _ => ∃ (b c : Addr) (size u : Int), vs = [.ref b, .int size, .int u] ∧ Bag H b c ∧ u ∈ CHS ∧ 1 ≤ size ∧ size < 2 ^ 100 ∧
  ∀ (lo hi : Int) q H', 0 ≤ lo → lo < hi → hi ≤ size → hi ≤ lo + 100 → Vc.Ed [b] H H' → Bag H' b c → H' q = some (.tup [.int lo, .int hi]) → Q (.ref q) H'
theorem chs_pos {u : Int} (h : u ∈ CHS) : 0 < u ∧ u ≤ 16 := by
  have : u = 1 ∨ u = 2 ∨ u = 4 ∨ u = 8 ∨ u = 16 := by simpa [CHS] using h
  omega
theorem chs_div {u x : Int} (h : u ∈ CHS) (p : 0 ≤ x) : 0 ≤ x / u ∧ x / u ≤ x := by
  have : u = 1 ∨ u = 2 ∨ u = 4 ∨ u = 8 ∨ u = 16 := by simpa [CHS] using h
  rcases this with rfl | rfl | rfl | rfl | rfl <;> omega
theorem chs_floor {u x : Int} (h : u ∈ CHS) (p : 0 ≤ x) : 0 ≤ x / u * u ∧ x / u * u ≤ x := by
  have : u = 1 ∨ u = 2 ∨ u = 4 ∨ u = 8 ∨ u = 16 := by simpa [CHS] using h
  rcases this with rfl | rfl | rfl | rfl | rfl <;> omega
theorem chs_step {u x : Int} (h : u ∈ CHS) : (x + 1) / u = x / u ∨ (x + 1) / u = x / u + 1 := by
  have : u = 1 ∨ u = 2 ∨ u = 4 ∨ u = 8 ∨ u = 16 := by simpa [CHS] using h
  rcases this with rfl | rfl | rfl | rfl | rfl <;> omega
theorem chs_near {u x y : Int} {k : Int} (h : u ∈ CHS) (p : x ≤ y) (q : y ≤ x + k) : x / u ≤ y / u ∧ y / u ≤ x / u + k + 1 := by
  have : u = 1 ∨ u = 2 ∨ u = 4 ∨ u = 8 ∨ u = 16 := by simpa [CHS] using h
  rcases this with rfl | rfl | rfl | rfl | rfl <;> omega
theorem atI_last (xs : List V) (v : V) : atI (xs ++ [v]) (((xs ++ [v]).length : Int) - 1) = some v := by
  have e : (((xs ++ [v]).length : Int) - 1) = ((xs.length : Nat) : Int) := by
    rw [List.length_append]; show (((xs.length + 1 : Nat) : Int) - 1) = _; omega
  rw [e]
  unfold atI ixN
  rw [if_pos (by omega), if_pos (by rw [List.length_append]; show ((xs.length : Nat) : Int) < ((xs.length + 1 : Nat) : Int); omega)]
  simp
/-- the pieces of low .. low + i - 1 -/
def pcs (u lo : Int) : Nat → List Int
  | 0 => []
  | i + 1 => Vc.rgI (lo / u) ((lo + i) / u + 1)
theorem pcs_len {u lo : Int} (h : u ∈ CHS) : ∀ i : Nat, (pcs u lo i).length ≤ i + 2
  | 0 => Nat.zero_le _
  | i + 1 => by
    have := chs_near (k := i) h (x := lo) (y := lo + i) (by omega) (by omega)
    show (Vc.rgI _ _).length ≤ _
    rw [Vc.rgI_len]; omega
section
variable {w : World} {K : PySem.W.Frag} {mg : Str → Option Value} {base : Heap} {A : Ad}
theorem ok_touched (T : Txt K mg A) : FnOk PG w K mg base CX0 1 A.f_touched A.d_touched ["size", "low", "high"] spTouched := by
  refine T.F_touched.ok sc_touched (fun vs H Q E h => ?_) (fun cdv Ar outer s H vs Q E hr h => ?_)
  · obtain ⟨z, lo, hi, rfl, _⟩ := h
    rfl
  · obtain ⟨z, lo, hi, rfl, hz, l0, l1, l2, k⟩ := h
    obtain ⟨z0, z1⟩ := chs_pos hz
    have n1 := chs_near hz (x := lo) (y := hi - 1) (k := 899) (by omega) (by omega)
    refine ⟨_, (pss_one (ps_ret (Vc.pe_listRgL rfl (by rfl) T.n_list (prg_2 (by rfl) T.n_range (pe_op op_fdivW (pv 1) (pv 0)) (pe_op op_add (pe_op op_fdivW (pe_op op_sub (pv 2) pe_int) (pv 0)) pe_int))))), ?_⟩
    walk_at "go"
    refine ⟨by omega, fun q nq => ?_⟩
    generalize hu : upd _ q _ = H2
    obtain ⟨e2, hq⟩ := Vc.alloc hu nq
    walk_at "go"
    exact k q H2 e2 hq
theorem ok_Layout_units (T : Txt K mg A) : FnOk PG w K mg base CX0 2 A.f_Layout_units A.d_Layout_units ["self", "low", "high"] (spUnits A) := by
  have G_touched := ok_touched (w := w) (base := base) T
  refine T.F_Layout_units.ok sc_Layout_units (fun vs H Q E h => ?_) (fun cdv Ar outer s H vs Q E hr h => ?_)
  · obtain ⟨p, u, c, lo, hi, rfl, _⟩ := h
    rfl
  · obtain ⟨p, u, c, lo, hi, rfl, ⟨dx, hp⟩, hu, l0, l1, l2, k⟩ := h
    have cl := T.cl_Layout
    have no1 := T.no_Layout_held_unit
    have l := lay_unit (u := u) (c := c)
    refine ⟨_, (pss_one (ps_ret (pe_call G_touched (by exact hr.mono (by decide)) (by rfl) T.g_touched T.F_touched.kp T.b_touched .nil pass0 (pa_cons (pe_fld (pv 0) rfl) (pa_cons (pv 1) (pa_cons (pv 2) pa_nil)))))), ?_⟩
    walk_at "go"
    refine ⟨u, lo, hi, rfl, hu, l0, l1, l2, fun q H2 e2 hq => ?_⟩
    walk_at "go"
    exact k q H2 e2 hq
theorem ok_Layout_chunks (T : Txt K mg A) : FnOk PG w K mg base CX0 2 A.f_Layout_chunks A.d_Layout_chunks ["self", "low", "high"] (spChunks A) := by
  have G_touched := ok_touched (w := w) (base := base) T
  refine T.F_Layout_chunks.ok sc_Layout_chunks (fun vs H Q E h => ?_) (fun cdv Ar outer s H vs Q E hr h => ?_)
  · obtain ⟨p, u, c, lo, hi, rfl, _⟩ := h
    rfl
  · obtain ⟨p, u, c, lo, hi, rfl, ⟨dx, hp⟩, hu, l0, l1, l2, k⟩ := h
    have cl := T.cl_Layout
    have no1 := T.no_Layout_held_chunk
    have l := lay_chunk (u := u) (c := c)
    refine ⟨_, (pss_one (ps_ret (pe_call G_touched (by exact hr.mono (by decide)) (by rfl) T.g_touched T.F_touched.kp T.b_touched .nil pass0 (pa_cons (pe_fld (pv 0) rfl) (pa_cons (pv 1) (pa_cons (pv 2) pa_nil)))))), ?_⟩
    walk_at "go"
    refine ⟨c, lo, hi, rfl, hu, l0, l1, l2, fun q H2 e2 hq => ?_⟩
    walk_at "go"
    exact k q H2 e2 hq
theorem ok_Layout_span (T : Txt K mg A) : FnOk PG w K mg base CX0 1 A.f_Layout_span A.d_Layout_span ["self", "unit", "size"] (spSpan A) := by
  refine T.F_Layout_span.ok sc_Layout_span (fun vs H Q E h => ?_) (fun cdv Ar outer s H vs Q E hr h => ?_)
  · obtain ⟨p, u, c, n, z, rfl, _⟩ := h
    rfl
  · obtain ⟨p, u, c, n, z, rfl, ⟨dx, hp⟩, hu, l0, k⟩ := h
    obtain ⟨u0, u1⟩ := chs_pos hu
    have cl := T.cl_Layout
    have no1 := T.no_Layout_held_unit
    have l := lay_unit (u := u) (c := c)
    refine ⟨_, (pss_cons (ps_set (i := 3) sc_Layout_span.nd rfl (Or.inl rfl) (pe_op op_mulW (pv 1) (pe_fld (pv 0) rfl))) (pss_one (ps_ret (pe_tup (pa_cons (pv 3) (pa_cons (pe_callB (cr_min rfl) (by rfl) T.n_min (by decide +kernel) (pa_cons (pe_lst (pa_cons (pe_op op_add (pv 3) (pe_fld (pv 0) rfl)) (pa_cons (pv 2) pa_nil))) pa_nil)) pa_nil)))))), ?_⟩
    walk_at "go"
    intro q nq
    generalize hu1 : upd _ q _ = H2
    obtain ⟨e2, hq⟩ := Vc.alloc hu1 nq
    walk_at "go"
    refine ⟨q, [n * u + u, z], rfl, .of hq, Nat.zero_lt_succ _, fun m hm hle => ?_⟩
    have em : m = if n * u + u ≤ z then n * u + u else z := by
      have a1 := hle (n * u + u) (List.mem_cons_self ..)
      have a2 := hle z (List.mem_cons_of_mem _ (List.mem_cons_self ..))
      rcases List.mem_cons.mp hm with e | hm
      · rw [if_pos (by omega)]; exact e
      · have e := List.mem_singleton.mp hm
        split <;> omega
    walk_at "go"
    intro r nr
    generalize hu2 : upd _ r _ = H3
    obtain ⟨e3, hr3⟩ := Vc.alloc hu2 nr
    walk_at "go"
    exact k r H3 (by walk_at "ed") (by rw [← em]; exact hr3)
theorem ok__law_pieces (T : Txt K mg A) : FnOk PG w K mg base CX0 1 A.f__law_pieces A.d__law_pieces ["_law_size", "_law_low", "_law_high"] spTouched := by
  refine T.F__law_pieces.ok sc__law_pieces (fun vs H Q E h => ?_) (fun cdv Ar outer s H vs Q E hr h => ?_)
  · obtain ⟨z, lo, hi, rfl, _⟩ := h
    rfl
  · obtain ⟨z, lo, hi, rfl, hz, l0, l1, l2, k⟩ := h
    obtain ⟨z0, z1⟩ := chs_pos hz
    refine ⟨_, (pss_cons (ps_set (i := 3) sc__law_pieces.nd rfl (Or.inl rfl) (pe_lst pa_nil)) (pss_cons (ps_for PassesOwn.never rfl (Vc.pi_rangeL (by rfl) T.n_range (pa_cons (pv 1) (pa_cons (pv 2) pa_nil))) (pg_name (i := 4) sc__law_pieces.nd rfl (Or.inl rfl)) (pss_cons (ps_set (i := 5) sc__law_pieces.nd rfl (Or.inl rfl) (pe_op op_fdivW (pv 4) (pv 0))) (pss_one (ps_if (PW.pt (pw_or (pt_cmpR (op_eqD (by exact hr.units)) (pv 3) (pe_lst pa_nil) (nomark _)) (pw_or1 (pt_cmpR op_ne (pe_ix ix_list (pv 3) (pe_op op_sub (pe_callB call_len_seq (by rfl) T.n_len (by decide +kernel) (pa_cons (pv 3) pa_nil)) pe_int) (fun _ _ => rfl)) (pv 5) (nomark _))))) (pss_one (ps_expr (pe_bm PySem.F.plainAttrs_list PySem.F.slot_list_append PySem.F.type_list_append mt_append (pv 3) (pa_cons (pv 5) pa_nil)))) pss_nil)))) (pss_one (ps_ret (pv 3))))), ?_⟩
    walk_at "go"
    intro q nq
    generalize hu : upd _ q _ = H2
    obtain ⟨e2, hq⟩ := Vc.alloc hu nq
    walk_at "go"
    refine for_range (fun i σ H' => ∃ x y, σ = [some (.int z), some (.int lo), some (.int hi), some (.ref q), x, y] ∧ Vc.Ed [] H H' ∧ H' q = some (.lst ((pcs z lo i).map V.int))) ⟨none, none, rfl, e2, hq⟩ ?_ ?_
    · rintro i σ H3 hin ⟨x, y, rfl, e3, hq3⟩
      have pl : ((pcs z lo i).map V.int).length ≤ 1000 := by
        have := pcs_len (lo := lo) hz i
        rw [List.length_map]; omega
      walk_at "go"
      intro p np
      generalize hu4 : upd _ p _ = H4
      obtain ⟨e4, hp⟩ := Vc.alloc hu4 np
      have hq4 := e4.at0 hq3
      have e4' : Vc.Ed [] H H4 := by walk_at "ed"
      refine go_eqLs (ns := pcs z lo i) (ms := []) (.of hq4) (.of hp) ?_
      cases i with
      | zero =>
        rw [show decide (pcs z lo 0 = []) = true from rfl]
        walk_at "go"
        generalize hu5 : upd _ q _ = H5
        obtain ⟨e5, hq5⟩ := Vc.chg hu5 hq4
        refine ⟨_, _, rfl, e4'.one e5 (.inr nq), ?_⟩
        rw [hq5]
        have : pcs z lo 1 = [(lo + ((0 : Nat) : Int)) / z] := by
          show Vc.rgI _ _ = _
          rw [show lo + ((0 : Nat) : Int) = lo by omega, Vc.rgI_snoc (Int.le_refl _), Vc.rgI_nil (Int.le_refl _)]; rfl
        rw [this]; rfl
      | succ i =>
        have le1 := (chs_near (k := i) hz (x := lo) (y := lo + i) (by omega) (by omega)).1
        have ep : pcs z lo (i + 1) = Vc.rgI (lo / z) ((lo + i) / z) ++ [(lo + i) / z] := Vc.rgI_snoc le1
        have hne : decide (pcs z lo (i + 1) = []) = false := decide_eq_false (by rw [ep]; simp)
        have ix : atI ((pcs z lo (i + 1)).map V.int) ((((pcs z lo (i + 1)).map V.int).length : Int) - 1) = some (.int ((lo + i) / z)) := by
          rw [ep, List.map_append]
          exact atI_last _ _
        rw [hne]
        walk_at "go"
        have st := chs_step (x := lo + i) hz
        have ca : lo + ((i + 1 : Nat) : Int) = lo + i + 1 := by omega
        rw [ca]
        refine Vc.go_iten (fun h1 => ?_) (fun h1 => ?_)
        · walk_at "go"
          generalize hu5 : upd _ q _ = H5
          obtain ⟨e5, hq5⟩ := Vc.chg hu5 hq4
          refine ⟨_, _, rfl, e4'.one e5 (.inr nq), ?_⟩
          rw [hq5]
          have h2 : (lo + i + 1) / z = (lo + i) / z + 1 := by
            rcases st with e | e
            · exact absurd e.symm h1
            · exact e
          have : pcs z lo (i + 1 + 1) = pcs z lo (i + 1) ++ [(lo + i + 1) / z] := by
            show Vc.rgI _ _ = Vc.rgI _ _ ++ _
            rw [ca, h2, Vc.rgI_snoc (a := lo / z) (b := (lo + i) / z + 1) (by omega)]
          rw [this, List.map_append]; rfl
        · walk_at "go"
          refine ⟨_, _, rfl, e4', ?_⟩
          rw [hq4]
          have : pcs z lo (i + 1 + 1) = pcs z lo (i + 1) := by
            show Vc.rgI _ _ = Vc.rgI _ _
            rw [ca, ← h1]
          rw [this]
    · rintro σ H3 ⟨x, y, rfl, e3, hq3⟩
      walk_at "go"
      refine k q H3 e3 ?_
      obtain ⟨n, hn⟩ : ∃ n : Nat, (hi - lo).toNat = n + 1 := ⟨(hi - lo).toNat - 1, by omega⟩
      rw [hn] at hq3
      have : hi - 1 = lo + n := by omega
      rw [this]
      exact hq3
theorem ok__law_pair (T : Txt K mg A) : FnOk PG w K mg base CX0 2 A.f__law_pair A.d__law_pair ["_law_bag_here", "_law_size", "_law_unit"] spPair := by
  have G__law_draw := ok__law_draw (P := PG) (w := w) (base := base) T
  refine T.F__law_pair.ok sc__law_pair (fun vs H Q E h => ?_) (fun cdv Ar outer s H vs Q E hr h => ?_)
  · obtain ⟨b, c, z, u, rfl, _⟩ := h
    rfl
  · obtain ⟨b, c, z, u, rfl, hB, hu, z0, z1, k⟩ := h
    obtain ⟨u0, u1⟩ := chs_pos hu
    refine ⟨_, (pss_cons (ps_set (i := 3) sc__law_pair.nd rfl (Or.inl rfl) (pe_call G__law_draw (by exact hr.mono (by decide)) (by rfl) T.g__law_draw T.F__law_draw.kp T.b__law_draw .nil pass0 (pa_cons (pv 0) (pa_cons (pv 1) pa_nil)))) (Evl.pss_cut (ps_if (pt_cmpR op_eq (pe_call G__law_draw (by exact hr.mono (by decide)) (by rfl) T.g__law_draw T.F__law_draw.kp T.b__law_draw .nil pass0 (pa_cons (pv 0) (pa_cons pe_int pa_nil))) pe_int (nomark _)) (pss_one (ps_set (i := 3) sc__law_pair.nd rfl (Or.inl rfl) (pe_op op_mulW (pe_op op_fdivW (pv 3) (pv 2)) (pv 2)))) pss_nil) (pss_cons (ps_set (i := 4) sc__law_pair.nd rfl (Or.inl rfl) (pe_op op_add pe_int (pe_call G__law_draw (by exact hr.mono (by decide)) (by rfl) T.g__law_draw T.F__law_draw.kp T.b__law_draw .nil pass0 (pa_cons (pv 0) (pa_cons pe_int pa_nil))))) (Evl.pss_cut (ps_if (pt_cmpR op_eq (pe_call G__law_draw (by exact hr.mono (by decide)) (by rfl) T.g__law_draw T.F__law_draw.kp T.b__law_draw .nil pass0 (pa_cons (pv 0) (pa_cons pe_int pa_nil))) pe_int (nomark _)) (pss_one (ps_set (i := 4) sc__law_pair.nd rfl (Or.inl rfl) (pv 2))) pss_nil) (pss_one (ps_ret (pe_tup (pa_cons (pv 3) (pa_cons (pe_callB (call_min2 rfl) (by rfl) T.n_min (by decide +kernel) (pa_cons (pe_op op_add (pv 3) (pv 4)) (pa_cons (pv 1) pa_nil))) pa_nil))))))))), ?_⟩
    walk_at "go"
    refine ⟨b, c, z, rfl, hB, z0, by omega, fun i H2 i0 i1 e2 hB2 => ?_⟩
    walk_at "go"
    refine Evl.q_cut (M := fun σ H' => ∃ lo, σ = [some (.ref b), some (.int z), some (.int u), some (.int lo), none] ∧ 0 ≤ lo ∧ lo < z ∧ Vc.Ed [b] H H' ∧ Bag H' b c) ?_ ?_
    · walk_at "go"
      refine ⟨b, c, 2, rfl, hB2, by omega, by omega, fun j H3 j0 j1 e3 hB3 => ?_⟩
      walk_at "go"
      have cd := chs_div hu i0
      refine Vc.go_ite (fun h1 => ?_) (fun h1 => ?_)
      · walk_at "go"
        exact ⟨_, rfl, (chs_floor hu i0).1, Int.lt_of_le_of_lt (chs_floor hu i0).2 i1, by walk_at "ed", hB3⟩
      · walk_at "go"
        exact ⟨i, rfl, i0, i1, by walk_at "ed", hB3⟩
    · rintro σ H3 ⟨lo, rfl, l0, l1, e3, hB3⟩
      walk_at "go"
      refine ⟨b, c, 24, rfl, hB3, by omega, by omega, fun j H4 j0 j1 e4 hB4 => ?_⟩
      walk_at "go"
      refine Evl.q_cut (M := fun σ H' => ∃ ln, σ = [some (.ref b), some (.int z), some (.int u), some (.int lo), some (.int ln)] ∧ 1 ≤ ln ∧ ln ≤ 24 ∧ Vc.Ed [b] H H' ∧ Bag H' b c) ?_ ?_
      · walk_at "go"
        refine ⟨b, c, 2, rfl, hB4, by omega, by omega, fun g H5 g0 g1 e5 hB5 => ?_⟩
        walk_at "go"
        refine Vc.go_ite (fun h1 => ?_) (fun h1 => ?_)
        · walk_at "go"
          exact ⟨_, rfl, by omega, by omega, e5.one' (e4.one' e3 (.inl (List.mem_singleton.mpr rfl))) (.inl (List.mem_singleton.mpr rfl)), hB5⟩
        · walk_at "go"
          exact ⟨_, rfl, by omega, by omega, e5.one' (e4.one' e3 (.inl (List.mem_singleton.mpr rfl))) (.inl (List.mem_singleton.mpr rfl)), hB5⟩
      · rintro σ H5 ⟨ln, rfl, n0, n1, e5, hB5⟩
        walk_at "go"
        intro q nq
        generalize hu6 : upd _ q _ = H6
        obtain ⟨e6, hq6⟩ := Vc.alloc hu6 nq
        walk_at "go"
        refine k lo _ q H6 l0 ?_ ?_ ?_ (by walk_at "ed") (hB5.ed0 e6) hq6
        · split <;> omega
        · split <;> omega
        · split <;> omega
end

end My
namespace My
open PySem PySem.Spec PyProof.Rows L2
def spLaw (K : PySem.W.Frag) : Sp := fun vs H Q _ => ∃ (a : Addr) (ns : List Int), vs = [.ref a] ∧ SqL K H a (ns.map V.int) ∧ ns.length ≤ 63 ∧ ∀ H', Q (.bl true) H'
theorem Shal.up : ∀ {n : Nat} {d : PyData}, Shal n d → Shal (n + 1) d
  | 0, _, h => .inl h
  | n + 1, _, h => by
    rcases h with h | ⟨ds, e, l, h⟩
    · exact .inl h
    · exact .inr ⟨ds, e, l, fun x hx => Shal.up (h x hx)⟩
theorem dp_tint {K : PySem.W.Frag} {H : Hp} {q : Addr} {ns : List Int} (h : H q = some (.tup (ns.map V.int))) : Dp K H (.ref q) (.tuple (ns.map PyData.int)) := .tup (.inl (.inl h)) (dp_ints ns)
theorem dp_lint {K : PySem.W.Frag} {H : Hp} {q : Addr} {ns : List Int} (h : H q = some (.lst (ns.map V.int))) : Dp K H (.ref q) (.list (ns.map PyData.int)) := .lst (.of h) (dp_ints ns)
theorem at_ints1 (ns : List Int) : ∀ x ∈ ns.map PyData.int, Shal 0 x := fun x hx => by
  obtain ⟨n, _, rfl⟩ := List.mem_map.mp hx
  exact .inr (.inr (.inl ⟨n, rfl⟩))
theorem sh_ints (ns : List Int) (h : ns.length ≤ 1000) : Shal 1 (.tuple (ns.map PyData.int)) := .inr ⟨_, .inr rfl, by rw [List.length_map]; exact h, at_ints1 ns⟩
theorem shl_ints (ns : List Int) (h : ns.length ≤ 1000) : Shal 1 (.list (ns.map PyData.int)) := .inr ⟨_, .inl rfl, by rw [List.length_map]; exact h, at_ints1 ns⟩
theorem LayAt.bag {A : Ad} {H H' : Hp} {p b c : Addr} {u d : Int} (e : Vc.Ed [b] H H') (B : Bag H b c) (h : LayAt A H p u d) : LayAt A H' p u d := by
  obtain ⟨ns, a, r, s, B⟩ := B
  obtain ⟨dx, h⟩ := h
  exact ⟨dx, e.at1 (ne_of h B.ob (by intro z; cases z)) h⟩
theorem Bag.ne_lst {H : Hp} {b c q : Addr} {xs : List V} (B : Bag H b c) (h : H q = some (.lst xs)) : q ≠ b := by
  obtain ⟨ns, a, r, s, B⟩ := B
  exact ne_of h B.ob (by intro z; cases z)
/-- x brought between lo and hi -/
def clip (lo hi x : Int) : Int := if x ≤ lo then lo else if hi ≤ x then hi else x
theorem clip_lo {lo hi x : Int} (h : x ≤ lo) : clip lo hi x = lo := if_pos h
theorem clip_hi {lo hi x : Int} (l : lo < hi) (h : hi ≤ x) : clip lo hi x = hi := by unfold clip; rw [if_neg (by omega), if_pos h]
theorem clip_mid {lo hi x : Int} (l : lo ≤ x) (h : x < hi) : clip lo hi x = x := by
  unfold clip
  split
  · omega
  · rw [if_neg (by omega)]
theorem clip_mono {lo hi x y : Int} (l : lo < hi) (h : x ≤ y) : clip lo hi x ≤ clip lo hi y := by
  unfold clip; split <;> split <;> (try split) <;> omega
theorem clip_ge {lo hi x : Int} (l : lo < hi) : lo ≤ clip lo hi x := by
  unfold clip; split
  · omega
  · split <;> omega
theorem clip_le {lo hi x : Int} (l : lo < hi) : clip lo hi x ≤ hi := by
  unfold clip; split
  · omega
  · split <;> omega
def spAsked (A : Ad) : Sp := fun vs H Q _ => ∃ (p : Addr) (u c size lo hi : Int), vs = [.ref p, .int u, .int c, .int size, .int lo, .int hi] ∧ LayAt A H p u c ∧ u ∈ CHS ∧ c ∈ CHS ∧
  0 ≤ lo ∧ lo < hi ∧ hi ≤ size ∧ hi ≤ lo + 100 ∧ size < 2 ^ 100 ∧ ∀ H', Vc.Ed [] H H' → Q (.bl true) H'
section
variable {w : World} {K : PySem.W.Frag} {mg : Str → Option Value} {base : Heap} {A : Ad}
theorem ok__law_asked (T : Txt K mg A) : FnOk PG w K mg base CX0 3 A.f__law_asked A.d__law_asked ["_law_layout", "_law_unit", "_law_chunk", "_law_size", "_law_low", "_law_high"] (spAsked A) := by
  have G__law_same := ok__law_same (P := PG) (w := w) (base := base) T 2
  have G__law_pieces := ok__law_pieces (w := w) (base := base) T
  have G_Layout_units := ok_Layout_units (w := w) (base := base) T
  have G_Layout_chunks := ok_Layout_chunks (w := w) (base := base) T
  have G_Layout_span := ok_Layout_span (w := w) (base := base) T
  refine T.F__law_asked.ok sc__law_asked (fun vs H Q E h => ?_) (fun cdv Ar outer s H vs Q E hr h => ?_)
  · obtain ⟨p, u, c, z, lo, hi, rfl, _⟩ := h
    rfl
  · obtain ⟨p, u, c, z, lo, hi, rfl, hL, hu, hc, l0, l1, l2, l3, l4, k⟩ := h
    obtain ⟨u0, u1⟩ := chs_pos hu
    have nu := chs_near hu (x := lo) (y := hi - 1) (k := 99) (by omega) (by omega)
    have nc := chs_near hc (x := lo) (y := hi - 1) (k := 99) (by omega) (by omega)
    have fl := chs_floor hu l0
    have dv := chs_div hu l0
    have dh := chs_div hu (x := hi - 1) (by omega)
    have hE : hi ≤ ((hi - 1) / u + 1) * u := by
      have := Int.lt_ediv_add_one_mul_self (hi - 1) u0
      omega
    obtain ⟨dx, hp⟩ := id hL
    refine ⟨_, (pss_cons (ps_set (i := 6) sc__law_asked.nd rfl (Or.inl rfl) (pe_meth (pv 0) T.cl_Layout T.m_Layout_units G_Layout_units (by exact hr.mono (by decide)) T.b_Layout_units .nil pass0 (pa_cons (pv 4) (pa_cons (pv 5) pa_nil)))) (pss_cons (ps_if (pt_not (pt_val (pe_call G__law_same (by exact hr.mono (by decide)) (by rfl) T.g__law_same T.F__law_same.kp T.b__law_same .nil pass0 (pa_cons (pv 6) (pa_cons (pe_call G__law_pieces (by exact hr.mono (by decide)) (by rfl) T.g__law_pieces T.F__law_pieces.kp T.b__law_pieces .nil pass0 (pa_cons (pv 1) (pa_cons (pv 4) (pa_cons (pv 5) pa_nil)))) pa_nil))))) (pss_one (ps_ret pe_bl)) pss_nil) (pss_cons (ps_if (pt_not (pt_val (pe_call G__law_same (by exact hr.mono (by decide)) (by rfl) T.g__law_same T.F__law_same.kp T.b__law_same .nil pass0 (pa_cons (pe_meth (pv 0) T.cl_Layout T.m_Layout_chunks G_Layout_chunks (by exact hr.mono (by decide)) T.b_Layout_chunks .nil pass0 (pa_cons (pv 4) (pa_cons (pv 5) pa_nil))) (pa_cons (pe_call G__law_pieces (by exact hr.mono (by decide)) (by rfl) T.g__law_pieces T.F__law_pieces.kp T.b__law_pieces .nil pass0 (pa_cons (pv 2) (pa_cons (pv 4) (pa_cons (pv 5) pa_nil)))) pa_nil))))) (pss_one (ps_ret pe_bl)) pss_nil) (pss_cons (ps_set (i := 7) sc__law_asked.nd rfl (Or.inl rfl) (pe_lst pa_nil)) (pss_cons (ps_for PassesOwn.never rfl (pi_list (pv 6)) (pg_name (i := 8) sc__law_asked.nd rfl (Or.inl rfl)) (pss_cons (ps_set (i := 9) sc__law_asked.nd rfl (Or.inl rfl) (pe_meth (pv 0) T.cl_Layout T.m_Layout_span G_Layout_span (by exact hr.mono (by decide)) T.b_Layout_span .nil pass0 (pa_cons (pv 8) (pa_cons (pv 3) pa_nil)))) (pss_cons (ps_set (i := 10) sc__law_asked.nd rfl (Or.inl rfl) (pe_tup (pa_cons (pe_op op_mulW (pv 8) (pv 1)) (pa_cons (pe_op op_add (pe_op op_mulW (pv 8) (pv 1)) (pv 1)) pa_nil)))) (Evl.pss_cut (ps_if (pt_cmpR op_gt (pe_ix ix_tup (pv 10) pe_int (fun _ _ => rfl)) (pv 3) (nomark _)) (pss_one (ps_set (i := 10) sc__law_asked.nd rfl (Or.inl rfl) (pe_tup (pa_cons (pe_ix ix_tup (pv 10) pe_int (fun _ _ => rfl)) (pa_cons (pv 3) pa_nil))))) pss_nil) (pss_cons (ps_if (pt_not (pt_val (pe_call G__law_same (by exact hr.mono (by decide)) (by rfl) T.g__law_same T.F__law_same.kp T.b__law_same .nil pass0 (pa_cons (pv 9) (pa_cons (pv 10) pa_nil))))) (pss_one (ps_ret pe_bl)) pss_nil) (pss_one (ps_set (i := 7) sc__law_asked.nd rfl (Or.inl rfl) (pe_op op_cat (pv 7) (pe_lc (own := [("_law_address", 11)]) (g := gName 11) rfl sc__law_asked.nd (Vc.pi_rangeL (by rfl) T.n_range (pa_cons (pe_ix ix_tup (pv 9) pe_int (fun _ _ => rfl)) (pa_cons (pe_ix ix_tup (pv 9) pe_int (fun _ _ => rfl)) pa_nil))) (blkOk_by (own := [("_law_address", 11)]) (N := ["_law_layout", "_law_unit", "_law_chunk", "_law_size", "_law_low", "_law_high", "_law_units", "_law_held", "_law_piece", "_law_span", "_law_due", "_law_address"]) (sc := defScope s__law_asked) (by decide +kernel)) (fun _ _ _ _ _ => by exact (pg_name (i := 11) sc__law_asked.nd rfl (Or.inl rfl))) (fun _ _ _ _ _ => by (refine' Vc.blkT ?h ?q; (case h => exact pts_one (pt_chain op_le op_lt (pv 4) (pv 11) (pv 5))); (case q => first | exact rfl | (dsimp only; done) | (dsimp only; exact rfl)))) (fun _ _ _ _ _ => by (refine' Vc.blkE ?h ?q; (case h => exact (pv 11)); (case q => first | exact rfl | (dsimp only; done) | (dsimp only; exact rfl))))))))))))) (pss_one (ps_ret (pe_cmpR (op_eqD (by exact hr.units)) (pv 7) (Vc.pe_listRgL rfl (by rfl) T.n_list (prg_2 (by rfl) T.n_range (pv 4) (pv 5))) (nomark _))))))))), ?_⟩
    walk_at "go"
    refine ⟨p, u, c, lo, hi, rfl, hL, hu, l0, l1, by omega, fun q H2 e2 hq => ?_⟩
    have hL2 := hL.ed0 e2
    walk_at "go"
    refine ⟨u, lo, hi, rfl, hu, l0, l1, by omega, fun r H3 e3 hr3 => ?_⟩
    walk_at "go"
    refine ⟨_, _, _, rfl, shl_ints _ (by rw [Vc.rgI_len]; omega), dp_lint (e3.at0 hq), dp_lint hr3, fun H4 e4 => ?_⟩
    have hL4 := (hL2.ed0 e3).ed0 e4
    obtain ⟨dx4, hp4⟩ := id hL4
    have hq4 := e4.at0 (e3.at0 hq)
    walk_at "go"
    refine ⟨p, u, c, lo, hi, rfl, hL4, hc, l0, l1, by omega, fun q' H5 e5 hq' => ?_⟩
    walk_at "go"
    refine ⟨c, lo, hi, rfl, hc, l0, l1, by omega, fun r' H6 e6 hr' => ?_⟩
    walk_at "go"
    refine ⟨_, _, _, rfl, shl_ints _ (by rw [Vc.rgI_len]; omega), dp_lint (e6.at0 hq'), dp_lint hr', fun H7 e7 => ?_⟩
    have hL7 := ((hL4.ed0 e5).ed0 e6).ed0 e7
    have hq7 := e7.at0 (e6.at0 (e5.at0 hq4))
    walk_at "go"
    intro h nh
    generalize hu8 : upd _ h _ = H8
    obtain ⟨e8, hh⟩ := Vc.alloc hu8 nh
    have hL8 := hL7.ed0 e8
    have hq8 := e8.at0 hq7
    have e08 : Vc.Ed [] H H8 := by walk_at "ed"
    walk_at "go"
    refine ⟨⟨_, .of hq8⟩, for_list (xs := rgD (lo / u) ((hi - 1) / u + 1)) (fun i σ H' => ∃ h y1 y2 y3 y4, σ = [some (.ref p), some (.int u), some (.int c), some (.int z), some (.int lo), some (.int hi), some (.ref q), some (.ref h), y1, y2, y3, y4] ∧ Vc.Ed [] H8 H' ∧ H' h = some (.lst (rgD lo (clip lo hi ((lo / u + i) * u))))) ?_ ?_ ?_ ?_⟩
    · refine ⟨h, none, none, none, none, rfl, .refl, ?_⟩
      rw [clip_lo (by rw [show lo / u + ((0 : Nat) : Int) = lo / u by omega]; exact fl.2)]
      unfold rgD
      rw [Vc.rgI_nil (Int.le_refl _)]
      exact hh
    · rintro i σ H' _ ⟨h, y1, y2, y3, y4, rfl, e, _⟩
      exact .of (e.at0 hq8)
    · rintro i x σ H9 hx ⟨h, y1, y2, y3, y4, rfl, e9, hh⟩
      obtain ⟨y, rfl, hy⟩ : ∃ y, x = .int y ∧ (Vc.rgI (lo / u) ((hi - 1) / u + 1))[i]? = some y := by
        unfold rgD at hx
        rw [List.getElem?_map] at hx
        cases e : (Vc.rgI (lo / u) ((hi - 1) / u + 1))[i]? with
        | none => rw [e] at hx; cases hx
        | some y => rw [e] at hx; cases hx; exact ⟨y, rfl, rfl⟩
      obtain ⟨hy, hy2⟩ := Vc.rgI_get hy
      rw [← hy] at hh hy2
      have hL9 := hL8.ed0 e9
      obtain ⟨dx9, hp9⟩ := id hL9
      walk_at "go"
      refine ⟨p, u, c, y, z, rfl, hL9, hu, by omega, fun sp H10 e10 hsp => ?_⟩
      walk_at "go"
      have X0 : 0 ≤ y * u := Int.mul_nonneg (by omega) (by omega)
      have X1 : y * u ≤ hi - 1 := (Int.le_ediv_iff_mul_le u0).mp (by omega)
      have X2 : (lo / u + ((i + 1 : Nat) : Int)) * u = y * u + u := by
        rw [show lo / u + ((i + 1 : Nat) : Int) = y + 1 by omega, Int.add_mul, Int.one_mul]
      generalize y * u = X at hh hsp X0 X1 X2 ⊢
      intro d nd
      generalize hu11 : upd _ d _ = H11
      obtain ⟨e11, hd⟩ := Vc.alloc hu11 nd
      have hsp11 := e11.at0 hsp
      have hh11 := e11.at0 (e10.at0 hh)
      have i0 : atI [V.int X, .int (X + u)] 0 = some (.int X) := rfl
      have i1 : atI [V.int X, .int (X + u)] 1 = some (.int (X + u)) := rfl
      walk_at "go"
      refine Evl.q_cut (M := fun σ H' => ∃ d, σ = [some (.ref p), some (.int u), some (.int c), some (.int z), some (.int lo), some (.int hi), some (.ref q), some (.ref h), some (.int y), some (.ref sp), some (.ref d), y4] ∧ Vc.Ed [] H11 H' ∧ H' d = some (.tup [.int X, .int (if X + u ≤ z then X + u else z)])) ?_ ?_
      · walk_at "go"
        refine Vc.go_ite (fun h1 => ?_) (fun h1 => ?_)
        · walk_at "go"
          intro d' nd'
          generalize hu12 : upd _ d' _ = H12
          obtain ⟨e12, hd'⟩ := Vc.alloc hu12 nd'
          refine ⟨d', rfl, e12, ?_⟩
          rw [if_neg (by omega)]; exact hd'
        · walk_at "go"
          refine ⟨d, rfl, .refl, ?_⟩
          rw [if_pos (by omega)]; exact hd
      · rintro σ H12 ⟨d, rfl, e12, hd⟩
        have hsp12 := e12.at0 hsp11
        have hh12 := e12.at0 hh11
        obtain ⟨Z, hZ⟩ : ∃ Z, Z = if X + u ≤ z then X + u else z := ⟨_, rfl⟩
        rw [← hZ] at hsp12 hd
        walk_at "go"
        refine ⟨_, _, _, rfl, sh_ints [X, Z] (by show 2 ≤ 1000; decide), dp_tint (ns := [X, Z]) hsp12, dp_tint (ns := [X, Z]) hd, fun H13 e13 => ?_⟩
        have hsp13 := e13.at0 hsp12
        have hh13 := e13.at0 hh12
        have i2 : atI [V.int X, .int Z] 0 = some (.int X) := rfl
        have i3 : atI [V.int X, .int Z] 1 = some (.int Z) := rfl
        walk_at "go"
        refine Vc.lc_by (walk_range (lo := X)) (fun D i H' => Vc.Ed [] H13 H' ∧ H' D = some (.lst (rgD (clip lo hi X) (clip lo hi (X + i))))) (fun D H2 nD e hD => ⟨e, ?_⟩) (fun _ _ _ _ _ _ => trivial) ?_ ?_
        · rw [show X + ((0 : Nat) : Int) = X by omega]
          unfold rgD
          rw [Vc.rgI_nil (Int.le_refl _)]
          exact hD
        · rintro D j y H14 H15 nD hj ⟨e14, hD⟩ ⟨rfl, rfl⟩
          have m1 := clip_mono (lo := lo) (hi := hi) (x := X) (y := X + j) l1 (by omega)
          have m2 : X + ((j + 1 : Nat) : Int) = X + j + 1 := by omega
          walk_at "go"
          refine ⟨rfl, ?_⟩
          walk_at "go"
          refine Vc.go_ite (fun c1 => ?_) (fun c1 => ?_)
          · walk_at "go"
            refine Vc.go_ite (fun c2 => ?_) (fun c2 => ?_)
            · walk_at "go"
              have q0 := clip_mid c1 c2
              have q1 : clip lo hi (X + j + 1) = X + j + 1 := by
                by_cases g : X + j + 1 < hi
                · exact clip_mid (by omega) g
                · rw [clip_hi l1 (by omega)]; omega
              have q2 := clip_ge (hi := hi) (x := X) l1
              refine ⟨_, hD, ?_, ?_⟩
              · unfold rgD
                rw [List.length_map, Vc.rgI_len]
                exact small1000 (by omega)
              generalize hu16 : upd _ D _ = H16
              obtain ⟨e16, hD16⟩ := Vc.chg hu16 hD
              refine ⟨e14.one e16 (.inr nD), ?_⟩
              rw [hD16, m2, q1]
              unfold rgD
              rw [q0, Vc.rgI_snoc (by omega), List.map_append]; rfl
            · walk_at "go"
              refine ⟨e14, ?_⟩
              have z1 : clip lo hi (X + j + 1) = clip lo hi (X + j) := by rw [clip_hi (x := X + j + 1) l1 (by omega), clip_hi (x := X + j) l1 (by omega)]
              rw [m2, z1]
              exact hD
          · walk_at "go"
            refine ⟨e14, ?_⟩
            have z1 : clip lo hi (X + j + 1) = clip lo hi (X + j) := by rw [clip_lo (x := X + j + 1) (by omega), clip_lo (x := X + j) (by omega)]
            rw [m2, z1]
            exact hD
        · rintro D H14 nD ⟨e14, hD⟩
          have hh14 := e14.at0 hh13
          have eZ : X + (((Z - X).toNat : Nat) : Int) = Z := by
            have : X ≤ Z := by rw [hZ]; split <;> omega
            omega
          have eC : clip lo hi Z = clip lo hi (X + u) := by
            rw [hZ]
            split
            · rfl
            · rw [clip_hi l1 (by omega), clip_hi l1 (by omega)]
          rw [eZ, eC] at hD
          have a1 := clip_ge (hi := hi) (x := X) l1
          have a2 := clip_mono (lo := lo) (hi := hi) (x := X) (y := X + u) l1 (by omega)
          have a3 := clip_le (lo := lo) (x := X + u) l1
          refine Vc.go_cat hh14 hD (by unfold rgD; rw [List.length_map, List.length_map, Vc.rgI_len, Vc.rgI_len]; omega) fun R nR => ?_
          generalize hu16 : upd _ R _ = H16
          obtain ⟨e16, hR⟩ := Vc.alloc hu16 nR
          walk_at "go"
          refine ⟨R, _, _, _, _, rfl, by walk_at "ed", ?_⟩
          rw [hR, X2]
          unfold rgD
          rw [← List.map_append, Vc.rgI_cat a1 a2]
    · rintro σ H9 ⟨h, y1, y2, y3, y4, rfl, e9, hh⟩
      have hn : clip lo hi ((lo / u + ((rgD (lo / u) ((hi - 1) / u + 1)).length : Nat)) * u) = hi := by
        unfold rgD
        rw [List.length_map, Vc.rgI_len, show lo / u + ((((hi - 1) / u + 1 - lo / u).toNat : Nat) : Int) = (hi - 1) / u + 1 by omega]
        exact clip_hi l1 hE
      rw [hn] at hh
      walk_at "go"
      refine ⟨by omega, fun r nr => ?_⟩
      generalize hu10 : upd _ r _ = H10
      obtain ⟨e10, hr10⟩ := Vc.alloc hu10 nr
      walk_at "go"
      refine go_eqLs (.of (e10.at0 hh)) (.of hr10) ?_
      walk_at "go"
      rw [decide_eq_true rfl]
      exact k H10 (by walk_at "ed")
theorem lay_ok {u c : Int} (hu : u ∈ UNS) (hc : c ∈ CHS) (h : ¬ c < u) : layErr u c = none := by
  unfold layErr; rw [if_neg (fun z => z hu), if_neg (fun z => z.elim (fun z => z hc) h)]
theorem uns_chs {u : Int} (h : u ∈ UNS) : u ∈ CHS := by
  have : u = 1 ∨ u = 2 ∨ u = 4 ∨ u = 8 := by simpa [UNS] using h
  rcases this with rfl | rfl | rfl | rfl <;> decide
theorem ints_at {ns : List Int} {i : Nat} {x : V} (h : (ns.map V.int)[i]? = some x) : ∃ n, x = .int n ∧ n ∈ ns := by
  obtain ⟨n, hn, rfl⟩ := List.mem_map.mp (List.mem_of_getElem? h)
  exact ⟨n, rfl, hn⟩
theorem ok_law (T : Txt K mg A) : FnOk PG w K mg base CX0 6 A.f_law A.d_law ["_law_script"] (spLaw K) := by
  have G__law_bag := ok__law_bag (P := PG) (w := w) (base := base) T
  have G__law_draw := ok__law_draw (P := PG) (w := w) (base := base) T
  have G__law_same := ok__law_same (P := PG) (w := w) (base := base) T 2
  have G__law_pair := ok__law_pair (w := w) (base := base) T
  have G__law_asked := ok__law_asked (w := w) (base := base) T
  have G_Layoutu_initu := ok_Layoutu_initu (w := w) (base := base) T
  have G_Layout_unit := ok_Layout_unit (w := w) (base := base) T
  have G_Layout_chunk := ok_Layout_chunk (w := w) (base := base) T
  refine T.F_law.ok sc_law (fun vs H Q E h => ?_) (fun cdv Ar outer s H vs Q E hr h => ?_)
  · obtain ⟨a, ns, rfl, _⟩ := h
    rfl
  · obtain ⟨a, ns, rfl, hS, hl, k⟩ := h
    refine ⟨_, (pss_cons (ps_set (i := 1) sc_law.nd rfl (Or.inl rfl) (pe_call G__law_bag (by exact hr.mono (by decide)) (by rfl) T.g__law_bag T.F__law_bag.kp T.b__law_bag .nil pass0 (pa_cons (pv 0) pa_nil))) (pss_cons (ps_for PassesOwn.never rfl (pi_list (pe_lst (pa_cons pe_int (pa_cons pe_int (pa_cons pe_int (pa_cons pe_int pa_nil)))))) (pg_name (i := 2) sc_law.nd rfl (Or.inl rfl)) (pss_one (ps_for PassesOwn.never rfl (pi_list (pe_lst (pa_cons pe_int (pa_cons pe_int (pa_cons pe_int (pa_cons pe_int (pa_cons pe_int pa_nil))))))) (pg_name (i := 3) sc_law.nd rfl (Or.inl rfl)) (pss_one (ps_if (pt_cmpR op_ge (pv 3) (pv 2) (nomark _)) (pss_cons (ps_set (i := 4) sc_law.nd rfl (Or.inl rfl) (pe_op op_add pe_int (pe_call G__law_draw (by exact hr.mono (by decide)) (by rfl) T.g__law_draw T.F__law_draw.kp T.b__law_draw .nil pass0 (pa_cons (pv 1) (pa_cons pe_int pa_nil))))) (Evl.pss_cut (ps_if (pt_cmpR op_eq (pe_call G__law_draw (by exact hr.mono (by decide)) (by rfl) T.g__law_draw T.F__law_draw.kp T.b__law_draw .nil pass0 (pa_cons (pv 1) (pa_cons pe_int pa_nil))) pe_int (nomark _)) (pss_one (ps_set (i := 4) sc_law.nd rfl (Or.inl rfl) (pe_op op_add pe_int (pe_call G__law_draw (by exact hr.mono (by decide)) (by rfl) T.g__law_draw T.F__law_draw.kp T.b__law_draw .nil pass0 (pa_cons (pv 1) (pa_cons (pe_op op_pow pe_int pe_int) pa_nil)))))) pss_nil) (pss_cons (ps_asg (pe_call G__law_pair (by exact hr.mono (by decide)) (by rfl) T.g__law_pair T.F__law_pair.kp T.b__law_pair .nil pass0 (pa_cons (pv 1) (pa_cons (pv 4) (pa_cons (pv 2) pa_nil)))) (pg_tup rfl (pgs_cons (pg_name (i := 5) sc_law.nd rfl (Or.inl rfl)) (pgs_cons (pg_name (i := 6) sc_law.nd rfl (Or.inl rfl)) pgs_nil)))) (pss_cons (ps_set (i := 7) sc_law.nd rfl (Or.inl rfl) (pe_make T.mk_Layout G_Layoutu_initu (by exact hr.mono (by decide)) (by rfl) T.g_Layout T.b_Layoutu_initu .nil passL (pa_cons (pv 2) (pa_cons (pv 3) pa_nil)))) (pss_cons (ps_if (pt_not (pt_val (pe_call G__law_asked (by exact hr.mono (by decide)) (by rfl) T.g__law_asked T.F__law_asked.kp T.b__law_asked .nil pass0 (pa_cons (pv 7) (pa_cons (pv 2) (pa_cons (pv 3) (pa_cons (pv 4) (pa_cons (pv 5) (pa_cons (pv 6) pa_nil))))))))) (pss_one (ps_ret pe_bl)) pss_nil) (pss_one (ps_if (pt_not (pt_val (pe_call G__law_same (by exact hr.mono (by decide)) (by rfl) T.g__law_same T.F__law_same.kp T.b__law_same .nil pass0 (pa_cons (pe_tup (pa_cons (pe_prop (pv 7) T.cl_Layout T.p_Layout_unit G_Layout_unit (by exact hr.mono (by decide)) T.b_Layout_unit .nil pass0 (by rfl)) (pa_cons (pe_prop (pv 7) T.cl_Layout T.p_Layout_chunk G_Layout_chunk (by exact hr.mono (by decide)) T.b_Layout_chunk .nil pass0 (by rfl)) pa_nil))) (pa_cons (pe_tup (pa_cons (pv 2) (pa_cons (pv 3) pa_nil))) pa_nil))))) (pss_one (ps_ret pe_bl)) pss_nil))))))) pss_nil))))) (pss_one (ps_ret pe_bl)))), ?_⟩
    walk_at "go"
    refine ⟨a, ns, rfl, hS, hl, fun b c H1 e1 hB1 nb nc => ?_⟩
    walk_at "go"
    intro q nq
    generalize hu2 : upd _ q _ = H2
    obtain ⟨e2, hq⟩ := Vc.alloc hu2 nq
    have hB2 := hB1.ed0 e2
    walk_at "go"
    refine ⟨⟨_, .of hq⟩, for_list (xs := UNS.map V.int) (fun i σ H' => ∃ y1 y2 y3 y4 y5 y6, σ = [some (.ref a), some (.ref b), y1, y2, y3, y4, y5, y6] ∧ Bag H' b c ∧ H' q = some (.lst (UNS.map V.int))) ?_ ?_ ?_ ?_⟩
    · exact ⟨none, none, none, none, none, none, rfl, hB2, hq⟩
    · rintro i σ H' _ ⟨y1, y2, y3, y4, y5, y6, rfl, _, hq⟩
      exact .of hq
    · rintro i x σ H3 hx ⟨y1, y2, y3, y4, y5, y6, rfl, hB3, hq3⟩
      obtain ⟨u, rfl, hu⟩ := ints_at hx
      walk_at "go"
      intro r nr
      generalize hu4 : upd _ r _ = H4
      obtain ⟨e4, hr4⟩ := Vc.alloc hu4 nr
      have hB4 := hB3.ed0 e4
      have hq4 := e4.at0 hq3
      walk_at "go"
      refine ⟨⟨_, .of hr4⟩, for_list (xs := CHS.map V.int) (fun i σ H' => ∃ y2 y3 y4 y5 y6, σ = [some (.ref a), some (.ref b), some (.int u), y2, y3, y4, y5, y6] ∧ Bag H' b c ∧ H' q = some (.lst (UNS.map V.int)) ∧ H' r = some (.lst (CHS.map V.int))) ?_ ?_ ?_ ?_⟩
      · exact ⟨_, _, _, _, _, rfl, hB4, hq4, hr4⟩
      · rintro i σ H' _ ⟨y2, y3, y4, y5, y6, rfl, _, _, hr⟩
        exact .of hr
      · rintro j x σ H5 hx ⟨y2, y3, y4, y5, y6, rfl, hB5, hq5, hr5⟩
        obtain ⟨v, rfl, hv⟩ := ints_at hx
        walk_at "go"
        refine Vc.go_ite (fun h1 => ?_) (fun h1 => ?_)
        · walk_at "go"
          refine ⟨b, c, 24, rfl, hB5, by omega, by omega, fun z H6 z0 z1 e6 hB6 => ?_⟩
          have nqb : q ≠ b := hB5.ne_lst hq5
          have nrb : r ≠ b := hB5.ne_lst hr5
          have hq6 := e6.at1 nqb hq5
          have hr6 := e6.at1 nrb hr5
          walk_at "go"
          refine Evl.q_cut (M := fun σ H' => ∃ z, σ = [some (.ref a), some (.ref b), some (.int u), some (.int v), some (.int z), y4, y5, y6] ∧ 1 ≤ z ∧ z < 2 ^ 90 ∧ Bag H' b c ∧ H' q = some (.lst (UNS.map V.int)) ∧ H' r = some (.lst (CHS.map V.int))) ?_ ?_
          · walk_at "go"
            refine ⟨b, c, 4, rfl, hB6, by omega, by omega, fun g H7 g0 g1 e7 hB7 => ?_⟩
            have hq7 := e7.at1 nqb hq6
            have hr7 := e7.at1 nrb hr6
            walk_at "go"
            refine Vc.go_ite (fun h2 => ?_) (fun h2 => ?_)
            · walk_at "go"
              refine ⟨b, c, _, rfl, hB7, by decide, by decide, fun g H8 g0 g1 e8 hB8 => ?_⟩
              walk_at "go"
              refine ⟨_, rfl, by omega, ?_, hB8, e8.at1 nqb hq7, e8.at1 nrb hr7⟩
              have : g < 100000000000000000000 := g1
              omega
            · walk_at "go"
              exact ⟨_, rfl, by omega, by omega, hB7, hq7, hr7⟩
          · rintro σ H7 ⟨z, rfl, z0, z1, hB7, hq7, hr7⟩
            walk_at "go"
            refine ⟨b, c, z, u, rfl, hB7, uns_chs hu, z0, by omega, fun lo hi t H8 l0 l1 l2 l3 e8 hB8 ht => ?_⟩
            have hq8 := e8.at1 nqb hq7
            have hr8 := e8.at1 nrb hr7
            walk_at "go"
            refine ⟨t, _, rfl, .inl (.inl ht), rfl, _, _, rfl, ?_⟩
            walk_at "go"
            refine ⟨_, _, rfl, ?_⟩
            walk_at "go"
            refine ⟨rfl, ?_⟩
            walk_at "go"
            intro n dn nn ndn ne
            generalize hu9 : upd _ n _ = H9
            obtain ⟨e9, hn, hdn⟩ := Vc.allocI hu9 nn ndn ne
            have ok := lay_ok hu hv (by omega)
            refine ⟨n, dn, u, v, rfl, hn, fun e he => (by rw [ok] at he; cases he), fun _ H10 e10 hN10 => ⟨rfl, ?_⟩⟩
            have nbn := hB8.fb nn
            have hB10 := (hB8.ed0 e9).ed1 e10 nbn.1 nbn.2
            have hq10 := e10.at1 (ne_of_none hq8 nn) (e9.at0 hq8)
            have hr10 := e10.at1 (ne_of_none hr8 nn) (e9.at0 hr8)
            walk_at "go"
            refine ⟨n, u, v, z, lo, hi, rfl, hN10, uns_chs hu, hv, l0, l1, l2, l3, by omega, fun H11 e11 => ?_⟩
            have hN11 := hN10.ed0 e11
            obtain ⟨dn11, n11⟩ := id hN11
            walk_at "go"
            refine ⟨n, u, v, rfl, hN11, ?_⟩
            walk_at "go"
            refine ⟨n, u, v, rfl, hN11, ?_⟩
            walk_at "go"
            intro t1 nt1
            generalize hu12 : upd _ t1 _ = H12
            obtain ⟨e12, ht1⟩ := Vc.alloc hu12 nt1
            walk_at "go"
            intro t2 nt2
            generalize hu13 : upd _ t2 _ = H13
            obtain ⟨e13, ht2⟩ := Vc.alloc hu13 nt2
            have ht1' := e13.at0 ht1
            walk_at "go"
            refine ⟨_, _, _, rfl, sh_ints [u, v] (by show 2 ≤ 1000; decide), dp_tint (ns := [u, v]) ht1', dp_tint (ns := [u, v]) ht2, fun H14 e14 => ?_⟩
            have e104 : Vc.Ed [] H10 H14 := by walk_at "ed"
            walk_at "go"
            exact ⟨_, _, _, _, _, rfl, hB10.ed0 e104, e104.at0 hq10, e104.at0 hr10⟩
        · walk_at "go"
          exact ⟨_, _, _, _, _, rfl, hB5, hq5, hr5⟩
      · rintro σ H5 ⟨y2, y3, y4, y5, y6, rfl, hB5, hq5, hr5⟩
        walk_at "go"
        exact ⟨_, _, _, _, _, _, rfl, hB5, hq5⟩
    · rintro σ H3 ⟨y1, y2, y3, y4, y5, y6, rfl, hB3, hq3⟩
      walk_at "go"
      exact k H3
end

end My
namespace My
open PySem PySem.Spec PyProof.Rows L2
theorem all_mk {w : World} {K : PySem.W.Frag} {h : Heap} {mg : Str → Option Value} {fa : Addr} (X : K.In h) (G : h.Ns mainGlobals mg) (hfa : mg "law" = some (.ref fa))
    {C_Layout : Addr}
    {f_touched : Addr} {oc1 kV1 dc1 pm1 cd1 ct1 : Value} {od1 an1 : Option Addr} {sl1 : Array (Option Value)}
    {f_Layoutu_initu : Addr} {oc2 kV2 dc2 pm2 cd2 ct2 : Value} {od2 an2 : Option Addr} {sl2 : Array (Option Value)}
    {tD2 : Addr} {ocD2 : Value} {odD2 : Option Addr} {nD2 : Nat} {slD2 : Array (Option Value)} {tk2_0 tk2_1 : Tok}
    {f_Layout_unit : Addr} {oc3 kV3 dc3 pm3 cd3 ct3 : Value} {od3 an3 : Option Addr} {sl3 : Array (Option Value)}
    {pr3 : Addr} {rst3 : List Value}
    {f_Layout_chunk : Addr} {oc4 kV4 dc4 pm4 cd4 ct4 : Value} {od4 an4 : Option Addr} {sl4 : Array (Option Value)}
    {pr4 : Addr} {rst4 : List Value}
    {f_Layout_units : Addr} {oc5 kV5 dc5 pm5 cd5 ct5 : Value} {od5 an5 : Option Addr} {sl5 : Array (Option Value)}
    {f_Layout_chunks : Addr} {oc6 kV6 dc6 pm6 cd6 ct6 : Value} {od6 an6 : Option Addr} {sl6 : Array (Option Value)}
    {f_Layout_span : Addr} {oc7 kV7 dc7 pm7 cd7 ct7 : Value} {od7 an7 : Option Addr} {sl7 : Array (Option Value)}
    {f__law_bag : Addr} {oc8 kV8 dc8 pm8 cd8 ct8 : Value} {od8 an8 : Option Addr} {sl8 : Array (Option Value)}
    {f__law_draw : Addr} {oc9 kV9 dc9 pm9 cd9 ct9 : Value} {od9 an9 : Option Addr} {sl9 : Array (Option Value)}
    {f__law_same : Addr} {oc10 kV10 dc10 pm10 cd10 ct10 : Value} {od10 an10 : Option Addr} {sl10 : Array (Option Value)}
    {f__law_pieces : Addr} {oc11 kV11 dc11 pm11 cd11 ct11 : Value} {od11 an11 : Option Addr} {sl11 : Array (Option Value)}
    {f__law_pair : Addr} {oc12 kV12 dc12 pm12 cd12 ct12 : Value} {od12 an12 : Option Addr} {sl12 : Array (Option Value)}
    {f__law_asked : Addr} {oc13 kV13 dc13 pm13 cd13 ct13 : Value} {od13 an13 : Option Addr} {sl13 : Array (Option Value)}
    {f_law : Addr} {oc14 kV14 dc14 pm14 cd14 ct14 : Value} {od14 an14 : Option Addr} {sl14 : Array (Option Value)}
    {C_BadLayout f_BadLayoutu_initu cda15 cc15 : Addr} {oc15 kV15 dc15 pm15 ct15 : Value} {od15 an15 : Option Addr} {sl15 : Array (Option Value)}
    {nm15 q15 : Str} {N15 : Addr} {bs15 bm15 sub15 : List Value} {sn15 : List Str} {ab15 : Bool} {col15 : Option Bool} {dd15 : Option Addr} {ka15 kb15 kc15 kd15 ke15 : Option Value}
    {ccl15 ocl15 : Value} {ccd15 ocd15 : Option Addr} {vs15 : Array Value} {ccs15 ocs15 : Array (Option Value)} {file15 : Str} {tf15 : Tok}
    {a_UNITS : Addr} {odUNITS : Option Addr} {tUNITS0 tUNITS1 tUNITS2 tUNITS3 : Tok} {nUNITS : Nat} {slUNITS : Array (Option Value)}
    {a_CHUNKS : Addr} {odCHUNKS : Option Addr} {tCHUNKS0 tCHUNKS1 tCHUNKS2 tCHUNKS3 tCHUNKS4 : Tok} {nCHUNKS : Nat} {slCHUNKS : Array (Option Value)}
    (aC_Layout : PySem.W.nsIn K mainGlobals "Layout" = some (some (.ref C_Layout)))
    (a_touched : PySem.W.nsIn K mainGlobals "touched" = some (some (.ref f_touched)))
    (l_touched : K.lookup f_touched = some ⟨oc1, od1, .func (PySem.W.fnOf "touched" "touched" (defArgs s_touched) (defBody s_touched) (defScope s_touched) .none kV1 dc1 pm1 an1 cd1 ct1), sl1⟩)
    (c_touched : PySem.W.codeIn K cd1 "touched" = true)
    (k_touched : PySem.W.keepIn K (.ref f_touched) = true)
    (a_Layoutu_initu : PySem.W.findIn K (.ref C_Layout) "__init__" = some (some (.ref f_Layoutu_initu)))
    (i_Layoutu_initu : PySem.W.isFn K (.ref f_Layoutu_initu) = true)
    (l_Layoutu_initu : K.lookup f_Layoutu_initu = some ⟨oc2, od2, .func (PySem.W.fnOf "__init__" "Layout.__init__" (defArgs s_Layoutu_initu) (defBody s_Layoutu_initu) (defScope s_Layoutu_initu) (.ref tD2) kV2 dc2 pm2 an2 cd2 ct2), sl2⟩)
    (c_Layoutu_initu : PySem.W.codeIn K cd2 "Layout.__init__" = true)
    (k_Layoutu_initu : PySem.W.keepIn K (.ref f_Layoutu_initu) = true)
    (ld_Layoutu_initu : K.lookup tD2 = some ⟨ocD2, odD2, .seq #[.int 1 tk2_0, .int 1 tk2_1] nD2, slD2⟩)
    (pa_Layout_unit : PySem.W.findIn K (.ref C_Layout) "unit" = some (some (.ref pr3)))
    (pg_Layout_unit : PySem.W.specialIn K (.ref pr3) "__get__" = some (some (.builtin "property.__get__")))
    (pt_Layout_unit : PySem.W.takesIn K (.ref pr3) = some true)
    (prc_Layout_unit : PySem.W.recIn K pr3 "property" = some (.ref f_Layout_unit :: rst3))
    (l_Layout_unit : K.lookup f_Layout_unit = some ⟨oc3, od3, .func (PySem.W.fnOf "unit" "Layout.unit" (defArgs s_Layout_unit) (defBody s_Layout_unit) (defScope s_Layout_unit) .none kV3 dc3 pm3 an3 cd3 ct3), sl3⟩)
    (c_Layout_unit : PySem.W.codeIn K cd3 "Layout.unit" = true)
    (k_Layout_unit : PySem.W.keepIn K (.ref f_Layout_unit) = true)
    (pa_Layout_chunk : PySem.W.findIn K (.ref C_Layout) "chunk" = some (some (.ref pr4)))
    (pg_Layout_chunk : PySem.W.specialIn K (.ref pr4) "__get__" = some (some (.builtin "property.__get__")))
    (pt_Layout_chunk : PySem.W.takesIn K (.ref pr4) = some true)
    (prc_Layout_chunk : PySem.W.recIn K pr4 "property" = some (.ref f_Layout_chunk :: rst4))
    (l_Layout_chunk : K.lookup f_Layout_chunk = some ⟨oc4, od4, .func (PySem.W.fnOf "chunk" "Layout.chunk" (defArgs s_Layout_chunk) (defBody s_Layout_chunk) (defScope s_Layout_chunk) .none kV4 dc4 pm4 an4 cd4 ct4), sl4⟩)
    (c_Layout_chunk : PySem.W.codeIn K cd4 "Layout.chunk" = true)
    (k_Layout_chunk : PySem.W.keepIn K (.ref f_Layout_chunk) = true)
    (a_Layout_units : PySem.W.findIn K (.ref C_Layout) "units" = some (some (.ref f_Layout_units)))
    (i_Layout_units : PySem.W.isFn K (.ref f_Layout_units) = true)
    (l_Layout_units : K.lookup f_Layout_units = some ⟨oc5, od5, .func (PySem.W.fnOf "units" "Layout.units" (defArgs s_Layout_units) (defBody s_Layout_units) (defScope s_Layout_units) .none kV5 dc5 pm5 an5 cd5 ct5), sl5⟩)
    (c_Layout_units : PySem.W.codeIn K cd5 "Layout.units" = true)
    (k_Layout_units : PySem.W.keepIn K (.ref f_Layout_units) = true)
    (a_Layout_chunks : PySem.W.findIn K (.ref C_Layout) "chunks" = some (some (.ref f_Layout_chunks)))
    (i_Layout_chunks : PySem.W.isFn K (.ref f_Layout_chunks) = true)
    (l_Layout_chunks : K.lookup f_Layout_chunks = some ⟨oc6, od6, .func (PySem.W.fnOf "chunks" "Layout.chunks" (defArgs s_Layout_chunks) (defBody s_Layout_chunks) (defScope s_Layout_chunks) .none kV6 dc6 pm6 an6 cd6 ct6), sl6⟩)
    (c_Layout_chunks : PySem.W.codeIn K cd6 "Layout.chunks" = true)
    (k_Layout_chunks : PySem.W.keepIn K (.ref f_Layout_chunks) = true)
    (a_Layout_span : PySem.W.findIn K (.ref C_Layout) "span" = some (some (.ref f_Layout_span)))
    (i_Layout_span : PySem.W.isFn K (.ref f_Layout_span) = true)
    (l_Layout_span : K.lookup f_Layout_span = some ⟨oc7, od7, .func (PySem.W.fnOf "span" "Layout.span" (defArgs s_Layout_span) (defBody s_Layout_span) (defScope s_Layout_span) .none kV7 dc7 pm7 an7 cd7 ct7), sl7⟩)
    (c_Layout_span : PySem.W.codeIn K cd7 "Layout.span" = true)
    (k_Layout_span : PySem.W.keepIn K (.ref f_Layout_span) = true)
    (a__law_bag : PySem.W.nsIn K mainGlobals "_law_bag" = some (some (.ref f__law_bag)))
    (l__law_bag : K.lookup f__law_bag = some ⟨oc8, od8, .func (PySem.W.fnOf "_law_bag" "_law_bag" (defArgs s__law_bag) (defBody s__law_bag) (defScope s__law_bag) .none kV8 dc8 pm8 an8 cd8 ct8), sl8⟩)
    (c__law_bag : PySem.W.codeIn K cd8 "_law_bag" = true)
    (k__law_bag : PySem.W.keepIn K (.ref f__law_bag) = true)
    (a__law_draw : PySem.W.nsIn K mainGlobals "_law_draw" = some (some (.ref f__law_draw)))
    (l__law_draw : K.lookup f__law_draw = some ⟨oc9, od9, .func (PySem.W.fnOf "_law_draw" "_law_draw" (defArgs s__law_draw) (defBody s__law_draw) (defScope s__law_draw) .none kV9 dc9 pm9 an9 cd9 ct9), sl9⟩)
    (c__law_draw : PySem.W.codeIn K cd9 "_law_draw" = true)
    (k__law_draw : PySem.W.keepIn K (.ref f__law_draw) = true)
    (a__law_same : PySem.W.nsIn K mainGlobals "_law_same" = some (some (.ref f__law_same)))
    (l__law_same : K.lookup f__law_same = some ⟨oc10, od10, .func (PySem.W.fnOf "_law_same" "_law_same" (defArgs s__law_same) (defBody s__law_same) (defScope s__law_same) .none kV10 dc10 pm10 an10 cd10 ct10), sl10⟩)
    (c__law_same : PySem.W.codeIn K cd10 "_law_same" = true)
    (k__law_same : PySem.W.keepIn K (.ref f__law_same) = true)
    (a__law_pieces : PySem.W.nsIn K mainGlobals "_law_pieces" = some (some (.ref f__law_pieces)))
    (l__law_pieces : K.lookup f__law_pieces = some ⟨oc11, od11, .func (PySem.W.fnOf "_law_pieces" "_law_pieces" (defArgs s__law_pieces) (defBody s__law_pieces) (defScope s__law_pieces) .none kV11 dc11 pm11 an11 cd11 ct11), sl11⟩)
    (c__law_pieces : PySem.W.codeIn K cd11 "_law_pieces" = true)
    (k__law_pieces : PySem.W.keepIn K (.ref f__law_pieces) = true)
    (a__law_pair : PySem.W.nsIn K mainGlobals "_law_pair" = some (some (.ref f__law_pair)))
    (l__law_pair : K.lookup f__law_pair = some ⟨oc12, od12, .func (PySem.W.fnOf "_law_pair" "_law_pair" (defArgs s__law_pair) (defBody s__law_pair) (defScope s__law_pair) .none kV12 dc12 pm12 an12 cd12 ct12), sl12⟩)
    (c__law_pair : PySem.W.codeIn K cd12 "_law_pair" = true)
    (k__law_pair : PySem.W.keepIn K (.ref f__law_pair) = true)
    (a__law_asked : PySem.W.nsIn K mainGlobals "_law_asked" = some (some (.ref f__law_asked)))
    (l__law_asked : K.lookup f__law_asked = some ⟨oc13, od13, .func (PySem.W.fnOf "_law_asked" "_law_asked" (defArgs s__law_asked) (defBody s__law_asked) (defScope s__law_asked) .none kV13 dc13 pm13 an13 cd13 ct13), sl13⟩)
    (c__law_asked : PySem.W.codeIn K cd13 "_law_asked" = true)
    (k__law_asked : PySem.W.keepIn K (.ref f__law_asked) = true)
    (a_law : PySem.W.nsIn K mainGlobals "law" = some (some (.ref f_law)))
    (l_law : K.lookup f_law = some ⟨oc14, od14, .func (PySem.W.fnOf "law" "law" (defArgs s_law) (defBody s_law) (defScope s_law) .none kV14 dc14 pm14 an14 cd14 ct14), sl14⟩)
    (c_law : PySem.W.codeIn K cd14 "law" = true)
    (k_law : PySem.W.keepIn K (.ref f_law) = true)
    (pg_Layout : PySem.W.plainGet K C_Layout Str.empty = true)
    (hd_Layout : PySem.W.hasDictIn K C_Layout = true)
    (po_Layout : PySem.W.plainOver K C_Layout = true)
    (sa_Layout : PySem.W.findIn K (.ref C_Layout) "__setattr__" = some (some (.builtin "object.__setattr__")))
    (mk_Layout : PySem.W.makesIn K C_Layout = true)
    (kc_Layout : PySem.W.keepIn K (.ref C_Layout) = true)
    (no_Layout_held_unit : PySem.W.findIn K (.ref C_Layout) "held_unit" = some none)
    (no_Layout_held_chunk : PySem.W.findIn K (.ref C_Layout) "held_chunk" = some none)
    (z_len : PySem.W.nsIn K mainGlobals "len" = some none)
    (z_abs : PySem.W.nsIn K mainGlobals "abs" = some none)
    (z_int : PySem.W.nsIn K mainGlobals "int" = some none)
    (z_list : PySem.W.nsIn K mainGlobals "list" = some none)
    (z_range : PySem.W.nsIn K mainGlobals "range" = some none)
    (z_isinstance : PySem.W.nsIn K mainGlobals "isinstance" = some none)
    (z_bool : PySem.W.nsIn K mainGlobals "bool" = some none)
    (z_str : PySem.W.nsIn K mainGlobals "str" = some none)
    (z_tuple : PySem.W.nsIn K mainGlobals "tuple" = some none)
    (z_all : PySem.W.nsIn K mainGlobals "all" = some none)
    (z_set : PySem.W.nsIn K mainGlobals "set" = some none)
    (z_sorted : PySem.W.nsIn K mainGlobals "sorted" = some none)
    (z_min : PySem.W.nsIn K mainGlobals "min" = some none)
    (z_ValueError : PySem.W.nsIn K mainGlobals "ValueError" = some none)
    (zsuper : PySem.W.nsIn K mainGlobals "super" = some none)
    (znoop : PySem.W.nsIn K cStatics "thirdparty.any" = some none)
    (zgcn : PySem.W.specialIn K (.builtin "object.__class__") "__get__" = some (some (.builtin "getset_descriptor.__get__")))
    (zgct : PySem.W.takesIn K (.builtin "object.__class__") = some true)
    (ztop : ((PySem.Challenge.pw_codestitch_k05_units_and_chunks).main.scope.names.lookup ("super" : Str)).isSome = false)
    (aC_BadLayout : PySem.W.nsIn K mainGlobals "BadLayout" = some (some (.ref C_BadLayout)))
    (lkC_BadLayout : K.lookup C_BadLayout = some (excClassObj nm15 q15 C_BadLayout N15 bs15 bm15 true sn15 sub15 ab15 col15 dd15 ka15 kb15 kc15 kd15 ke15 "ValueError.__new__"))
    (bmC_BadLayout : PySem.HandSPX.refsVE bm15 = true)
    (saC_BadLayout : PySem.W.findIn K (.ref C_BadLayout) "__setattr__" = some (some (.builtin "object.__setattr__")))
    (exC_BadLayout : PySem.W.subIn K (.ref C_BadLayout) (.type "BaseException") = some true)
    (tyC_BadLayout : PySem.W.typeIn K (.ref C_BadLayout) = some (.type "type"))
    (kpC_BadLayout : PySem.W.keepIn K (.ref C_BadLayout) = true)
    (inC_BadLayout : PySem.W.findIn K (.ref C_BadLayout) "__init__" = some (some (.ref f_BadLayoutu_initu)))
    (tiC_BadLayout : PySem.W.typeIn K (.ref f_BadLayoutu_initu) = some (.type "function"))
    (noC_BadLayout_part : PySem.W.findIn K (.ref C_BadLayout) "part" = some none)
    (gaC_BadLayout : PySem.W.findIn K (.ref C_BadLayout) "__getattribute__" = some (some (.builtin "BaseException.__getattribute__")))
    (ggC_BadLayout : PySem.W.findIn K (.ref C_BadLayout) "__getattr__" = some none)
    (hdC_BadLayout : PySem.W.hasDictIn K C_BadLayout = true)
    (gcC_BadLayout : PySem.W.findIn K (.ref C_BadLayout) "__class__" = some (some (.builtin "object.__class__")))
    (moC_BadLayout : PySem.W.mroIn K C_BadLayout (.type "object") = some true)
    (l_BadLayoutu_initu : K.lookup f_BadLayoutu_initu = some ⟨oc15, od15, .func (PySem.W.ksFn "__init__" "BadLayout.__init__" (defArgs s_BadLayoutu_initu) (defBody s_BadLayoutu_initu) (defScope s_BadLayoutu_initu) .none kV15 dc15 pm15 an15 (.ref cda15) ct15 cc15), sl15⟩)
    (c_BadLayoutu_initu : PySem.W.codeIn K (.ref cda15) "BadLayout.__init__" = true)
    (k_BadLayoutu_initu : PySem.W.keepIn K (.ref f_BadLayoutu_initu) = true)
    (cl_BadLayoutu_initu : K.lookup cda15 = some ⟨ccl15, ccd15, .fields vs15, ccs15⟩)
    (cf_BadLayoutu_initu : vs15[2]? = some (.str file15 tf15))
    (fe_BadLayoutu_initu : (((PySem.Challenge.pw_codestitch_k05_units_and_chunks).main.file : Str) == file15) = true)
    (ce_BadLayoutu_initu : K.lookup cc15 = some ⟨ocl15, ocd15, .cell (some (.ref C_BadLayout)), ocs15⟩)
    (mrC_BadLayout : PySem.W.mroIn K C_BadLayout (.ref C_BadLayout) = some true)
    (suC_BadLayout : PySem.W.ks_superIn K C_BadLayout C_BadLayout "__init__" = some (some (.builtin "ValueError.__init__")))
    (svC_BadLayout : PySem.W.subIn K (.ref C_BadLayout) (.type "ValueError") = some true)
    (rd_Layout : PySem.W.readsIn K C_Layout (.type "type") = true)
    (gat_Layout : PySem.W.specialIn K (.ref C_Layout) "__getattribute__" = some (some (.builtin "type.__getattribute__")))
    (cvUNITS : PySem.W.findCls K (.ref C_Layout) (.type "type") "UNITS" = some (.val (.ref a_UNITS)))
    (lkUNITS : K.lookup a_UNITS = some ⟨.type "tuple", odUNITS, .seq #[.int 1 tUNITS0, .int 2 tUNITS1, .int 4 tUNITS2, .int 8 tUNITS3] nUNITS, slUNITS⟩)
    (cvCHUNKS : PySem.W.findCls K (.ref C_Layout) (.type "type") "CHUNKS" = some (.val (.ref a_CHUNKS)))
    (lkCHUNKS : K.lookup a_CHUNKS = some ⟨.type "tuple", odCHUNKS, .seq #[.int 1 tCHUNKS0, .int 2 tCHUNKS1, .int 4 tCHUNKS2, .int 8 tCHUNKS3, .int 16 tCHUNKS4] nCHUNKS, slCHUNKS⟩) :
    ∃ fd : FuncData, (∀ (s : Shared) (v : Value), BindsTo s fd ⟨[v], []⟩ [("_law_script", v)]) ∧ ∀ base : Heap, K.In base → base.Ns mainGlobals mg → FnOk PySem.Challenge.pw_codestitch_k05_units_and_chunks w K mg base CX0 6 fa fd ["_law_script"] (spLaw K) := by
  have e := hfa.symm.trans (PySem.W.mg_of X G a_law)
  cases e
  have F_touched := fun_mk (st := s_touched) l_touched c_touched k_touched
  have F_Layoutu_initu : FunD K "__init__" "Layout.__init__" (defArgs s_Layoutu_initu) (defBody s_Layoutu_initu) (defScope s_Layoutu_initu) [.int 1, .int 1] [] f_Layoutu_initu (PySem.W.fnOf "__init__" "Layout.__init__" (defArgs s_Layoutu_initu) (defBody s_Layoutu_initu) (defScope s_Layoutu_initu) (.ref tD2) kV2 dc2 pm2 an2 cd2 ct2) := ⟨⟨_, _, _, _, _, _, _, _, _, _, rfl, l_Layoutu_initu, c_Layoutu_initu, .inr ⟨by simp, _, _, _, _, rfl, ld_Layoutu_initu, rfl, (.cons ⟨_, rfl⟩ (.cons ⟨_, rfl⟩ .nil))⟩, .inl rfl⟩, k_Layoutu_initu⟩
  have F_Layout_unit := fun_mk (st := s_Layout_unit) l_Layout_unit c_Layout_unit k_Layout_unit
  have F_Layout_chunk := fun_mk (st := s_Layout_chunk) l_Layout_chunk c_Layout_chunk k_Layout_chunk
  have F_Layout_units := fun_mk (st := s_Layout_units) l_Layout_units c_Layout_units k_Layout_units
  have F_Layout_chunks := fun_mk (st := s_Layout_chunks) l_Layout_chunks c_Layout_chunks k_Layout_chunks
  have F_Layout_span := fun_mk (st := s_Layout_span) l_Layout_span c_Layout_span k_Layout_span
  have F__law_bag := fun_mk (st := s__law_bag) l__law_bag c__law_bag k__law_bag
  have F__law_draw := fun_mk (st := s__law_draw) l__law_draw c__law_draw k__law_draw
  have F__law_same := fun_mk (st := s__law_same) l__law_same c__law_same k__law_same
  have F__law_pieces := fun_mk (st := s__law_pieces) l__law_pieces c__law_pieces k__law_pieces
  have F__law_pair := fun_mk (st := s__law_pair) l__law_pair c__law_pair k__law_pair
  have F__law_asked := fun_mk (st := s__law_asked) l__law_asked c__law_asked k__law_asked
  have F_law := fun_mk (st := s_law) l_law c_law k_law
  have F_BadLayoutu_initu : Vc.FunS PySem.Challenge.pw_codestitch_k05_units_and_chunks K mg "__init__" "BadLayout.__init__" s_BadLayoutu_initu f_BadLayoutu_initu (PySem.W.ksFn "__init__" "BadLayout.__init__" (defArgs s_BadLayoutu_initu) (defBody s_BadLayoutu_initu) (defScope s_BadLayoutu_initu) .none kV15 dc15 pm15 an15 (.ref cda15) ct15 cc15) C_BadLayout "self" := ⟨⟨_, _, _, _, _, _, _, _, _, _, rfl, l_BadLayoutu_initu, c_BadLayoutu_initu, ⟨⟨_, _, _, l_BadLayoutu_initu⟩, ⟨_, rfl, rfl⟩, ⟨_, _, _, _, _, _, cl_BadLayoutu_initu, cf_BadLayoutu_initu, fe_BadLayoutu_initu⟩, ⟨_, _, _, ce_BadLayoutu_initu⟩, mrC_BadLayout, suC_BadLayout, svC_BadLayout, PySem.W.mg_none_of X G zsuper, znoop, ztop⟩⟩, k_BadLayoutu_initu⟩
  have T : Txt K mg { C_Layout := C_Layout, f_touched := f_touched, d_touched := PySem.W.fnOf "touched" "touched" (defArgs s_touched) (defBody s_touched) (defScope s_touched) .none kV1 dc1 pm1 an1 cd1 ct1, f_Layoutu_initu := f_Layoutu_initu, d_Layoutu_initu := PySem.W.fnOf "__init__" "Layout.__init__" (defArgs s_Layoutu_initu) (defBody s_Layoutu_initu) (defScope s_Layoutu_initu) (.ref tD2) kV2 dc2 pm2 an2 cd2 ct2, f_Layout_unit := f_Layout_unit, d_Layout_unit := PySem.W.fnOf "unit" "Layout.unit" (defArgs s_Layout_unit) (defBody s_Layout_unit) (defScope s_Layout_unit) .none kV3 dc3 pm3 an3 cd3 ct3, pr_Layout_unit := pr3, f_Layout_chunk := f_Layout_chunk, d_Layout_chunk := PySem.W.fnOf "chunk" "Layout.chunk" (defArgs s_Layout_chunk) (defBody s_Layout_chunk) (defScope s_Layout_chunk) .none kV4 dc4 pm4 an4 cd4 ct4, pr_Layout_chunk := pr4, f_Layout_units := f_Layout_units, d_Layout_units := PySem.W.fnOf "units" "Layout.units" (defArgs s_Layout_units) (defBody s_Layout_units) (defScope s_Layout_units) .none kV5 dc5 pm5 an5 cd5 ct5, f_Layout_chunks := f_Layout_chunks, d_Layout_chunks := PySem.W.fnOf "chunks" "Layout.chunks" (defArgs s_Layout_chunks) (defBody s_Layout_chunks) (defScope s_Layout_chunks) .none kV6 dc6 pm6 an6 cd6 ct6, f_Layout_span := f_Layout_span, d_Layout_span := PySem.W.fnOf "span" "Layout.span" (defArgs s_Layout_span) (defBody s_Layout_span) (defScope s_Layout_span) .none kV7 dc7 pm7 an7 cd7 ct7, f__law_bag := f__law_bag, d__law_bag := PySem.W.fnOf "_law_bag" "_law_bag" (defArgs s__law_bag) (defBody s__law_bag) (defScope s__law_bag) .none kV8 dc8 pm8 an8 cd8 ct8, f__law_draw := f__law_draw, d__law_draw := PySem.W.fnOf "_law_draw" "_law_draw" (defArgs s__law_draw) (defBody s__law_draw) (defScope s__law_draw) .none kV9 dc9 pm9 an9 cd9 ct9, f__law_same := f__law_same, d__law_same := PySem.W.fnOf "_law_same" "_law_same" (defArgs s__law_same) (defBody s__law_same) (defScope s__law_same) .none kV10 dc10 pm10 an10 cd10 ct10, f__law_pieces := f__law_pieces, d__law_pieces := PySem.W.fnOf "_law_pieces" "_law_pieces" (defArgs s__law_pieces) (defBody s__law_pieces) (defScope s__law_pieces) .none kV11 dc11 pm11 an11 cd11 ct11, f__law_pair := f__law_pair, d__law_pair := PySem.W.fnOf "_law_pair" "_law_pair" (defArgs s__law_pair) (defBody s__law_pair) (defScope s__law_pair) .none kV12 dc12 pm12 an12 cd12 ct12, f__law_asked := f__law_asked, d__law_asked := PySem.W.fnOf "_law_asked" "_law_asked" (defArgs s__law_asked) (defBody s__law_asked) (defScope s__law_asked) .none kV13 dc13 pm13 an13 cd13 ct13, f_law := fa, d_law := PySem.W.fnOf "law" "law" (defArgs s_law) (defBody s_law) (defScope s_law) .none kV14 dc14 pm14 an14 cd14 ct14, C_BadLayout := C_BadLayout, f_BadLayoutu_initu := f_BadLayoutu_initu, d_BadLayoutu_initu := PySem.W.ksFn "__init__" "BadLayout.__init__" (defArgs s_BadLayoutu_initu) (defBody s_BadLayoutu_initu) (defScope s_BadLayoutu_initu) .none kV15 dc15 pm15 an15 (.ref cda15) ct15 cc15, a_UNITS := a_UNITS, a_CHUNKS := a_CHUNKS } := {
    g_Layout := (PySem.W.mg_of X G aC_Layout),
    g_touched := (PySem.W.mg_of X G a_touched),
    F_touched := (F_touched),
    b_touched := (F_touched.binds (ps := ["size", "low", "high"]) fun _ _ _ _ _ _ us hl => match us, hl with | [_, _, _], _ => rfl),
    F_Layoutu_initu := (F_Layoutu_initu),
    b_Layoutu_initu := (Vc.bindsAll (ps := ["self", "unit", "chunk"]) F_Layoutu_initu (by simp) fun _ _ _ _ _ _ _ us its l1 l2 => match us, its, l1, l2 with | [_, _, _], [_, _], _, _ => ⟨_, rfl, rfl⟩),
    bd1_Layoutu_initu := (F_Layoutu_initu.binds1 (ps := ["self", "unit", "chunk"]) 1 0 (by simp) (by decide) fun _ _ _ _ _ _ _ us its l1 l2 => match us, its, l1, l2 with | [_], [_, _], _, _ => ⟨_, rfl, rfl⟩),
    bd2_Layoutu_initu := (F_Layoutu_initu.binds1 (ps := ["self", "unit", "chunk"]) 2 1 (by simp) (by decide) fun _ _ _ _ _ _ _ us its l1 l2 => match us, its, l1, l2 with | [_, _], [_, _], _, _ => ⟨_, rfl, rfl⟩),
    p_Layout_unit := (⟨pa_Layout_unit, pg_Layout_unit, pt_Layout_unit, ⟨_, prc_Layout_unit⟩⟩),
    F_Layout_unit := (F_Layout_unit),
    b_Layout_unit := (F_Layout_unit.binds (ps := ["self"]) fun _ _ _ _ _ _ us hl => match us, hl with | [_], _ => rfl),
    p_Layout_chunk := (⟨pa_Layout_chunk, pg_Layout_chunk, pt_Layout_chunk, ⟨_, prc_Layout_chunk⟩⟩),
    F_Layout_chunk := (F_Layout_chunk),
    b_Layout_chunk := (F_Layout_chunk.binds (ps := ["self"]) fun _ _ _ _ _ _ us hl => match us, hl with | [_], _ => rfl),
    F_Layout_units := (F_Layout_units),
    b_Layout_units := (F_Layout_units.binds (ps := ["self", "low", "high"]) fun _ _ _ _ _ _ us hl => match us, hl with | [_, _, _], _ => rfl),
    F_Layout_chunks := (F_Layout_chunks),
    b_Layout_chunks := (F_Layout_chunks.binds (ps := ["self", "low", "high"]) fun _ _ _ _ _ _ us hl => match us, hl with | [_, _, _], _ => rfl),
    F_Layout_span := (F_Layout_span),
    b_Layout_span := (F_Layout_span.binds (ps := ["self", "unit", "size"]) fun _ _ _ _ _ _ us hl => match us, hl with | [_, _, _], _ => rfl),
    g__law_bag := (PySem.W.mg_of X G a__law_bag),
    F__law_bag := (F__law_bag),
    b__law_bag := (F__law_bag.binds (ps := ["_law_script"]) fun _ _ _ _ _ _ us hl => match us, hl with | [_], _ => rfl),
    g__law_draw := (PySem.W.mg_of X G a__law_draw),
    F__law_draw := (F__law_draw),
    b__law_draw := (F__law_draw.binds (ps := ["_law_bag_here", "_law_limit"]) fun _ _ _ _ _ _ us hl => match us, hl with | [_, _], _ => rfl),
    g__law_same := (PySem.W.mg_of X G a__law_same),
    F__law_same := (F__law_same),
    b__law_same := (F__law_same.binds (ps := ["_law_actual", "_law_expected"]) fun _ _ _ _ _ _ us hl => match us, hl with | [_, _], _ => rfl),
    g__law_pieces := (PySem.W.mg_of X G a__law_pieces),
    F__law_pieces := (F__law_pieces),
    b__law_pieces := (F__law_pieces.binds (ps := ["_law_size", "_law_low", "_law_high"]) fun _ _ _ _ _ _ us hl => match us, hl with | [_, _, _], _ => rfl),
    g__law_pair := (PySem.W.mg_of X G a__law_pair),
    F__law_pair := (F__law_pair),
    b__law_pair := (F__law_pair.binds (ps := ["_law_bag_here", "_law_size", "_law_unit"]) fun _ _ _ _ _ _ us hl => match us, hl with | [_, _, _], _ => rfl),
    g__law_asked := (PySem.W.mg_of X G a__law_asked),
    F__law_asked := (F__law_asked),
    b__law_asked := (F__law_asked.binds (ps := ["_law_layout", "_law_unit", "_law_chunk", "_law_size", "_law_low", "_law_high"]) fun _ _ _ _ _ _ us hl => match us, hl with | [_, _, _, _, _, _], _ => rfl),
    g_law := (PySem.W.mg_of X G a_law),
    F_law := (F_law),
    b_law := (F_law.binds (ps := ["_law_script"]) fun _ _ _ _ _ _ us hl => match us, hl with | [_], _ => rfl),
    cl_Layout := (⟨pg_Layout, hd_Layout, po_Layout, sa_Layout⟩),
    mk_Layout := (⟨mk_Layout, a_Layoutu_initu, i_Layoutu_initu, kc_Layout⟩),
    m_Layout_units := (⟨a_Layout_units, i_Layout_units, k_Layout_units⟩),
    m_Layout_chunks := (⟨a_Layout_chunks, i_Layout_chunks, k_Layout_chunks⟩),
    m_Layout_span := (⟨a_Layout_span, i_Layout_span, k_Layout_span⟩),
    no_Layout_held_unit := (no_Layout_held_unit),
    no_Layout_held_chunk := (no_Layout_held_chunk),
    n_len := (PySem.W.mg_none_of X G z_len),
    n_abs := (PySem.W.mg_none_of X G z_abs),
    n_int := (PySem.W.mg_none_of X G z_int),
    n_list := (PySem.W.mg_none_of X G z_list),
    n_range := (PySem.W.mg_none_of X G z_range),
    n_isinstance := (PySem.W.mg_none_of X G z_isinstance),
    n_bool := (PySem.W.mg_none_of X G z_bool),
    n_str := (PySem.W.mg_none_of X G z_str),
    n_tuple := (PySem.W.mg_none_of X G z_tuple),
    n_all := (PySem.W.mg_none_of X G z_all),
    n_set := (PySem.W.mg_none_of X G z_set),
    n_sorted := (PySem.W.mg_none_of X G z_sorted),
    n_min := (PySem.W.mg_none_of X G z_min),
    n_ValueError := (PySem.W.mg_none_of X G z_ValueError),
    g_BadLayout := (PySem.W.mg_of X G aC_BadLayout),
    ox_BadLayout := (⟨⟨_, _, _, _, _, _, _, _, _, _, _, _, _, _, _, lkC_BadLayout, bmC_BadLayout⟩, saC_BadLayout, exC_BadLayout, tyC_BadLayout, kpC_BadLayout⟩),
    i_BadLayout := (inC_BadLayout),
    ti_BadLayout := (tiC_BadLayout),
    no_BadLayout_part := (noC_BadLayout_part),
    xf_BadLayout := (⟨gaC_BadLayout, ggC_BadLayout, exC_BadLayout, hdC_BadLayout⟩),
    ec_BadLayout := (⟨gaC_BadLayout, ggC_BadLayout, exC_BadLayout, hdC_BadLayout, gcC_BadLayout, zgcn, zgct, moC_BadLayout⟩),
    F_BadLayoutu_initu := (F_BadLayoutu_initu),
    b_BadLayoutu_initu := (F_BadLayoutu_initu.binds (ps := ["self", "part"]) fun _ _ _ _ _ _ _ us hl => match us, hl with | [_, _], _ => rfl),
    cr_Layout := (⟨rd_Layout, gat_Layout⟩),
    cv_UNITS := (⟨cvUNITS, rfl⟩),
    q_UNITS := (fun H => .inr ⟨_, _, _, lkUNITS, rfl, rfl, by show 4 ≤ sizeLine; decide, (.cons ⟨_, rfl⟩ (.cons ⟨_, rfl⟩ (.cons ⟨_, rfl⟩ (.cons ⟨_, rfl⟩ .nil))))⟩),
    cv_CHUNKS := (⟨cvCHUNKS, rfl⟩),
    q_CHUNKS := (fun H => .inr ⟨_, _, _, lkCHUNKS, rfl, rfl, by show 5 ≤ sizeLine; decide, (.cons ⟨_, rfl⟩ (.cons ⟨_, rfl⟩ (.cons ⟨_, rfl⟩ (.cons ⟨_, rfl⟩ (.cons ⟨_, rfl⟩ .nil)))))⟩) }
  exact ⟨PySem.W.fnOf "law" "law" (defArgs s_law) (defBody s_law) (defScope s_law) .none kV14 dc14 pm14 an14 cd14 ct14, fun s v => .of_eq rfl, fun base _ _ => ok_law T⟩
end My
open PySem PySem.W PyProof.Rows
set_option maxRecDepth 100000 in
set_option maxHeartbeats 0 in
theorem PySem.Challenge.cw_codestitch_k05_units_and_chunks_holds : PySem.Challenge.rw_codestitch_k05_units_and_chunks.Holds := by
  w_on; o_law; k_head; (case hw => w_witness2)
  k_fill
  refine L2.walk_of (l := PySem.Challenge.rw_codestitch_k05_units_and_chunks) (n := 63) (k := 6) (x := "_law_script") (CX := fun _ => L2.CX0) (sp := fun w => My.spLaw _) rfl (by decide) rfl ⟨rfl, by decide, by decide⟩ (fun w h Y => PySem.W.kIn_of Y) ?F (fun _ _ a ns hl _ hS => ⟨a, ns, rfl, hS, hl, fun _ => rfl⟩) (fun _ _ _ _ _ h => h)
  case F =>
    intro w mg fa h KX G hmg
    refine' My.all_mk KX G hmg ?aC_Layout ?a_touched ?l_touched ?c_touched ?k_touched ?a_Layoutu_initu ?i_Layoutu_initu ?l_Layoutu_initu ?c_Layoutu_initu ?k_Layoutu_initu ?ld_Layoutu_initu ?pa_Layout_unit ?pg_Layout_unit ?pt_Layout_unit ?prc_Layout_unit ?l_Layout_unit ?c_Layout_unit ?k_Layout_unit ?pa_Layout_chunk ?pg_Layout_chunk ?pt_Layout_chunk ?prc_Layout_chunk ?l_Layout_chunk ?c_Layout_chunk ?k_Layout_chunk ?a_Layout_units ?i_Layout_units ?l_Layout_units ?c_Layout_units ?k_Layout_units ?a_Layout_chunks ?i_Layout_chunks ?l_Layout_chunks ?c_Layout_chunks ?k_Layout_chunks ?a_Layout_span ?i_Layout_span ?l_Layout_span ?c_Layout_span ?k_Layout_span ?a__law_bag ?l__law_bag ?c__law_bag ?k__law_bag ?a__law_draw ?l__law_draw ?c__law_draw ?k__law_draw ?a__law_same ?l__law_same ?c__law_same ?k__law_same ?a__law_pieces ?l__law_pieces ?c__law_pieces ?k__law_pieces ?a__law_pair ?l__law_pair ?c__law_pair ?k__law_pair ?a__law_asked ?l__law_asked ?c__law_asked ?k__law_asked ?a_law ?l_law ?c_law ?k_law ?pg_Layout ?hd_Layout ?po_Layout ?sa_Layout ?mk_Layout ?kc_Layout ?no_Layout_held_unit ?no_Layout_held_chunk ?z_len ?z_abs ?z_int ?z_list ?z_range ?z_isinstance ?z_bool ?z_str ?z_tuple ?z_all ?z_set ?z_sorted ?z_min ?z_ValueError ?zsuper ?znoop ?zgcn ?zgct ?ztop ?aC_BadLayout ?lkC_BadLayout ?bmC_BadLayout ?saC_BadLayout ?exC_BadLayout ?tyC_BadLayout ?kpC_BadLayout ?inC_BadLayout ?tiC_BadLayout ?noC_BadLayout_part ?gaC_BadLayout ?ggC_BadLayout ?hdC_BadLayout ?gcC_BadLayout ?moC_BadLayout ?l_BadLayoutu_initu ?c_BadLayoutu_initu ?k_BadLayoutu_initu ?cl_BadLayoutu_initu ?cf_BadLayoutu_initu ?fe_BadLayoutu_initu ?ce_BadLayoutu_initu ?mrC_BadLayout ?suC_BadLayout ?svC_BadLayout ?rd_Layout ?gat_Layout ?cvUNITS ?lkUNITS ?cvCHUNKS ?lkCHUNKS
    (case aC_Layout => k_is); (case a_touched => k_is); (case l_touched => k_is); (case c_touched => k_is); (case k_touched => k_is); (case a_Layoutu_initu => k_is)
    (case i_Layoutu_initu => k_is); (case l_Layoutu_initu => k_is); (case c_Layoutu_initu => k_is); (case k_Layoutu_initu => k_is); (case ld_Layoutu_initu => k_is); (case pa_Layout_unit => k_is)
    (case pg_Layout_unit => k_is); (case pt_Layout_unit => k_is); (case prc_Layout_unit => k_is); (case l_Layout_unit => k_is); (case c_Layout_unit => k_is); (case k_Layout_unit => k_is)
    (case pa_Layout_chunk => k_is); (case pg_Layout_chunk => k_is); (case pt_Layout_chunk => k_is); (case prc_Layout_chunk => k_is); (case l_Layout_chunk => k_is); (case c_Layout_chunk => k_is)
    (case k_Layout_chunk => k_is); (case a_Layout_units => k_is); (case i_Layout_units => k_is); (case l_Layout_units => k_is); (case c_Layout_units => k_is); (case k_Layout_units => k_is)
    (case a_Layout_chunks => k_is); (case i_Layout_chunks => k_is); (case l_Layout_chunks => k_is); (case c_Layout_chunks => k_is); (case k_Layout_chunks => k_is); (case a_Layout_span => k_is)
    (case i_Layout_span => k_is); (case l_Layout_span => k_is); (case c_Layout_span => k_is); (case k_Layout_span => k_is); (case a__law_bag => k_is); (case l__law_bag => k_is)
    (case c__law_bag => k_is); (case k__law_bag => k_is); (case a__law_draw => k_is); (case l__law_draw => k_is); (case c__law_draw => k_is); (case k__law_draw => k_is)
    (case a__law_same => k_is); (case l__law_same => k_is); (case c__law_same => k_is); (case k__law_same => k_is); (case a__law_pieces => k_is); (case l__law_pieces => k_is)
    (case c__law_pieces => k_is); (case k__law_pieces => k_is); (case a__law_pair => k_is); (case l__law_pair => k_is); (case c__law_pair => k_is); (case k__law_pair => k_is)
    (case a__law_asked => k_is); (case l__law_asked => k_is); (case c__law_asked => k_is); (case k__law_asked => k_is); (case a_law => k_is); (case l_law => k_is)
    (case c_law => k_is); (case k_law => k_is); (case pg_Layout => k_is); (case hd_Layout => k_is); (case po_Layout => k_is); (case sa_Layout => k_is)
    (case mk_Layout => k_is); (case kc_Layout => k_is); (case no_Layout_held_unit => k_is); (case no_Layout_held_chunk => k_is); (case z_len => k_is); (case z_abs => k_is)
    (case z_int => k_is); (case z_list => k_is); (case z_range => k_is); (case z_isinstance => k_is); (case z_bool => k_is); (case z_str => k_is)
    (case z_tuple => k_is); (case z_all => k_is); (case z_set => k_is); (case z_sorted => k_is); (case z_min => k_is); (case z_ValueError => k_is)
    (case zsuper => k_is); (case znoop => k_is); (case zgcn => k_is); (case zgct => k_is); (case ztop => decide +kernel); (case aC_BadLayout => k_is)
    (case lkC_BadLayout => k_is); (case bmC_BadLayout => decide +kernel); (case saC_BadLayout => k_is); (case exC_BadLayout => k_is); (case tyC_BadLayout => k_is); (case kpC_BadLayout => k_is)
    (case inC_BadLayout => k_is); (case tiC_BadLayout => k_is); (case noC_BadLayout_part => k_is); (case gaC_BadLayout => k_is); (case ggC_BadLayout => k_is); (case hdC_BadLayout => k_is)
    (case gcC_BadLayout => k_is); (case moC_BadLayout => k_is); (case l_BadLayoutu_initu => k_is); (case c_BadLayoutu_initu => k_is); (case k_BadLayoutu_initu => k_is); (case cl_BadLayoutu_initu => k_is)
    (case cf_BadLayoutu_initu => rfl); (case fe_BadLayoutu_initu => decide +kernel); (case ce_BadLayoutu_initu => k_is); (case mrC_BadLayout => k_is); (case suC_BadLayout => ks_is); (case svC_BadLayout => k_is)
    (case rd_Layout => k_is); (case gat_Layout => k_is); (case cvUNITS => k_is); (case lkUNITS => k_is); (case cvCHUNKS => k_is); (case lkCHUNKS => k_is)
