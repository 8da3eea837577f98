import PyProof.Rows.All
import Wide.All
import OpenK.AllK
import Wide.FinOn
import HandS.ForMost
import HandS.Wide
import HandS.IsInst
import HandS.Evl
import HandS.Walk
import HandS.Strs
import HandS.Conv
import HandS.ClsMeth
import HandS.DictComp
import KE.KSuper
import KE.KExcSuper
import KE.KExcIs
import KE.RegKSuper
import KE.RegKIsAll
import KE.RegKTryMore
import HandS.ForExc
import HandS.ExcInit
import HandS.ExcIs
import HandS.ExcField
import HandS.Star
import HandS.Property
import HandS.HotCalls
import HandS.Codes
import HandS.Defaults
import HandS.MakeKw
import HandS.More
import HandS.FStr
import HandS.Finally
import HandS.Style
import PyProof.P3Eq
import PySem.Challenge.RW_codestitch_k03_code_sets
set_option Elab.async false
set_option linter.all false
set_option maxRecDepth 100000
set_option maxHeartbeats 4000000
open PySem PySem.Spec PyProof.Rows L2
/-! Vc: edges between abstract heaps, and readings answered step by step (my own layer over HandS). -/
namespace Vc
open PySem PySem.Spec PyProof.Rows L2

/-! ### edges: H' comes from H; at most the objects of S were changed -/
structure Ed (S : List Addr) (H H' : Hp) : Prop where
  keep : ∀ a o, a ∉ S → H a = some o → H' a = some o
  tup : ∀ a xs, H a = some (.tup xs) → H' a = some (.tup xs)
  frz : ∀ a o u, H a = some (.frz o u) → H' a = some (.frz o u)
  dom : ∀ a, H' a = none → H a = none
theorem Ed.refl {S : List Addr} {H : Hp} : Ed S H H := ⟨fun _ _ _ h => h, fun _ _ h => h, fun _ _ _ h => h, fun _ h => h⟩
theorem Ed.new {S : List Addr} {H : Hp} {p : Addr} {o : HO} (h : H p = none) : Ed S H (upd H p o) where
  keep := fun a u _ e => by rw [upd_ne (ne_of_none e h)]; exact e
  tup := fun a u e => by rw [upd_ne (ne_of_none e h)]; exact e
  frz := fun a _ u e => by rw [upd_ne (ne_of_none e h)]; exact e
  dom := fun a e => by
    by_cases q : a = p
    · rw [q]; exact h
    · rw [upd_ne q] at e; exact e
theorem Ed.mut {H : Hp} {p : Addr} {o u : HO} (h : H p = some u) (m : Mut (some u)) : Ed [p] H (upd H p o) where
  keep := fun a v ha e => by
    have : a ≠ p := fun q => ha (by rw [q]; exact List.mem_singleton.mpr rfl)
    rw [upd_ne this]; exact e
  tup := fun a xs e => by
    have : a ≠ p := fun q => by rw [q, h] at e; cases e; exact m
    rw [upd_ne this]; exact e
  frz := fun a _ xs e => by
    have : a ≠ p := fun q => by rw [q, h] at e; cases e; exact m
    rw [upd_ne this]; exact e
  dom := fun a e => by
    by_cases q : a = p
    · subst q; rw [upd_same] at e; cases e
    · rw [upd_ne q] at e; exact e
theorem Ed.trans {S T : List Addr} {H H1 H2 : Hp} (a : Ed S H H1) (b : Ed T H1 H2) (hs : ∀ x ∈ T, x ∈ S ∨ H x = none) : Ed S H H2 where
  keep := fun x o hx e => by
    have e1 := a.keep x o hx e
    refine b.keep x o (fun z => ?_) e1
    rcases hs x z with q | q
    · exact hx q
    · rw [e] at q; cases q
  tup := fun x o e => b.tup x o (a.tup x o e)
  frz := fun x o u e => b.frz x o u (a.frz x o u e)
  dom := fun x e => a.dom x (b.dom x e)
theorem Ed.mono {S T : List Addr} {H H1 : Hp} (a : Ed S H H1) (hs : ∀ x ∈ S, x ∈ T) : Ed T H H1 :=
  ⟨fun x o hx e => a.keep x o (fun z => hx (hs x z)) e, a.tup, a.frz, a.dom⟩
theorem Ed.ex {S : List Addr} {H H1 H2 : Hp} (a : Ed S H H1) (b : Ed [] H1 H2) : Ed S H H2 := a.trans b fun _ z => nomatch z
theorem Ed.one {S : List Addr} {H H1 H2 : Hp} {p : Addr} (a : Ed S H H1) (b : Ed [p] H1 H2) (h : p ∈ S ∨ H p = none) : Ed S H H2 :=
  a.trans b fun x z => by rw [List.mem_singleton.mp z]; exact h
theorem Ed.same {H H' : Hp} (e : Ed [] H H') : Same H H' := fun a o h => e.keep a o (fun z => nomatch z) h
theorem Ed.at0 {H H' : Hp} {a : Addr} {o : HO} (e : Ed [] H H') (h : H a = some o) : H' a = some o := e.keep a o (fun z => nomatch z) h
theorem Ed.at1 {H H' : Hp} {a p : Addr} {o : HO} (e : Ed [p] H H') (n : a ≠ p) (h : H a = some o) : H' a = some o := e.keep a o (fun z => n (List.mem_singleton.mp z)) h
theorem Ed.at2 {H H' : Hp} {a p q : Addr} {o : HO} (e : Ed [p, q] H H') (n : a ≠ p) (m : a ≠ q) (h : H a = some o) : H' a = some o := e.keep a o (fun z => by
  rcases List.mem_cons.mp z with z | z
  · exact n z
  · exact m (List.mem_singleton.mp z)) h
theorem Ed.rdt {S : List Addr} {H H' : Hp} {a : Addr} {xs : List V} (e : Ed S H H') (h : Rd H a (.tup xs)) : Rd H' a (.tup xs) := by
  rcases h with h | ⟨o, h⟩
  · exact .inl (e.tup _ _ h)
  · exact .inr ⟨o, e.frz _ _ _ h⟩
theorem Ed.sqt {K : PySem.W.Frag} {S : List Addr} {H H' : Hp} {a : Addr} {xs : List V} (e : Ed S H H') (h : SqT K H a xs) : SqT K H' a xs := by
  rcases h with h | h
  · exact .inl (e.rdt h)
  · exact .inr h
theorem Ed.sql {K : PySem.W.Frag} {S : List Addr} {H H' : Hp} {a : Addr} {xs : List V} (e : Ed S H H') (n : a ∉ S) (h : SqL K H a xs) : SqL K H' a xs := by
  rcases h with (h | ⟨o, h⟩) | h
  · exact .inl (.inl (e.keep _ _ n h))
  · exact .inl (.inr ⟨o, e.frz _ _ _ h⟩)
  · exact .inr h
theorem Ed.sql0 {K : PySem.W.Frag} {H H' : Hp} {a : Addr} {xs : List V} (e : Ed [] H H') (h : SqL K H a xs) : SqL K H' a xs := e.sql (fun z => nomatch z) h
theorem Ed.sql1 {K : PySem.W.Frag} {H H' : Hp} {a p : Addr} {xs : List V} (e : Ed [p] H H') (n : a ≠ p) (h : SqL K H a xs) : SqL K H' a xs := e.sql (fun z => n (List.mem_singleton.mp z)) h
/-- a list that is read; p holds no list -/
theorem Ed.sqlk {K : PySem.W.Frag} {H H' : Hp} {a p : Addr} {o : HO} {xs : List V} (e : Ed [p] H H') (hp : H p = some o) (n : ∀ ys, o ≠ .lst ys) (h : SqL K H a xs) : SqL K H' a xs := by
  rcases h with (h | ⟨ob, h⟩) | h
  · exact .inl (.inl (e.keep _ _ (fun z => by rw [List.mem_singleton.mp z, hp] at h; cases h; exact n xs rfl) h))
  · exact .inl (.inr ⟨ob, e.frz _ _ _ h⟩)
  · exact .inr h

/-! ### data stay -/
mutual
theorem Dp.ed {K : PySem.W.Frag} {S : List Addr} {H H' : Hp} (e : Ed S H H') (hS : ∀ a ∈ S, ∀ xs, H a ≠ some (.lst xs)) : ∀ (d : PyData) (v : V), Dp K H v d → Dp K H' v d
  | .none, _, h => by cases h; exact .non
  | .bool b, _, h => by cases h; exact .bl b
  | .int i, _, h => by cases h; exact .int i
  | .str x, _, h => by cases h; exact .str x
  | .list ds, _, h => by
    cases h with
    | lst ha hd =>
      refine .lst ?_ (Dp.edAll e hS ds _ hd)
      rcases ha with (ha | ⟨ob, ha⟩) | ha
      · exact .inl (.inl (e.keep _ _ (fun z => hS _ z _ ha) ha))
      · exact .inl (.inr ⟨ob, e.frz _ _ _ ha⟩)
      · exact .inr ha
  | .tuple ds, _, h => by
    cases h with
    | tup ha hd => exact .tup (e.sqt ha) (Dp.edAll e hS ds _ hd)
theorem Dp.edAll {K : PySem.W.Frag} {S : List Addr} {H H' : Hp} (e : Ed S H H') (hS : ∀ a ∈ S, ∀ xs, H a ≠ some (.lst xs)) : ∀ (ds : List PyData) (vs : List V), DpAll K H vs ds → DpAll K H' vs ds
  | [], _, h => by cases h; exact .nil
  | d :: ds, _, h => by
    cases h with
    | cons h1 h2 => exact .cons (Dp.ed e hS d _ h1) (Dp.edAll e hS ds _ h2)
end
theorem Dp.ed0 {K : PySem.W.Frag} {H H' : Hp} {d : PyData} {v : V} (e : Ed [] H H') (h : Dp K H v d) : Dp K H' v d := Dp.ed e (fun _ z => nomatch z) d v h

/-! ### readings, step by step: what is left is stated without its binders -/
section
variable {K : PySem.W.Frag} {σ : L2.St} {H : Hp} {D : Ends} {Q : VK} {QB : Bool → Hp → Prop} {QA : List V → Hp → Prop} {te ta tb : TE} {tt tu : TT} {t u : TS} {g : TG} {v x y : V} {i j : Int}
-- statements
theorem go_seq (h : t { D with nx := u D } σ H) : tSeq t u D σ H := h
theorem go_asg (h : te σ H fun x H1 => g x σ H1 D.nx) : tAsg te g D σ H := h
theorem go_drop (h : te σ H fun _ H1 => D.nx σ H1) : tDrop te D σ H := h
theorem go_ret (h : te σ H D.rt) : tRet te D σ H := h
theorem go_retN (h : D.rt .non H) : tRetN D σ H := h
theorem go_next (h : D.nx σ H) : tNext D σ H := h
theorem go_break (h : D.bk σ H) : tBreak D σ H := h
theorem go_cont (h : D.ct σ H) : tCont D σ H := h
theorem go_ifS (h : tt σ H fun b H1 => if b = true then t D σ H1 else u D σ H1) : tIfS tt t u D σ H := h
theorem go_name {n : Nat} {R : L2.St → Hp → Prop} (h : R (σ.set n (some v)) H) : gName n v σ H R := h
-- tests
theorem go_test (h : te σ H fun x H' => ∃ k, x = .bl k ∧ QB k H') : tTest te σ H QB := h
theorem go_B (h : te σ H fun x H' => ∃ k, x = .bl k ∧ QB k H') : tB te σ H QB := h
theorem go_bl {b : Bool} {R : Bool → Prop} (h : R b) : ∃ k, V.bl b = .bl k ∧ R k := ⟨b, rfl, h⟩
theorem go_notT (h : tt σ H fun c H1 => QB (!c) H1) : tNot tt σ H QB := h
theorem go_andT (h : tt σ H fun c H1 => if c = true then tu σ H1 QB else QB false H1) : tAnd tt tu σ H QB := h
theorem go_orT (h : tt σ H fun c H1 => if c = true then QB true H1 else tu σ H1 QB) : tOr tt tu σ H QB := h
theorem go_yes (h : QB true H) : tYes σ H QB := h
-- values
theorem go_var {n : Nat} (e : σ[n]? = some (some v)) (h : Q v H) : tVar n σ H Q := ⟨v, e, h⟩
theorem go_c (h : Q v H) : tC v σ H Q := h
theorem go_op {r : R2} (h : ta σ H fun x H1 => tb σ H1 fun y H2 => r x y H2 Q) : tOp r ta tb σ H Q := h
theorem go_un {r : V → Hp → VK → Prop} (h : ta σ H fun x H1 => r x H1 Q) : tUn r ta σ H Q := h
theorem go_andV (h : ta σ H fun x H1 => ∃ c, x = .bl c ∧ if c = true then tb σ H1 Q else Q (.bl false) H1) : tAndV ta tb σ H Q := h
theorem go_orV (h : ta σ H fun x H1 => ∃ c, x = .bl c ∧ if c = true then Q (.bl true) H1 else tb σ H1 Q) : tOrV ta tb σ H Q := h
theorem go_notV (h : ta σ H fun x H1 => ∃ c, x = .bl c ∧ Q (.bl (!c)) H1) : tNotV ta σ H Q := h
theorem go_blP {b : Bool} {P : Bool → Prop} (h : P b) : ∃ c, V.bl b = .bl c ∧ P c := ⟨b, rfl, h⟩
theorem go_if (h : tt σ H fun c H1 => if c = true then ta σ H1 Q else tb σ H1 Q) : tIf tt ta tb σ H Q := h
theorem go_I0 {f : Int → Int → V} (h : Q (f i j) H) : rI0 f (.int i) (.int j) H Q := ⟨i, j, rfl, rfl, h⟩
theorem go_I {C : Int → Int → Prop} {f : Int → Int → V} (hc : C i j) (h : Q (f i j) H) : rI C f (.int i) (.int j) H Q := ⟨i, j, rfl, rfl, hc, h⟩
theorem go_U {f : Int → V} (h : Q (f i) H) : rU f (.int i) H Q := ⟨i, rfl, h⟩
theorem go_eqI (h : Q (.bl (decide (i = j))) H) : rEq (.int i) (.int j) H Q := ⟨rfl, by
  have : decide (V.int i = V.int j) = decide (i = j) := by rw [Bool.eq_iff_iff]; simp
  rw [this]; exact h⟩
theorem go_neI (h : Q (.bl (!decide (i = j))) H) : rNe (.int i) (.int j) H Q := ⟨rfl, by
  have : decide (V.int i = V.int j) = decide (i = j) := by rw [Bool.eq_iff_iff]; simp
  rw [this]; exact h⟩
theorem go_eqS {a b : Str} (h : Q (.bl (decide (a = b))) H) : rEq (.str a) (.str b) H Q := ⟨rfl, by
  have : decide (V.str a = V.str b) = decide (a = b) := by rw [Bool.eq_iff_iff]; simp
  rw [this]; exact h⟩
theorem go_neS {a b : Str} (h : Q (.bl (!decide (a = b))) H) : rNe (.str a) (.str b) H Q := ⟨rfl, by
  have : decide (V.str a = V.str b) = decide (a = b) := by rw [Bool.eq_iff_iff]; simp
  rw [this]; exact h⟩
theorem go_eqB {a b : Bool} (h : Q (.bl (decide (a = b))) H) : rEq (.bl a) (.bl b) H Q := ⟨rfl, by
  have : decide (V.bl a = V.bl b) = decide (a = b) := by rw [Bool.eq_iff_iff]; simp
  rw [this]; exact h⟩
theorem go_neB {a b : Bool} (h : Q (.bl (!decide (a = b))) H) : rNe (.bl a) (.bl b) H Q := ⟨rfl, by
  have : decide (V.bl a = V.bl b) = decide (a = b) := by rw [Bool.eq_iff_iff]; simp
  rw [this]; exact h⟩
theorem go_eqg (hs : scal x y = true) (h : Q (.bl (decide (x = y))) H) : rEq x y H Q := ⟨hs, h⟩
theorem go_neg (hs : scal x y = true) (h : Q (.bl (!decide (x = y))) H) : rNe x y H Q := ⟨hs, h⟩
theorem go_cb {r : List V → Hp → VK → Prop} {ts : TA} (h : ts σ H fun vs H1 => r vs H1 Q) : tCB r ts σ H Q := h
theorem go_nil (h : QA [] H) : tNil σ H QA := h
theorem go_cons {tr : TA} (h : ta σ H fun x H1 => tr σ H1 fun xs H2 => QA (x :: xs) H2) : tCons ta tr σ H QA := h
theorem go_call {sp : Sp} {E : XK} {ts : TA} (h : ts σ H fun vs H1 => sp vs H1 Q E) : tCall sp [] E ts σ H Q := by
  unfold tCall
  simpa only [List.append_nil] using h
theorem go_tup {ts : TA} (h : ts σ H fun xs H1 => xs.length ≤ sizeLine ∧ ∀ p, H1 p = none → Q (.ref p) (upd H1 p (.tup xs))) : tTup ts σ H Q := h
theorem go_lst {ts : TA} (h : ts σ H fun xs H1 => xs.length ≤ sizeLine ∧ ∀ p, H1 p = none → Q (.ref p) (upd H1 p (.lst xs))) : tLst ts σ H Q := h
theorem go_len {xs : List V} {P : Prop} (hl : xs.length ≤ 1000) (h : P) : xs.length ≤ sizeLine ∧ P := ⟨Nat.le_of_lt (small1000 hl), h⟩
theorem go_dnew (h : ∀ p, H p = none → Q (.ref p) (upd H p (.dK []))) : tDNewK σ H Q := h
theorem go_dget (h : ta σ H fun x H1 => tb σ H1 fun y H2 => ∃ a v, x = .ref a ∧ DGet H2 a y (some v) ∧ Q v H2) : tDGet ta tb σ H Q := h
theorem go_dgetS {a : Addr} {k : Str} {kvs : List (Key × V)} {v : V} {R : V → Prop} (e : H a = some (.dK kvs)) (ev : valV kvs (.inr k) = some v) (h : R v) : ∃ a' v', V.ref a = .ref a' ∧ DGet H a' (.str k) (some v') ∧ R v' :=
  ⟨a, v, rfl, by rw [← ev]; exact DGet.k (k := .inr k) e, h⟩
theorem go_dgetI {a : Addr} {k : Int} {kvs : List (Key × V)} {v : V} {R : V → Prop} (e : H a = some (.dK kvs)) (ev : valV kvs (.inl k) = some v) (h : R v) : ∃ a' v', V.ref a = .ref a' ∧ DGet H a' (.int k) (some v') ∧ R v' :=
  ⟨a, v, rfl, by rw [← ev]; exact DGet.k (k := .inl k) e, h⟩
theorem go_din (h : ta σ H fun y H1 => tb σ H1 fun x H2 => ∃ a o, x = .ref a ∧ DGet H2 a y o ∧ Q (.bl o.isSome) H2) : tDIn ta tb σ H Q := h
theorem go_dnotin (h : ta σ H fun y H1 => tb σ H1 fun x H2 => ∃ a o, x = .ref a ∧ DGet H2 a y o ∧ Q (.bl (!o.isSome)) H2) : tDNotIn ta tb σ H Q := h
theorem go_dinI {a : Addr} {k : Int} {kvs : List (Key × V)} {P : Option V → Prop} (e : H a = some (.dK kvs)) (h : P (valV kvs (.inl k))) : ∃ a' o, V.ref a = .ref a' ∧ DGet H a' (.int k) o ∧ P o :=
  ⟨a, _, rfl, DGet.k (k := .inl k) e, h⟩
theorem go_dput {tv : TE} (h : tv σ H fun v H1 => ta σ H1 fun x H2 => tb σ H2 fun y H3 => ∃ a H4, x = .ref a ∧ DPut H3 a y v H4 ∧ D.nx σ H4) : sDPut ta tb tv D σ H := h
theorem go_dputS {a : Addr} {k : Str} {kvs : List (Key × V)} {v : V} {P : Hp → Prop} (e : H a = some (.dK kvs)) (hl : kvs.length ≤ 1000) (h : P (upd H a (.dK (putK kvs (.inr k) v)))) : ∃ a' H4, V.ref a = .ref a' ∧ DPut H a' (.str k) v H4 ∧ P H4 :=
  ⟨a, _, rfl, DPut.k (k := .inr k) e (small1000 hl), h⟩
theorem go_dputI {a : Addr} {k : Int} {kvs : List (Key × V)} {v : V} {P : Hp → Prop} (e : H a = some (.dK kvs)) (hl : kvs.length ≤ 1000) (h : P (upd H a (.dK (putK kvs (.inl k) v)))) : ∃ a' H4, V.ref a = .ref a' ∧ DPut H a' (.int k) v H4 ∧ P H4 :=
  ⟨a, _, rfl, DPut.k (k := .inl k) e (small1000 hl), h⟩
theorem go_ixL {p : Addr} {xs : List V} (hs : SqL K H p xs) (ha : atI xs i = some v) (h : Q v H) : rIxL K (.ref p) (.int i) H Q := ⟨p, xs, i, v, rfl, rfl, hs, ha, h⟩
theorem go_ixT {p : Addr} {xs : List V} (hs : SqT K H p xs) (ha : atI xs i = some v) (h : Q v H) : rIxT K (.ref p) (.int i) H Q := ⟨p, xs, i, v, rfl, rfl, hs, ha, h⟩
theorem go_ixS {z : Str} {c : Nat} (hz : z.length ≤ 1000) (ha : atI z.cps.toList i = some c) (h : Q (.str ⟨#[c]⟩) H) : rIxS (.str z) (.int i) H Q := ⟨z, i, c, rfl, rfl, Nat.le_of_lt (small1000 hz), ha, h⟩
theorem go_sl {r : V → Option Int → Option Int → Hp → VK → Prop} {tl th : TO} (h : te σ H fun x H1 => tl σ H1 fun l H2 => th σ H2 fun u H3 => r x l u H3 Q) : tSl r te tl th σ H Q := h
theorem go_nopart {QO : Option Int → Hp → Prop} (h : QO none H) : tNoPart σ H QO := h
theorem go_part {QO : Option Int → Hp → Prop} (h : te σ H fun x H1 => ∃ i, x = .int i ∧ QO (some i) H1) : tPart te σ H QO := h
theorem go_partI {P : Int → Prop} (h : P i) : ∃ j, V.int i = .int j ∧ P j := ⟨i, rfl, h⟩
theorem go_slL {p : Addr} {xs : List V} {lo hi : Option Int} (hs : SqL K H p xs) (h : ∀ q, H q = none → Q (.ref q) (upd H q (.lst (cutV xs lo hi)))) : rSlL K (.ref p) lo hi H Q := ⟨p, xs, rfl, hs, h⟩
theorem go_slS {z : Str} {lo hi : Option Int} (hz : z.length ≤ 1000) (h : Q (.str (cutS z lo hi)) H) : rSlS (.str z) lo hi H Q := ⟨z, rfl, Nat.le_of_lt (small1000 hz), h⟩
theorem go_abs {R : Int → Prop} (h : R i) : ∃ j, [V.int i] = [.int j] ∧ R j := ⟨i, rfl, h⟩
theorem go_int1 {R : Int → Prop} {R' : Bool → Prop} (h : R i) : (∃ j, [V.int i] = [.int j] ∧ R j) ∨ ∃ k, [V.int i] = [.bl k] ∧ R' k := .inl ⟨i, rfl, h⟩
theorem go_int1b {k : Bool} {R : Int → Prop} {R' : Bool → Prop} (h : R' k) : (∃ j, [V.bl k] = [.int j] ∧ R j) ∨ ∃ k', [V.bl k] = [.bl k'] ∧ R' k' := .inr ⟨k, rfl, h⟩
theorem go_bm {T : String} {r : V → List V → Hp → VK → Prop} {to : TE} {ts : TA} (h : to σ H fun x H1 => tyV K T x H1 ∧ ts σ H1 fun xs H2 => r x xs H2 Q) : tBM K T r to ts σ H Q := h
theorem go_bm0 {T : String} {r : V → List V → Hp → VK → Prop} {to : TE} (h : to σ H fun x H1 => tyV K T x H1 ∧ r x [] H1 Q) : tBM0 K T r to σ H Q := h
theorem go_tyL {p : Addr} {xs : List V} {P : Prop} (e : SqL K H p xs) (h : P) : tyV K "list" (.ref p) H ∧ P := ⟨.inl ⟨rfl, xs, e⟩, h⟩
theorem go_append {p : Addr} {xs : List V} (e : H p = some (.lst xs)) (hl : xs.length ≤ 1000) (h : Q .non (upd H p (.lst (xs ++ [v])))) : rAppend (.ref p) [v] H Q := ⟨p, xs, v, rfl, rfl, e, small1000 hl, h⟩
theorem go_lenL {p : Addr} {xs : List V} {R : List V → Prop} (e : SqL K H p xs) (h : R xs) : ∃ q ys, [V.ref p] = [.ref q] ∧ (SqL K H q ys ∨ SqT K H q ys) ∧ R ys := ⟨p, xs, rfl, .inl e, h⟩
theorem go_lenT {p : Addr} {xs : List V} {R : List V → Prop} (e : SqT K H p xs) (h : R xs) : ∃ q ys, [V.ref p] = [.ref q] ∧ (SqL K H q ys ∨ SqT K H q ys) ∧ R ys := ⟨p, xs, rfl, .inr e, h⟩
theorem go_for {wi : TI} (h : wi σ H fun J H1 => ∃ W : Nat → Nat → L2.St → Hp → Prop, (∃ m, W 0 m σ H1) ∧ ∀ i m σ H, W i m σ H →
  (J.stop i H ∧ D.nx σ H) ∨ (J.go i H ∧ ∃ N : L2.St → Hp → Prop, (∀ σ' H', N σ' H' → ∃ m', m' < m ∧ W (i + 1) m' σ' H') ∧ ∀ x H', J.yld i H x H' → g x σ H' fun σ2 H2 => t { D with nx := N, ct := N, bk := D.nx } σ2 H2)) : tFor wi g t D σ H := h
theorem go_iList {tl : TE} {R : It → Hp → Prop} (h : tl σ H fun x H1 => ∃ a, x = .ref a ∧ (∃ xs, SqL K H1 a xs) ∧ R (Itl K a) H1) : iList K tl σ H R := h
theorem go_iTup {tl : TE} {R : It → Hp → Prop} (h : tl σ H fun x H1 => ∃ a, x = .ref a ∧ (∃ xs, SqT K H1 a xs) ∧ R (Itt K a) H1) : iTup K tl σ H R := h
theorem go_iRng1 {ts : TA} {R : It → Hp → Prop} (h : ts σ H fun vs H1 => ∃ j : Int, vs = [.int j] ∧ -(2 ^ 62) ≤ j ∧ j < 2 ^ 62 ∧ R (Itr 0 j.toNat) H1) : iRng1 ts σ H R := h
theorem go_iRng2 {ts : TA} {R : It → Hp → Prop} (h : ts σ H fun vs H1 => ∃ i j : Int, vs = [.int i, .int j] ∧ (-(2 ^ 62) ≤ i ∧ i < 2 ^ 62 ∧ -(2 ^ 62) ≤ j ∧ j < 2 ^ 62) ∧ R (Itr i (j - i).toNat) H1) : iRng2 ts σ H R := h
theorem go_iStr {tl : TE} {R : It → Hp → Prop} (h : tl σ H fun v H1 => ∃ x, v = .str x ∧ R (Its x) H1) : iStr tl σ H R := h
theorem go_lc {wi : TI} {vs : List Nat} (h : wi σ H fun J H1 => ∀ D, H1 D = none → ∃ W : Nat → Nat → Hp → Prop, (∃ m, W 0 m (upd H1 D (.lst []))) ∧ ∀ i m H, W i m H →
  (J.stop i H ∧ Q (.ref D) H) ∨ (J.go i H ∧ ∃ Nx : Hp → Prop, (∀ H', Nx H' → ∃ m', m' < m ∧ W (i + 1) m' H') ∧ ∀ x H', J.yld i H x H' → g x (wipe σ vs) H' fun σ2 H2 => wipe σ2 vs = wipe σ vs ∧ tt σ2 H2 fun b H3 =>
    if b = true then te σ2 H3 fun y H4 => ∃ acc, H4 D = some (.lst acc) ∧ acc.length < sizeLine ∧ Nx (upd H4 D (.lst (acc ++ [y]))) else Nx H3)) : tLc wi g tt te vs σ H Q := h
/-- a comprehension over n turns that give items one by one: the new list's items so far are told by Pv -/
theorem lc_by {J : It} {n : Nat} {G : Hp → Prop} {Y : Nat → Hp → V → Hp → Prop} {vs : List Nat} {R : Addr → Hp → Prop} (w : Walk J n G Y) (Pv : Addr → Nat → Hp → Prop) (h0 : ∀ D H2, H D = none → Ed [] H H2 → H2 D = some (.lst []) → Pv D 0 H2) (hG : ∀ D i H', H D = none → i ≤ n → Pv D i H' → G H')
    (hs : ∀ D i x H1 H', H D = none → i < n → Pv D i H1 → Y i H1 x H' → g x (wipe σ vs) H' fun σ2 H2 => wipe σ2 vs = wipe σ vs ∧ tt σ2 H2 fun b H3 =>
      if b = true then te σ2 H3 fun y H4 => ∃ acc, H4 D = some (.lst acc) ∧ acc.length < sizeLine ∧ Pv D (i + 1) (upd H4 D (.lst (acc ++ [y]))) else Pv D (i + 1) H3) (hd : ∀ D H', H D = none → Pv D n H' → R D H') :
    ∀ D, H D = none → ∃ W : Nat → Nat → Hp → Prop, (∃ m, W 0 m (upd H D (.lst []))) ∧ ∀ i m H, W i m H →
      (J.stop i H ∧ R D H) ∨ (J.go i H ∧ ∃ Nx : Hp → Prop, (∀ H', Nx H' → ∃ m', m' < m ∧ W (i + 1) m' H') ∧ ∀ x H', J.yld i H x H' → g x (wipe σ vs) H' fun σ2 H2 => wipe σ2 vs = wipe σ vs ∧ tt σ2 H2 fun b H3 =>
        if b = true then te σ2 H3 fun y H4 => ∃ acc, H4 D = some (.lst acc) ∧ acc.length < sizeLine ∧ Nx (upd H4 D (.lst (acc ++ [y]))) else Nx H3) := fun D nD =>
  lc_it w (Pv D) (h0 D _ nD (Ed.new nD) upd_same) (fun i H' hi p => hG D i H' nD hi p) (fun i x H1 H' hi p y => hs D i x H1 H' nD hi p y) (fun H' p => hd D H' nD p)
/-- list(xs) -/
theorem go_listL {p : Addr} {xs : List V} {R : List V → Prop} (e : SqL K H p xs) (h : R xs) : ∃ q ys, [V.ref p] = [.ref q] ∧ (SqL K H q ys ∨ SqT K H q ys) ∧ R ys := ⟨p, xs, rfl, .inl e, h⟩
theorem go_disp {trs : List (TE × TE)} (h : ∀ p, H p = none → tPairs trs σ (upd H p (.dK [])) fun ps H2 => H2 p = some (.dK []) ∧ ∃ kvs : List (Key × V), ps = kvs.map (fun kv => (kV kv.1, kv.2)) ∧ kvs.length ≤ 15 ∧ Q (.ref p) (upd H2 p (.dK (mergeK [] kvs)))) : tDisp trs σ H Q := h
theorem go_pairs {tk tv : TE} {trs : List (TE × TE)} {R : List (V × V) → Hp → Prop} (h : tk σ H fun k H1 => tv σ H1 fun v H2 => tPairs trs σ H2 fun ps H3 => R ((k, v) :: ps) H3) : tPairs ((tk, tv) :: trs) σ H R := h
theorem go_pairs0 {R : List (V × V) → Hp → Prop} (h : R [] H) : tPairs [] σ H R := h
/-- a new object, by name -/
theorem alloc {p : Addr} {o : HO} {H2 : Hp} (hu : upd H p o = H2) (h : H p = none) : Ed [] H H2 ∧ H2 p = some o := by subst hu; exact ⟨Ed.new h, upd_same⟩
/-- an object changed, by name -/
theorem chg {p : Addr} {o u : HO} {H2 : Hp} (hu : upd H p o = H2) (h : H p = some u) (m : Mut (some u) := by trivial) : Ed [p] H H2 ∧ H2 p = some o := by subst hu; exact ⟨Ed.mut h m, upd_same⟩
-- ifs
theorem go_ite {c : Prop} [Decidable c] {A B : Prop} (h1 : c → A) (h2 : ¬ c → B) : if decide c = true then A else B := by
  by_cases h : c
  · rw [if_pos (decide_eq_true h)]; exact h1 h
  · rw [if_neg (fun z => h (of_decide_eq_true z))]; exact h2 h
theorem go_iten {c : Prop} [Decidable c] {A B : Prop} (h1 : ¬ c → A) (h2 : c → B) : if (!decide c) = true then A else B := by
  by_cases h : c
  · rw [decide_eq_true h]; exact iteF (h2 h)
  · rw [decide_eq_false h]; exact iteT (h1 h)
theorem go_iteb {b : Bool} {A B : Prop} (h1 : b = true → A) (h2 : b = false → B) : if b = true then A else B := by
  cases b with
  | true => exact iteT (h1 rfl)
  | false => exact iteF (h2 rfl)
theorem go_itebn {b : Bool} {A B : Prop} (h1 : b = false → A) (h2 : b = true → B) : if (!b) = true then A else B := by
  cases b with
  | true => exact iteF (h2 rfl)
  | false => exact iteT (h1 rfl)
end

/-! ### distinct places -/
theorem ne1 {H : Hp} {a b : Addr} {o : HO} (h' : H b = none) (h : H a = some o) : a ≠ b := ne_of_none h h'
theorem ne2 {H : Hp} {a b : Addr} {o : HO} (h' : H a = none) (h : H b = some o) : a ≠ b := (ne_of_none h h').symm
theorem nek {H : Hp} {a b : Addr} {o u : HO} (h : H a = some o) (h' : H b = some u) (d : o ≠ u) : a ≠ b := ne_of h h' d
theorem Ed.ex' {S : List Addr} {H H1 H2 : Hp} (b : Ed [] H1 H2) (a : Ed S H H1) : Ed S H H2 := a.ex b
theorem Ed.one' {S : List Addr} {H H1 H2 : Hp} {p : Addr} (b : Ed [p] H1 H2) (a : Ed S H H1) (h : p ∈ S ∨ H p = none) : Ed S H H2 := a.one b h
theorem Ed.two' {S : List Addr} {H H1 H2 : Hp} {p q : Addr} (b : Ed [p, q] H1 H2) (a : Ed S H H1) (h : p ∈ S ∨ H p = none) (h' : q ∈ S ∨ H q = none) : Ed S H H2 :=
  a.trans b fun x z => by
    rcases List.mem_cons.mp z with z | z
    · rw [z]; exact h
    · rw [List.mem_singleton.mp z]; exact h'
theorem Ed.back {S : List Addr} {H H' : Hp} {a : Addr} (e : Ed S H H') (h : H' a = none) : H a = none := e.dom a h
theorem sqt_of {K : PySem.W.Frag} {H : Hp} {a : Addr} {xs : List V} (h : H a = some (.tup xs)) : SqT K H a xs := .inl (.inl h)
theorem go_neL {α : Type} [DecidableEq α] {a : α} {A B : Prop} (h : B) : if (!decide (a = a)) = true then A else B := by rw [decide_eq_true rfl]; exact iteF h
theorem go_eqL {α : Type} [DecidableEq α] {a : α} {A B : Prop} (h : A) : if decide (a = a) = true then A else B := by rw [decide_eq_true rfl]; exact iteT h
theorem go_nT {A B : Prop} (h : B) : if (!true) = true then A else B := iteF h
theorem go_nF {A B : Prop} (h : A) : if (!false) = true then A else B := iteT h
theorem go_iteT' {c : Prop} [Decidable c] {A B : Prop} (hc : c) (h : A) : if decide c = true then A else B := by rw [decide_eq_true hc]; exact iteT h
theorem go_iteF' {c : Prop} [Decidable c] {A B : Prop} (hc : ¬ c) (h : B) : if decide c = true then A else B := by rw [decide_eq_false hc]; exact iteF h
theorem go_itenT' {c : Prop} [Decidable c] {A B : Prop} (hc : ¬ c) (h : A) : if (!decide c) = true then A else B := by rw [decide_eq_false hc]; exact iteT h
theorem go_itenF' {c : Prop} [Decidable c] {A B : Prop} (hc : c) (h : B) : if (!decide c) = true then A else B := by rw [decide_eq_true hc]; exact iteF h
theorem go_strE {z : Str} {R : Str → Prop} (h : R z) : ∃ x, V.str z = .str x ∧ R x := ⟨z, rfl, h⟩
theorem go_sign {c : Nat} {z : Str} {R : Nat → Str → Prop} (h : R c z) : ∃ c' z', V.str ⟨#[c]⟩ = .str ⟨#[c']⟩ ∧ V.str z = .str z' ∧ R c' z' := ⟨c, z, rfl, rfl, h⟩
theorem go_lenS {z : Str} {R : Str → Prop} (l : z.length ≤ 1000) (h : R z) : ∃ x, [V.str z] = [.str x] ∧ x.length ≤ sizeLine ∧ R x := ⟨z, rfl, Nat.le_of_lt (small1000 l), h⟩
/-! ### is None -/
theorem go_isN {R : Prop} (h : R) : V.non = V.non ∧ R := ⟨rfl, h⟩
theorem go_iteN {x : V} {A B : Prop} (hx : x ≠ .non) (h : B) : if decide (x = V.non) = true then A else B := by rw [decide_eq_false hx]; exact iteF h
theorem go_iteNT {A B : Prop} (h : A) : if decide (V.non = V.non) = true then A else B := iteT h
/-! ### isinstance -/
theorem kit_int_int : kitB "int" "int" = some true := by decide +kernel
theorem kit_int_bool : kitB "int" "bool" = some false := by decide +kernel
theorem kit_int_str : kitB "int" "str" = some false := by decide +kernel
theorem kit_int_tuple : kitB "int" "tuple" = some false := by decide +kernel
theorem kit_int_list : kitB "int" "list" = some false := by decide +kernel
theorem kit_int_dict : kitB "int" "dict" = some false := by decide +kernel
theorem kit_bool_int : kitB "bool" "int" = some true := by decide +kernel
theorem kit_bool_bool : kitB "bool" "bool" = some true := by decide +kernel
theorem kit_bool_str : kitB "bool" "str" = some false := by decide +kernel
theorem kit_bool_tuple : kitB "bool" "tuple" = some false := by decide +kernel
theorem kit_bool_list : kitB "bool" "list" = some false := by decide +kernel
theorem kit_bool_dict : kitB "bool" "dict" = some false := by decide +kernel
theorem kit_str_int : kitB "str" "int" = some false := by decide +kernel
theorem kit_str_bool : kitB "str" "bool" = some false := by decide +kernel
theorem kit_str_str : kitB "str" "str" = some true := by decide +kernel
theorem kit_str_tuple : kitB "str" "tuple" = some false := by decide +kernel
theorem kit_str_list : kitB "str" "list" = some false := by decide +kernel
theorem kit_str_dict : kitB "str" "dict" = some false := by decide +kernel
theorem kit_NoneType_int : kitB "NoneType" "int" = some false := by decide +kernel
theorem kit_NoneType_bool : kitB "NoneType" "bool" = some false := by decide +kernel
theorem kit_NoneType_str : kitB "NoneType" "str" = some false := by decide +kernel
theorem kit_NoneType_tuple : kitB "NoneType" "tuple" = some false := by decide +kernel
theorem kit_NoneType_list : kitB "NoneType" "list" = some false := by decide +kernel
theorem kit_NoneType_dict : kitB "NoneType" "dict" = some false := by decide +kernel
theorem kit_list_int : kitB "list" "int" = some false := by decide +kernel
theorem kit_list_bool : kitB "list" "bool" = some false := by decide +kernel
theorem kit_list_str : kitB "list" "str" = some false := by decide +kernel
theorem kit_list_tuple : kitB "list" "tuple" = some false := by decide +kernel
theorem kit_list_list : kitB "list" "list" = some true := by decide +kernel
theorem kit_list_dict : kitB "list" "dict" = some false := by decide +kernel
theorem kit_tuple_int : kitB "tuple" "int" = some false := by decide +kernel
theorem kit_tuple_bool : kitB "tuple" "bool" = some false := by decide +kernel
theorem kit_tuple_str : kitB "tuple" "str" = some false := by decide +kernel
theorem kit_tuple_tuple : kitB "tuple" "tuple" = some true := by decide +kernel
theorem kit_tuple_list : kitB "tuple" "list" = some false := by decide +kernel
theorem kit_tuple_dict : kitB "tuple" "dict" = some false := by decide +kernel
theorem kit_dict_int : kitB "dict" "int" = some false := by decide +kernel
theorem kit_dict_bool : kitB "dict" "bool" = some false := by decide +kernel
theorem kit_dict_str : kitB "dict" "str" = some false := by decide +kernel
theorem kit_dict_tuple : kitB "dict" "tuple" = some false := by decide +kernel
theorem kit_dict_list : kitB "dict" "list" = some false := by decide +kernel
theorem kit_dict_dict : kitB "dict" "dict" = some true := by decide +kernel
section
variable {K : PySem.W.Frag} {H : Hp} {Q : VK} {x : V}
theorem tyL {a : Addr} {xs : List V} (h : SqL K H a xs) : TyX K H (.ref a) (.type "list") := by
  rcases h with (h | ⟨o, h⟩) | ⟨o, _, _, h, c, _⟩
  · exact .base (.lst h)
  · exact .base (.frz h)
  · exact .kList h c
theorem tyT {a : Addr} {xs : List V} (h : SqT K H a xs) : TyX K H (.ref a) (.type "tuple") := by
  rcases h with (h | ⟨o, h⟩) | ⟨o, _, _, h, c, _⟩
  · exact .base (.tup h)
  · exact .fTuple h
  · exact .kTuple h c
theorem go_isi {n m : String} {b : Bool} (ht : TyX K H x (.type n)) (hk : kitB n m = some b) (h : Q (.bl b) H) : rIsi K [x, .ty m] H Q := ⟨x, .ty m, .type n, .type m, b, rfl, .ty m, ht, kit_ty hk, h⟩
theorem or_t {b : Bool} : (true || b) = true := rfl
theorem or_f {b : Bool} : (false || b) = b := rfl
theorem go_isiT2 {tp : Addr} {n m m' : String} {b b' c : Bool} (ht : TyX K H x (.type n)) (e : H tp = some (.tup [.ty m, .ty m'])) (hk : kitB n m = some b) (hk' : kitB n m' = some b') (hc : (b || b') = c) (h : Q (.bl c) H) : rIsiT K [x, .ref tp] H Q :=
  ⟨x, tp, _, .type n, [.type m, .type m'], b || b', rfl, e, .cons (.ty m) (.cons (.ty m') .nil), ht,
    kitAny_cons (kit_ty hk) (fun z => by subst z; exact kitAny_cons (kit_ty hk') (fun z => by subst z; exact kitAny_nil) fun z => by subst z; rfl) fun z => by subst z; rfl, by rw [hc]; exact h⟩
end
/-! ### slices -/
theorem cut_take (xs : List V) (k : Nat) : cutV xs none (some (k : Int)) = xs.take k := by
  unfold cutV
  rw [HT.sIx_nat, HT.sIx_none, List.drop_zero, Nat.sub_zero]
  rcases Nat.le_total k xs.length with h | h
  · rw [Nat.min_eq_left h]
  · rw [Nat.min_eq_right h, List.take_length, List.take_of_length_le h]
theorem cut_drop (xs : List V) (k : Nat) : cutV xs (some (k : Int)) none = xs.drop k := by
  unfold cutV
  rw [HT.sIx_nat, HT.sIx_none]
  rcases Nat.le_total k xs.length with h | h
  · rw [Nat.min_eq_left h, List.take_of_length_le (by rw [List.length_drop]; omega)]
  · rw [Nat.min_eq_right h, List.drop_of_length_le h, List.drop_length, List.take_nil]
theorem cut_mid (xs : List V) (j k : Nat) : cutV xs (some (j : Int)) (some (k : Int)) = (xs.drop j).take (k - j) := by
  unfold cutV
  rw [HT.sIx_nat, HT.sIx_nat]
  rcases Nat.le_total j xs.length with h | h
  · rw [Nat.min_eq_left h]
    rcases Nat.le_total k xs.length with h' | h'
    · rw [Nat.min_eq_left h']
    · rw [Nat.min_eq_right h', List.take_of_length_le (by rw [List.length_drop]; omega), List.take_of_length_le (by rw [List.length_drop]; omega)]
  · rw [Nat.min_eq_right h, List.drop_of_length_le h, List.drop_length, List.take_nil, List.take_nil]
/-! ### sizes -/
theorem mulw {i j : Int} (hi : i.natAbs < 2 ^ 200) (hj : j.natAbs < 2 ^ 200) : CMulW i j := wide_mul (a := 200) (b := 200) hi hj (by decide) (by decide) (by decide)
theorem divw {i j : Int} (h : 0 < j) (hj : j.natAbs < 2 ^ 200) : CDivW i j := wide_div (b := 200) h hj (by decide) (by decide)
end Vc

/-! Setn: len(set(xs)) of a list of pairwise different texts (my own; the way is HandS.Strs', which has at most one text). -/
namespace Setn
open PySem PySem.Spec PyProof.Rows L2
theorem getD_take {xs : List Str} {i : Nat} (h : i < xs.length) : xs.take (i + 1) = xs.take i ++ [xs.getD i Str.empty] := by
  rw [List.take_add_one, List.getElem?_eq_getElem h, List.getD_eq_getElem?_getD, List.getElem?_eq_getElem h]; rfl
theorem any_beq (l : List Str) (k : Str) : l.any (· == k) = decide (k ∈ l) := by
  rw [Bool.eq_iff_iff, List.any_eq_true, decide_eq_true_eq]
  constructor
  · rintro ⟨x, hx, e⟩
    have := eq_of_beq e
    subst this
    exact hx
  · exact fun h => ⟨k, h, beq_self_eq_true k⟩
/-- how many different texts stand ahead of place i -/
def cn (xs : List Str) : Nat → Nat
  | 0 => 0
  | i + 1 => if (xs.take i).any (· == xs.getD i Str.empty) = true then cn xs i else cn xs i + 1
theorem cn_le (xs : List Str) : ∀ i, cn xs i ≤ i
  | 0 => Nat.le_refl 0
  | i + 1 => by
    have := cn_le xs i
    unfold cn
    split <;> omega
theorem cn_eq {xs : List Str} : ∀ {i : Nat}, i ≤ xs.length → (cn xs i = i ↔ (xs.take i).Nodup)
  | 0, _ => by simp [cn]
  | i + 1, h => by
    have ih := cn_eq (xs := xs) (i := i) (by omega)
    have le := cn_le xs i
    rw [getD_take (by omega)]
    unfold cn
    rw [any_beq, List.nodup_append]
    by_cases hm : xs.getD i Str.empty ∈ xs.take i
    · rw [if_pos (by simpa using hm)]
      constructor
      · intro e; omega
      · rintro ⟨_, _, d⟩
        exact absurd rfl (d _ hm _ (by simp))
    · rw [if_neg (by simpa using hm)]
      constructor
      · intro e
        refine ⟨ih.mp (by omega), by simp, fun a ha b hb e => ?_⟩
        rw [List.mem_singleton] at hb
        rw [e, hb] at ha
        exact hm ha
      · rintro ⟨d, _⟩
        rw [ih.mpr d]
theorem cn_nd {xs : List Str} (h : xs.Nodup) : cn xs xs.length = xs.length := (cn_eq (Nat.le_refl _)).mpr (by rw [List.take_length]; exact h)
theorem cn_lt {xs : List Str} : cn xs xs.length < xs.length ↔ ¬ xs.Nodup := by
  have a := cn_eq (xs := xs) (Nat.le_refl _)
  rw [List.take_length] at a
  have b := cn_le xs xs.length
  constructor
  · intro h d
    have := a.mpr d
    omega
  · intro h
    have : cn xs xs.length ≠ xs.length := fun e => h (a.mp e)
    omega
section
variable {prog : Program} {w : World} {A : Around} {R : Result → Shared → Prop} {I : Addr} {fp wr : List Addr} {G : Array GenState → Array GenState → Prop} {n : Nat} {P : Nat → Value → Prop} {St : Nat → Shared → Prop}
/-- the set's own loop over different texts -/
theorem loopD (W : WalksS prog w A.in1 I fp wr G n P St) (S : Addr) (hSf : S ∉ fp) (xs : List Str) (hsz : xs.length = n) (hn : n + 1 < scanBound)
    (hval : ∀ i v, P i v → ∃ t, v = .str (xs.getD i Str.empty) t) : ∀ (k i : Nat) (s : Shared), n - i = k → i ≤ n → St i s → s.heap.SetOf (PySem.strKind prog w) S (fun k' => (xs.take i).any (· == k')) (cn xs i) →
      (∀ s', Moved (S :: wr) G s s' → s'.heap.SetOf (PySem.strKind prog w) S (fun k' => (xs.take n).any (· == k')) (cn xs n) → R (.ok (.ret .none)) s') → codeAny (model prog w) A (.builtin "set.update.loop" ⟨[.ref S, .ref I], []⟩) R s := by
  have nw : S ∉ wr := fun h => hSf (W.sub _ h)
  have sw : ∀ b ∈ wr, b ∈ S :: wr := fun b hb => List.mem_cons_of_mem _ hb
  intro k
  induction k with
  | zero =>
    intro i s hk hi st hS hR
    obtain rfl : i = n := by omega
    refine codeAny_builtin F.entry_set_update_loop ?_
    rw [Around.under_plainId F.plain_set_update_loop _]; show wpAny _ A.in1 (pyNext (.ref I) >>= _) _ _ s
    refine wpAny_bind (W.done s _ _ st fun s' hm => ?_); show wpAny _ A.in1 (ret Value.none) _ _ s'
    refine wpAny_pure (hR s' (hm.mono sw) ?_)
    obtain ⟨o, es, ep, t, ho, rest⟩ := hS; exact ⟨o, es, ep, t, hm.heap S _ nw ho, rest⟩
  | succ k ih =>
    intro i s hk hi st hS hR
    have lt : i < n := by omega
    refine codeAny_builtin F.entry_set_update_loop ?_
    rw [Around.under_plainId F.plain_set_update_loop _]; show wpAny _ A.in1 (pyNext (.ref I) >>= _) _ _ s
    refine wpAny_bind (W.item i s _ _ lt st fun v s' hP st' hm => ?_); obtain ⟨t, rfl⟩ := hval i v hP
    have hS' : s'.heap.SetOf (PySem.strKind prog w) S (fun k' => (xs.take i).any (· == k')) (cn xs i) := by
      obtain ⟨o, es, ep, tb, ho, rest⟩ := hS; exact ⟨o, es, ep, tb, hm.heap S _ nw ho, rest⟩
    show wpAny _ A.in1 (holding [Value.str (xs.getD i Str.empty) t] (setAdd S (.str (xs.getD i Str.empty) t)) >>= _) _ _ s'
    refine wpAny_bind (wpAny_holding ?_); unfold setAdd; refine wpAny_holding ?_
    refine wpAny_bind ((PySem.strKind prog w).pyHash (k := xs.getD i Str.empty) (strKind_is _ _ _ _) ?_)
    refine wpAny_setAddHashed_of (knd := PySem.strKind prog w) (s := { s' with toks := s'.toks + 1 }) (strKind_is _ _ _ _) rfl hS' (by have := cn_le xs i; omega) fun h' sb hS2 => ?_
    have hS3 : h'.SetOf (PySem.strKind prog w) S (fun k' => (xs.take (i + 1)).any (· == k')) (cn xs (i + 1)) := SetOf_congr hS2 (fun k' => by
      rw [getD_take (by omega), List.any_append]
      congr 1
      rw [any_beq, Bool.eq_iff_iff]; simp) rfl
    refine wpAny_pure ⟨plainId_quiet F.plain_set_update_loop _, ih (i + 1) _ (by omega) lt (W.frame _ s' _ _ st' (Nat.le_succ _) fun b hb o e => ?_) hS3 fun s'' hm'' hS'' => ?_⟩
    · rw [sb.2 b (fun h : b = S => hSf (h ▸ hb))]; exact e
    · refine hR s'' (Moved.trans W.gtrans ((hm.mono sw).then_heap (Nat.le_succ _) fun b o hb e => ?_) hm'') hS''
      rw [sb.2 b (fun h : b = S => hb (h ▸ List.mem_cons_self))]; exact e
end
abbrev setO (led : Bool) : Obj := { cls := .type "set", dict := none, data := .set #[] 0 (.fresh 0 0 led) }
section
variable {prog : Program} {w : World} {A : Around} {E : Value → Shared → Prop} {s : Shared}
theorem call_setD {l : Addr} {items : Array Value} {xs : List Str} {Q : Value → Shared → Prop} (hh : A.handled = none) (hl : s.heap.IsList l items) (hi : StrsAre items.toList xs) (hn1 : xs.length + 1 < scanBound)
    (h : ∀ (h' : Heap) (tk : Nat), h'.SetOf (PySem.strKind prog w) s.heap.objs.size (fun k' => (xs.take items.size).any (· == k')) (cn xs items.size) → (∀ b o, b < s.heap.objs.size → s.heap.get? b = some o → h'.get? b = some o) → Q (.ref s.heap.objs.size) { s with heap := h', toks := tk }) :
    wpAny (model prog w) A (call (.type "set") [.ref l]) Q E s := by
  obtain ⟨c, tl, hmro⟩ := PySem.F.called_set.mro
  have hmade := PySem.F.called_set.made; have hsub := PySem.F.called_set.sub
  refine wpAny_call (codeAny_of_tree ?_); show wpAny _ _ (callAny (.type "set") _) _ _ _
  refine wpAny_pure ⟨Code.quiet_builtin _ (by decide +kernel), codeAny_builtin PySem.F.entry_type_call ?_⟩; rw [Around.under_plain (weight_type_call_type "set" [.ref l] []) rfl]
  have h1 := PySem.F.called_set.notType; have h2 := PySem.F.called_set.canCreate; have hct := PySem.F.typeCall_set_1 (.ref l)
  repeat (any_goals (first | assumption | wp_step))
  refine codeAny_mono (code_set_new_1 (.ref l) (E := E) (Q₁ := fun obj s₁ => ∃ led : Bool, obj = .ref s.heap.objs.size ∧ s₁ = { s with heap := s.heap.push (setO led) }) fun led => ⟨led, rfl, rfl⟩) fun r s₁ hr => ?_
  cases r with
  | error e => exact hr
  | ok fl =>
    cases fl with
    | ret obj =>
      obtain ⟨led, rfl, rfl⟩ := hr
      have hS : (s.heap.push (setO led)).get? s.heap.objs.size = some (setO led) := Heap.get?_push_size _ rfl
      have hT : Shared.TypeIs { s with heap := s.heap.push (setO led) } (.ref s.heap.objs.size) "set" := ⟨_, hS, rfl⟩
      have hli := PySem.F.called_set.init.lookup; have hbi := PySem.F.called_set.init.bind (.ref s.heap.objs.size)
      repeat (any_goals (first | assumption | wp_step))
      refine codeAny_mono (codeAny_call_builtin (R := wants (fun r s₂ => r = .none ∧ ∃ h' tk, s₂ = { s with heap := h', toks := tk } ∧ h'.SetOf (PySem.strKind prog w) s.heap.objs.size (fun k' => (xs.take items.size).any (· == k')) (cn xs items.size) ∧
          (∀ b o, b < s.heap.objs.size → s.heap.get? b = some o → h'.get? b = some o)) E) PySem.F.called_set.init.plain PySem.F.entry_set_init (check_set_init_1 hT ?_)) fun r₂ s₂ hr₂ => ?_
      · obtain ⟨ol, hol, hcl, nl, hdl⟩ := hl
        obtain ⟨ocls, odict, odata, oslots⟩ := ol
        simp only at hcl hdl; subst hcl; subst hdl
        have hol' : (s.heap.push (setO led)).get? l = some { cls := .type "list", dict := odict, data := .seq items nl, slots := oslots } := Heap.get?_push_of_some _ hol
        have hsls := PySem.F.sub_list_set; have hslf := PySem.F.sub_list_frozenset
        have hne : (Value.type "list" == Value.type "dict") = false := by decide
        have hl1 : (s.heap.push (setO led)).IsList l items := ⟨_, hol', rfl, nl, rfl⟩
        unfold Builtin.«set.__init__» noKeywords Builtin.Frozenset.updateFrom
        generalize hPI : pyIter = PI
        wp_walk
        subst hPI
        refine wpAny_pyIter_list hl1 ?_; refine wpAny_bind (wpAny_runValue ?_)
        have ll : l < s.heap.objs.size := Heap.lt_size hol
        have h3 : A.in1.in1.in1.handled = none := by simp [hh]
        have nI : l ≠ (s.heap.push (setO led)).objs.size := by rw [Heap.size_push]; exact Nat.ne_of_lt (Nat.lt_succ_of_lt ll)
        have hSf : s.heap.objs.size ∉ [(s.heap.push (setO led)).objs.size, l] := by
          rw [Heap.size_push]; simp only [List.mem_cons, List.not_mem_nil, or_false, not_or]; exact ⟨Nat.ne_of_lt (Nat.lt_succ_self _), Nat.ne_of_gt ll⟩
        have hsz : xs.length = items.size := by rw [← StrsAre.len_eq hi, Array.length_toList]
        have hval : ∀ (i : Nat) (v : Value), items[i]? = some v → ∃ t, v = .str (xs.getD i Str.empty) t := fun i v hv => SS.strs_at hi i v (by rw [Array.getElem?_toList]; exact hv)
        refine loopD ((Walks.list h3 _ l nI items).toS) s.heap.objs.size hSf xs hsz (by rw [← hsz]; exact hn1) hval (items.size - 0) 0 _ (by omega) (Nat.zero_le _) ⟨⟨_, Heap.get?_push_size _ rfl, rfl, rfl⟩, (hl1.push _)⟩ ?hS0 ?hR
        case hS0 =>
          have hget : ((s.heap.push (setO led)).push { cls := .type "list_iterator", data := .fields #[.ref l, .int 0 0] }).get? s.heap.objs.size = some (setO led) := Heap.get?_push_of_some _ hS
          exact SetOf_congr ((setObjOf_fresh (knd := PySem.strKind prog w) led).setOf hget (by unfold scanBound; omega)) (fun _ => rfl) rfl
        case hR =>
          intro s' hm hS'
          obtain ⟨h', g', d', tk', os'⟩ := s'
          obtain rfl : g' = s.gens := hm.gens
          obtain rfl : d' = s.drawn := hm.drawn
          obtain rfl : os' = s.os := hm.os
          show wpAny _ _ _ _ _ _; refine wpAny_pure ?_; show wpAny _ _ (ret Value.none) _ _ _
          refine wpAny_pure ⟨rfl, h', tk', rfl, hS', fun b o hb e => ?_⟩
          have b1 : b ≠ s.heap.objs.size := Nat.ne_of_lt hb
          have b2 : b ≠ (s.heap.push (setO led)).objs.size := by rw [Heap.size_push]; exact Nat.ne_of_lt (Nat.lt_succ_of_lt hb)
          exact hm.heap b o (by simp only [List.mem_cons, List.not_mem_nil, or_false, not_or]; exact ⟨b1, b2⟩) (Heap.get?_push_of_some _ (Heap.get?_push_of_some _ e))
      · cases r₂ with
        | error e => exact hr₂
        | ok fl₂ =>
          cases fl₂ with
          | ret r =>
            obtain ⟨rfl, h', tk, rfl, hS', hk'⟩ := hr₂
            repeat (any_goals (first | assumption | wp_step))
            exact h _ _ hS' hk'
          | _ => exact hr₂.elim
    | _ => exact hr.elim
end
/-- len(set(xs)) of different texts -/
def tLenSetN (K : PySem.W.Frag) (ta : TE) : TE := fun σ H Q => ta σ H fun x H1 => ∃ l, ∃ xs : List Str, x = .ref l ∧ SqL K H1 l (xs.map V.str) ∧ xs.length ≤ 1000 ∧ Q (.int (cn xs xs.length)) H1
section
variable {X : Cx}
theorem pe_lenSetN {a : Expr} {ta : TE} {p p2 q pos : Pos} (hc : X.calm = true) (hg : Gl X "len") (hm : X.mg "len" = none) (hg2 : Gl X "set") (hm2 : X.mg "set" = none) (ha : PE X a ta) (na : starEach [a] X.env = (false, eval a X.env) :: starEach [] X.env := by rfl) :
    PE X (.Call (.Name "len" p) [.Call (.Name "set" p2) [a] [] q] [] pos) (tLenSetN X.K ta) := by
  refine ⟨fun pins s σ H Q I h => ?_⟩
  refine Call_ (ld_blt I hg hm boot_len ?_); refine PyProof.Rows.callWith_builtin1 (PyProof.Rows.args_cons ?_ rfl) rfl rfl
  refine Call_ (ld_blt I hg2 hm2 boot_set ?_)
  refine PyProof.Rows.callWith_type1 (PyProof.Rows.args_cons (thn (ha.run pins s σ H _ I h) fun v s1 ⟨x, H1, I1, r1, q1⟩ => PyProof.Rows.args_nil ?_) na) na rfl
  obtain ⟨l, xs, rfl, hq, hz, q1⟩ := q1
  cases r1
  obtain ⟨its, r, pl, _⟩ := I1.list hq
  have hl : its.toArray.size = xs.length := by rw [List.size_toArray, ← r.length, List.length_map]
  refine call_setD (I1.ok.hd hc) pl.isList (by simpa using strsAre_of r) (by unfold scanBound; omega) fun h' tk hS hk => ?_
  refine PyProof.Rows.args_nil ?_
  rw [hl] at hS
  obtain ⟨o, es, ep, t, ho, hex, hd, _, _, _, hf, hn⟩ := hS
  have I2 : Inv X pins σ H1 { s1 with heap := h', toks := tk } := I1.kept fun b o e => hk b o (Heap.lt_size e) e
  exact call_len_set ho hex hd hf (by rw [hn]; have := cn_le xs xs.length; omega) ⟨.int (cn xs xs.length), H1, I2.tok _, ⟨_, by rw [hn]⟩, q1⟩
end
end Setn

namespace Vc
open PySem PySem.Spec PyProof.Rows L2
section
variable {K : PySem.W.Frag} {σ : L2.St} {H : Hp} {Q : VK} {ta : TE}
theorem go_lenSet (h : ta σ H fun x H1 => ∃ l, ∃ xs : List Str, x = .ref l ∧ SqL K H1 l (xs.map V.str) ∧ xs.length ≤ 1000 ∧ Q (.int (Setn.cn xs xs.length)) H1) : Setn.tLenSetN K ta σ H Q := h
theorem go_lenSetC {a : Addr} {xs : List Str} {R : List Str → Prop} (e : SqL K H a (xs.map V.str)) (l : xs.length ≤ 1000) (h : R xs) : ∃ l', ∃ ys : List Str, V.ref a = .ref l' ∧ SqL K H l' (ys.map V.str) ∧ ys.length ≤ 1000 ∧ R ys := ⟨a, xs, rfl, e, l, h⟩
end
end Vc

/-! Vk: further readings by name: chains, classes' constants, fields, new instances, locked dicts, sorted. -/
namespace Vc
open PySem PySem.Spec PyProof.Rows L2
/-- a reading within a comprehension, told without the comprehension's own frame -/
theorem blkE {Y : Cx} {e : Expr} {t' t : TE} (h : PE Y e t') (q : t' = t) : PE Y e t := q ▸ h
theorem blkT {Y : Cx} {e : List Expr} {t' t : TT} (h : PTs Y e t') (q : t' = t) : PTs Y e t := q ▸ h
section
variable {K : PySem.W.Frag} {σ : L2.St} {H : Hp} {D : Ends} {Q : VK} {te ta tb tc tv : TE} {f : Str} {v x y : V} {i j : Int} {ts : TA} {g : TG} {t : TS} {tt : TT}
theorem go_chain {r r' : R2} (h : ta σ H fun x H1 => tb σ H1 fun y H2 => r x y H2 fun z H3 => ∃ k, z = .bl k ∧ (if k = true then tc σ H3 fun w' H4 => r' y w' H4 Q else Q (.bl false) H3)) : tChain r r' ta tb tc σ H Q := h
theorem go_cvalR (h : ta σ H fun x H1 => ∃ C mc v u, x = .ref C ∧ ClX.CRead K C mc ∧ ClX.CVal K C mc f v u ∧ Q v H1) : ClX.tCVal K ta f σ H Q := h
theorem go_cval {C : Addr} {mc u : Value} {R : V → Prop} (hr : ClX.CRead K C mc) (hv : ClX.CVal K C mc f v u) (h : R v) : ∃ C' mc' v' u', V.ref C = .ref C' ∧ ClX.CRead K C' mc' ∧ ClX.CVal K C' mc' f v' u' ∧ R v' := ⟨C, mc, v, u, rfl, hr, hv, h⟩
theorem go_fld (h : ta σ H fun x H1 => ∃ a C dx fs v, x = .ref a ∧ H1 a = some (.ins C dx fs) ∧ Cls K C ∧ NoAttr K C f ∧ fs.lookup f = some v ∧ Q v H1) : tFld K ta f σ H Q := h
theorem go_fldV {a C dx : Addr} {fs : List (Str × V)} {R : V → Prop} (e : H a = some (.ins C dx fs)) (hl : fs.lookup f = some v) (c : Cls K C) (n : NoAttr K C f) (h : R v) :
    ∃ a' C' dx' fs' v', V.ref a = .ref a' ∧ H a' = some (.ins C' dx' fs') ∧ Cls K C' ∧ NoAttr K C' f ∧ fs'.lookup f = some v' ∧ R v' := ⟨a, C, dx, fs, v, rfl, e, c, n, hl, h⟩
theorem go_sfld (h : tv σ H fun y H1 => ta σ H1 fun x H2 => ∃ a C dx fs, x = .ref a ∧ H2 a = some (.ins C dx fs) ∧ Cls K C ∧ NoAttr K C f ∧ fs.length < 1000 ∧ D.nx σ (upd H2 a (.ins C dx (putF f y fs)))) : sFld K ta tv f D σ H := h
theorem go_sfldV {a C dx : Addr} {fs : List (Str × V)} {R : Hp → Prop} (e : H a = some (.ins C dx fs)) (l : fs.length < 1000) (c : Cls K C) (n : NoAttr K C f) (h : R (upd H a (.ins C dx (putF f v fs)))) :
    ∃ a' C' dx' fs', V.ref a = .ref a' ∧ H a' = some (.ins C' dx' fs') ∧ Cls K C' ∧ NoAttr K C' f ∧ fs'.length < 1000 ∧ R (upd H a' (.ins C' dx' (putF f v fs'))) := ⟨a, C, dx, fs, rfl, e, c, n, l, h⟩
theorem go_make {C : Addr} {sp : Sp} {E : XK} (h : ts σ H fun vs H1 => ∀ x dx, H1 x = none → H1 dx = none → dx ≠ x → sp (.ref x :: vs) (upd (upd H1 dx (.own x)) x (.ins C dx [])) (fun v H2 => v = .non ∧ Q (.ref x) H2) E) : tMake C sp [] E ts σ H Q := by
  unfold tMake
  simpa only [List.append_nil] using h
theorem go_meth {C : Addr} {m : Str} {sp : Sp} {E : XK} (h : ta σ H fun x H1 => ∃ a dx fs, x = .ref a ∧ H1 a = some (.ins C dx fs) ∧ fs.lookup m = none ∧ ts σ H1 fun vs H2 => sp (x :: vs) H2 Q E) : tMeth C m sp [] E ta ts σ H Q := by
  unfold tMeth
  simpa only [List.append_nil] using h
theorem go_methV {a C dx : Addr} {fs : List (Str × V)} {m : Str} {R : Prop} (e : H a = some (.ins C dx fs)) (l : fs.lookup m = none) (h : R) : ∃ a' dx' fs', V.ref a = .ref a' ∧ H a' = some (.ins C dx' fs') ∧ fs'.lookup m = none ∧ R := ⟨a, dx, fs, rfl, e, l, h⟩
/-- a new instance, by name -/
theorem allocI {C p dx : Addr} {H2 : Hp} (hu : upd (upd H dx (.own p)) p (.ins C dx []) = H2) (np : H p = none) (nd : H dx = none) (ne : dx ≠ p) : Ed [] H H2 ∧ H2 p = some (.ins C dx []) ∧ H2 dx = some (.own p) := by
  subst hu
  have n1 : (upd H dx (.own p)) p = none := by rw [upd_ne ne.symm]; exact np
  exact ⟨(Ed.new nd).ex (Ed.new n1), upd_same, by rw [upd_ne ne]; exact upd_same⟩
theorem go_dgetIF {a : Addr} {k : Int} {o : Obj} {kvs : List (Key × V)} {R : V → Prop} (e : H a = some (.frz o (.dK kvs))) (ev : valV kvs (.inl k) = some v) (h : R v) : ∃ a' v', V.ref a = .ref a' ∧ DGet H a' (.int k) (some v') ∧ R v' :=
  ⟨a, v, rfl, .inl ⟨kvs, .inl k, .inr ⟨o, e⟩, rfl, ev.symm⟩, h⟩
theorem go_sorted {a : Addr} {ns : List Int} (e : SqL K H a (ns.map V.int)) (l : ns.length < 64) (h : ∀ (ns' : List Int) (p : Addr), ns'.Perm ns → ns'.Pairwise (· ≤ ·) → H p = none → Q (.ref p) (upd H p (.lst (ns'.map V.int)))) : rSorted K [.ref a] H Q := ⟨a, ns, rfl, e, l, h⟩
theorem go_listD {a : Addr} {kvs : List (Key × V)} (e : H a = some (.dK kvs)) (h : ∀ q, H q = none → Q (.ref q) (upd H q (.lst (kvs.map fun kv => kV kv.1)))) : rListD [.ref a] H Q := ⟨a, kvs, rfl, e, h⟩
theorem go_lenD {a : Addr} {kvs : List (Key × V)} {R : List (Key × V) → Prop} (e : H a = some (.dK kvs)) (h : R kvs) : ∃ b ls, [V.ref a] = [V.ref b] ∧ H b = some (.dK ls) ∧ R ls := ⟨a, kvs, rfl, e, h⟩
theorem go_in {a : Addr} {neg : Bool} {xs : List V} (e : SqL K H a xs ∨ SqT K H a xs) (hx : flatV x = true) (hf : xs.all flatV = true) (h : Q (.bl (if neg then !inV x xs else inV x xs)) H) : rIn K neg x (.ref a) H Q := ⟨a, xs, rfl, e, hx, hf, h⟩
theorem go_inL {a : Addr} {xs : List V} (e : SqL K H a xs) (hx : flatV x = true) (hf : xs.all flatV = true) (h : Q (.bl (inV x xs)) H) : rIn K false x (.ref a) H Q := go_in (neg := false) (.inl e) hx hf h
theorem go_inT {a : Addr} {xs : List V} (e : SqT K H a xs) (hx : flatV x = true) (hf : xs.all flatV = true) (h : Q (.bl (inV x xs)) H) : rIn K false x (.ref a) H Q := go_in (neg := false) (.inr e) hx hf h
theorem go_niL {a : Addr} {xs : List V} (e : SqL K H a xs) (hx : flatV x = true) (hf : xs.all flatV = true) (h : Q (.bl (!inV x xs)) H) : rIn K true x (.ref a) H Q := go_in (neg := true) (.inl e) hx hf h
theorem go_niT {a : Addr} {xs : List V} (e : SqT K H a xs) (hx : flatV x = true) (hf : xs.all flatV = true) (h : Q (.bl (!inV x xs)) H) : rIn K true x (.ref a) H Q := go_in (neg := true) (.inr e) hx hf h
theorem go_dc {wi : TI} {tk : TE} {vs : List Nat} (h : wi σ H fun J H1 => ∀ D, H1 D = none → ∃ W : Nat → Nat → Hp → Prop, (∃ m, W 0 m (upd H1 D (.dK []))) ∧ ∀ i m H, W i m H →
  (J.stop i H ∧ Q (.ref D) H) ∨ (J.go i H ∧ ∃ Nx : Hp → Prop, (∀ H', Nx H' → ∃ m', m' < m ∧ W (i + 1) m' H') ∧ ∀ x H', J.yld i H x H' → g x (wipe σ vs) H' fun σ2 H2 => wipe σ2 vs = wipe σ vs ∧ tt σ2 H2 fun b H3 =>
    if b = true then tk σ2 H3 fun y H4 => tv σ2 H4 fun z H5 => ∃ kvs k, y = kV k ∧ H5 D = some (.dK kvs) ∧ kvs.length < sizeLine ∧ Nx (upd H5 D (.dK (putK kvs k z))) else Nx H3)) : tDc wi g tt tk tv vs σ H Q := h
theorem go_aug {n : Nat} {ti : TIp} {x : V} (e : σ[n]? = some (some x)) (h : te σ H fun y H1 => ti x y H1 fun z H2 => D.nx (σ.set n (some z)) H2) : tAug n te ti D σ H := ⟨x, e, h⟩
theorem go_ipI {f : Int → Int → Int} (h : Q (.int (f i j)) H) : ipI f (.int i) (.int j) H Q := ⟨i, j, rfl, rfl, h⟩
theorem go_addS {a b : Str} {R : Str → Str → Prop} (l : a.length + b.length ≤ 1000) (h : R a b) : ∃ i j, V.str a = .str i ∧ V.str b = .str j ∧ i.length + j.length ≤ sizeLine ∧ R i j := ⟨a, b, rfl, rfl, Nat.le_of_lt (small1000 l), h⟩
theorem go_M1 {r : V → List V → Hp → VK → Prop} (h : ta σ H fun x H1 => (∃ a, x = .str a) ∧ tb σ H1 fun y H2 => r x [y] H2 Q) : tM1 r ta tb σ H Q := h
theorem go_M0 {r : V → List V → Hp → VK → Prop} (h : ta σ H fun x H1 => (∃ a, x = .str a) ∧ r x [] H1 Q) : tM0 r ta σ H Q := h
theorem go_isS {z : Str} {R : Prop} (h : R) : (∃ a, V.str z = .str a) ∧ R := ⟨⟨z, rfl⟩, h⟩
theorem go_join {a : Str} {p : Addr} {ys : List Str} {R : Str → List Str → Prop} (e : SqL K H p (ys.map V.str)) (l : (ys.map (·.length)).sum + ys.length * a.length ≤ 16777216) (h : R a ys) :
    ∃ a' p', ∃ zs : List Str, V.str a = .str a' ∧ [V.ref p] = [.ref p'] ∧ (SqL K H p' (zs.map V.str) ∨ SqT K H p' (zs.map V.str)) ∧ (zs.map (·.length)).sum + zs.length * a'.length ≤ 16777216 ∧ R a' zs := ⟨a, p, ys, rfl, rfl, .inl e, l, h⟩
theorem go_sub {to ti : TE} {ts : TSet} {R : L2.St → Hp → Prop} (h : to σ H fun o H1 => ti σ H1 fun i H2 => ts o i v H2 fun H3 => R σ H3) : gSub to ti ts v σ H R := h
theorem go_setL {p : Addr} {xs : List V} {k : Int} {j : Nat} {R : Hp → Prop} (e : H p = some (.lst xs)) (hj : ixN xs.length k = some j) (h : R (upd H p (.lst (xs.set j v)))) : rSetL (.ref p) (.int k) v H R := ⟨p, xs, k, j, rfl, rfl, e, hj, h⟩
theorem go_tupL {p : Addr} {xs : List V} {R : Addr → Hp → Prop} (e : SqL K H p xs) (h : ∀ l, H l = none → R l (upd H l (.tup xs))) : ∃ p' ys, [V.ref p] = [.ref p'] ∧ ((SqL K H p' ys ∧ ∀ l, H l = none → R l (upd H l (.tup ys))) ∨ (SqT K H p' ys ∧ R p' H)) := ⟨p, xs, rfl, .inl ⟨e, h⟩⟩
theorem at_m1 {xs : List V} (h : xs[xs.length - 1]? = some v) : atI xs (-1) = some v := by
  have h0 : 0 < xs.length := by
    rcases Nat.eq_zero_or_pos xs.length with e | e
    · rw [List.eq_nil_of_length_eq_zero e] at h; cases h
    · exact e
  unfold atI ixN
  rw [if_neg (by omega), if_pos (by omega)]
  have : (-1 + (xs.length : Int)).toNat = xs.length - 1 := by omega
  show xs[(-1 + (xs.length : Int)).toNat]? = some v
  rw [this]; exact h
/-- a dict comprehension over n turns that give items one by one -/
theorem dc_by {J : It} {n : Nat} {G : Hp → Prop} {Y : Nat → Hp → V → Hp → Prop} {tk : TE} {vs : List Nat} {R : Addr → Hp → Prop} (w : Walk J n G Y) (Pv : Addr → Nat → Hp → Prop) (h0 : ∀ D H2, H D = none → Ed [] H H2 → H2 D = some (.dK []) → Pv D 0 H2) (hG : ∀ D i H', H D = none → i ≤ n → Pv D i H' → G H')
    (hs : ∀ D i x H1 H', H D = none → i < n → Pv D i H1 → Y i H1 x H' → g x (wipe σ vs) H' fun σ2 H2 => wipe σ2 vs = wipe σ vs ∧ tt σ2 H2 fun b H3 =>
      if b = true then tk σ2 H3 fun y H4 => tv σ2 H4 fun z H5 => ∃ kvs k, y = kV k ∧ H5 D = some (.dK kvs) ∧ kvs.length < sizeLine ∧ Pv D (i + 1) (upd H5 D (.dK (putK kvs k z))) else Pv D (i + 1) H3) (hd : ∀ D H', H D = none → Pv D n H' → R D H') :
    ∀ D, H D = none → ∃ W : Nat → Nat → Hp → Prop, (∃ m, W 0 m (upd H D (.dK []))) ∧ ∀ i m H, W i m H →
      (J.stop i H ∧ R D H) ∨ (J.go i H ∧ ∃ Nx : Hp → Prop, (∀ H', Nx H' → ∃ m', m' < m ∧ W (i + 1) m' H') ∧ ∀ x H', J.yld i H x H' → g x (wipe σ vs) H' fun σ2 H2 => wipe σ2 vs = wipe σ vs ∧ tt σ2 H2 fun b H3 =>
        if b = true then tk σ2 H3 fun y H4 => tv σ2 H4 fun z H5 => ∃ kvs k, y = kV k ∧ H5 D = some (.dK kvs) ∧ kvs.length < sizeLine ∧ Nx (upd H5 D (.dK (putK kvs k z))) else Nx H3) := fun D nD => by
  refine ⟨fun i m H' => m = n - i ∧ i ≤ n ∧ Pv D i H', ⟨n, by simp, Nat.zero_le _, h0 D _ nD (Ed.new nD) upd_same⟩, ?_⟩
  rintro i m H1 ⟨rfl, hi, p⟩
  have q := hG D i H1 nD hi p
  by_cases hlt : i < n
  · exact .inr ⟨w.goes i H1 hlt q, Pv D (i + 1), fun H' p' => ⟨n - (i + 1), by omega, rfl, hlt, p'⟩, fun x H' y => hs D i x H1 H' nD hlt p (w.yields i H1 x H' hlt q y)⟩
  · have : i = n := by omega
    subst this
    exact .inl ⟨w.stops H1 q, hd D H1 nD p⟩
theorem putK_le {κ : Type} [DecidableEq κ] (c : List (κ × V)) (k : κ) (x : V) : (putK c k x).length ≤ c.length + 1 := by
  unfold putK
  split
  · rw [List.length_map]; omega
  · rw [List.length_append]; simp
theorem all_sqt {a : Addr} {xs : List V} (h : ∀ H, SqT K H a xs) (H : Hp) : SqT K H a xs := h H
/-! ### a dict that is locked while it is walked -/
theorem frz' {S : List Addr} {H' : Hp} {a : Addr} {o : Obj} {u : HO} (e : Ed S H H') (h : H a = some (.frz o u)) : H' a = some (.frz o u) := e.frz _ _ _ h
/-- unlocked again: d is what it was, all else as it is -/
theorem unlock {S : List Addr} {d : Addr} {u : HO} {od : Obj} {H1 H' H2 : Hp} (h : H d = some u) (m : Mut (some u)) (e1 : upd H d (.frz od u) = H1) (e2 : Ed S H1 H') (e3 : upd H' d u = H2) :
    Ed S H H2 ∧ H2 d = some u ∧ ∀ a o, a ≠ d → H' a = some o → H2 a = some o := by
  subst e1 e3
  have nf : ∀ ob w, u ≠ .frz ob w := fun ob w z => by rw [z] at m; exact m
  have nt : ∀ xs, u ≠ .tup xs := fun xs z => by rw [z] at m; exact m
  refine ⟨⟨fun a o ha e => ?_, fun a xs e => ?_, fun a ob w e => ?_, fun a e => ?_⟩, upd_same, fun a o n e => by rw [upd_ne n]; exact e⟩
  · by_cases q : a = d
    · subst q; rw [h] at e; cases e; exact upd_same
    · rw [upd_ne q]; exact e2.keep a o ha (by rw [upd_ne q]; exact e)
  · by_cases q : a = d
    · subst q; rw [h] at e; cases e; exact (nt _ rfl).elim
    · rw [upd_ne q]; exact e2.tup a xs (by rw [upd_ne q]; exact e)
  · by_cases q : a = d
    · subst q; rw [h] at e; cases e; exact (nf _ _ rfl).elim
    · rw [upd_ne q]; exact e2.frz a ob w (by rw [upd_ne q]; exact e)
  · by_cases q : a = d
    · subst q; rw [upd_same] at e; cases e
    · rw [upd_ne q] at e
      have := e2.dom a e
      rw [upd_ne q] at this; exact this
/-- for k in d -/
theorem lock_keys {n : Nat} {d : Addr} {kvs : List (Key × V)} (hv : σ[n]? = some (some (.ref d))) (hd : H d = some (.dK kvs)) (S : List Addr) (Pv : Hp → Nat → L2.St → Hp → Prop) (hE : ∀ H1 i σ' H', Pv H1 i σ' H' → Ed S H1 H')
    (h0 : ∀ H1 od, Ed [d] H H1 → H1 d = some (.frz od (.dK kvs)) → Pv H1 0 σ H1)
    (turn : ∀ H1 od i k w σ' H', Ed [d] H H1 → H1 d = some (.frz od (.dK kvs)) → H' d = some (.frz od (.dK kvs)) → kvs[i]? = some (k, w) → Pv H1 i σ' H' →
      g (kV k) σ' H' fun σ2 H2 => t { nx := Pv H1 (i + 1), ct := Pv H1 (i + 1), rt := fun v H3 => H3 d = some (.frz od (.dK kvs)) ∧ D.rt v (upd H3 d (.dK kvs)), bk := fun σ3 H3 => H3 d = some (.frz od (.dK kvs)) ∧ D.nx σ3 (upd H3 d (.dK kvs)) } σ2 H2)
    (done : ∀ H1 σ' H' H2, Ed [d] H H1 → Pv H1 kvs.length σ' H' → Ed S H H2 → H2 d = some (.dK kvs) → (∀ a o, a ≠ d → H' a = some o → H2 a = some o) → D.nx σ' H2) : tLock (tFor (iKeys (tVar n)) g t) D σ H := by
  refine ⟨d, .dK kvs, hd, trivial, fun od => ?_⟩
  generalize hu : upd H d (.frz od (.dK kvs)) = H1
  obtain ⟨e1, h1⟩ := chg hu hd
  refine ⟨_, hv, d, od, rfl, .inl ⟨kvs, h1, for_it walk_keys (Pv H1) (h0 H1 od e1 h1) (fun i σ' H' _ p => (hE _ _ _ _ p).frz _ _ _ h1) (fun i x σ' H' H2 hi p y => ?_) fun σ' H' p => ?_⟩⟩
  · obtain ⟨rfl, k, w, hk, rfl⟩ := y
    exact turn H1 od i k w σ' H2 e1 h1 ((hE _ _ _ _ p).frz _ _ _ h1) hk p
  · obtain ⟨e2, h2, k2⟩ := unlock hd trivial hu (hE _ _ _ _ p) rfl
    exact ⟨(hE _ _ _ _ p).frz _ _ _ h1, done H1 σ' H' _ e1 p e2 h2 k2⟩
/-- [e for k in d] -/
theorem lockE_keys {n : Nat} {d : Addr} {kvs : List (Key × V)} {vs : List Nat} (hv : σ[n]? = some (some (.ref d))) (hd : H d = some (.dK kvs)) (S : List Addr) (Pv : Hp → Addr → Nat → Hp → Prop) (hE : ∀ H1 L i H', Pv H1 L i H' → Ed S H1 H')
    (h0 : ∀ H1 od L H2, Ed [d] H H1 → H1 d = some (.frz od (.dK kvs)) → H1 L = none → Ed [] H1 H2 → H2 L = some (.lst []) → Pv H1 L 0 H2)
    (turn : ∀ H1 od L i k w H', Ed [d] H H1 → H1 L = none → H' d = some (.frz od (.dK kvs)) → kvs[i]? = some (k, w) → Pv H1 L i H' →
      g (kV k) (wipe σ vs) H' fun σ2 H2 => wipe σ2 vs = wipe σ vs ∧ tt σ2 H2 fun b H3 => if b = true then te σ2 H3 fun y H4 => ∃ acc, H4 L = some (.lst acc) ∧ acc.length < sizeLine ∧ Pv H1 L (i + 1) (upd H4 L (.lst (acc ++ [y]))) else Pv H1 L (i + 1) H3)
    (done : ∀ H1 L H' H2, H L = none → Pv H1 L kvs.length H' → Ed S H H2 → H2 d = some (.dK kvs) → (∀ a o, a ≠ d → H' a = some o → H2 a = some o) → Q (.ref L) H2) : tLockE (tLc (iKeys (tVar n)) g tt te vs) σ H Q := by
  refine ⟨d, .dK kvs, hd, trivial, fun od => ?_⟩
  generalize hu : upd H d (.frz od (.dK kvs)) = H1
  obtain ⟨e1, h1⟩ := chg hu hd
  refine ⟨_, hv, d, od, rfl, .inl ⟨kvs, h1, fun L nL => lc_it walk_keys (Pv H1 L) (h0 H1 od L _ e1 h1 nL (Ed.new nL) upd_same) (fun i H' _ p => (hE _ _ _ _ p).frz _ _ _ h1) (fun i x H' H2 hi p y => ?_) fun H' p => ?_⟩⟩
  · obtain ⟨rfl, k, w, hk, rfl⟩ := y
    exact turn H1 od L i k w H2 e1 nL ((hE _ _ _ _ p).frz _ _ _ h1) hk p
  · obtain ⟨e2, h2, k2⟩ := unlock hd trivial hu (hE _ _ _ _ p) rfl
    exact ⟨(hE _ _ _ _ p).frz _ _ _ h1, done H1 L H' _ (e1.dom _ nL) p e2 h2 k2⟩
/-- y = [e for k in d] -/
theorem lockA_keys {n m : Nat} {d : Addr} {kvs : List (Key × V)} {vs : List Nat} (hv : σ[n]? = some (some (.ref d))) (hd : H d = some (.dK kvs)) (S : List Addr) (Pv : Hp → Addr → Nat → Hp → Prop) (hE : ∀ H1 L i H', Pv H1 L i H' → Ed S H1 H')
    (h0 : ∀ H1 od L H2, Ed [d] H H1 → H1 d = some (.frz od (.dK kvs)) → H1 L = none → Ed [] H1 H2 → H2 L = some (.lst []) → Pv H1 L 0 H2)
    (turn : ∀ H1 od L i k w H', Ed [d] H H1 → H1 L = none → H' d = some (.frz od (.dK kvs)) → kvs[i]? = some (k, w) → Pv H1 L i H' →
      g (kV k) (wipe σ vs) H' fun σ2 H2 => wipe σ2 vs = wipe σ vs ∧ tt σ2 H2 fun b H3 => if b = true then te σ2 H3 fun y H4 => ∃ acc, H4 L = some (.lst acc) ∧ acc.length < sizeLine ∧ Pv H1 L (i + 1) (upd H4 L (.lst (acc ++ [y]))) else Pv H1 L (i + 1) H3)
    (done : ∀ H1 L H' H2, H L = none → Pv H1 L kvs.length H' → Ed S H H2 → H2 d = some (.dK kvs) → (∀ a o, a ≠ d → H' a = some o → H2 a = some o) → D.nx (σ.set m (some (.ref L))) H2) : tLock (tAsg (tLc (iKeys (tVar n)) g tt te vs) (gName m)) D σ H := by
  refine ⟨d, .dK kvs, hd, trivial, fun od => ?_⟩
  generalize hu : upd H d (.frz od (.dK kvs)) = H1
  obtain ⟨e1, h1⟩ := chg hu hd
  refine ⟨_, hv, d, od, rfl, .inl ⟨kvs, h1, fun L nL => lc_it walk_keys (Pv H1 L) (h0 H1 od L _ e1 h1 nL (Ed.new nL) upd_same) (fun i H' _ p => (hE _ _ _ _ p).frz _ _ _ h1) (fun i x H' H2 hi p y => ?_) fun H' p => ?_⟩⟩
  · obtain ⟨rfl, k, w, hk, rfl⟩ := y
    exact turn H1 od L i k w H2 e1 nL ((hE _ _ _ _ p).frz _ _ _ h1) hk p
  · obtain ⟨e2, h2, k2⟩ := unlock hd trivial hu (hE _ _ _ _ p) rfl
    exact ⟨(hE _ _ _ _ p).frz _ _ _ h1, done H1 L H' _ (e1.dom _ nL) p e2 h2 k2⟩
end
end Vc

/-! Kw: method calls with keywords (my own; the way is pe_meth's and pe_callK's). -/
namespace Vc
open PySem PySem.Spec PyProof.Rows L2
section
variable {X : Cx} {CX : CXT} {k : Nat} {f C : Addr} {fd : FuncData} {ps ks : List Str} {sp : Sp} {E : XK} {x m : Str} {p pos apos : Pos} {e o : Expr} {es : List Expr} {kws : List Keyword} {ta : TE} {t tk : TA} {g : List Value → List Value → List Value} {gV : List V → List V → List V}
theorem kbinds {K : PySem.W.Frag} {x qual : Str} {st : Stmt} (F : Fun K x qual st f fd)
    (h : ∀ (kV doc pm : Value) (an : Option Addr) (cdv ct : Value) (us ws : List Value), (g us ws).length = ps.length → bindArgs (PySem.W.fnOf x qual (defArgs st) (defBody st) (defScope st) .none kV doc pm an cdv ct) ⟨us, ks.zip ws⟩ = pure (ps.zip (g us ws)))
    (rel : ∀ {vs : List V} {us : List Value} {zs : List V} {ws : List Value}, Vals vs us → Vals zs ws → Vals (gV vs zs) (g us ws)) : KBinds K fd ps ks g gV := by
  obtain ⟨oc, od, kV, doc, pm, an, cdv, ct, osl, rfl, lk, hcd⟩ := F.ex
  exact ⟨fun s us ws _ hl => .of_eq (h kV doc pm an cdv ct us ws hl), rel⟩
def tMethK (C : Addr) (m : Str) (sp : Sp) (gV : List V → List V → List V) (E : XK) (ta : TE) (t tk : TA) : TE := fun σ H Q => ta σ H fun x H1 => ∃ a dx fs, x = .ref a ∧ H1 a = some (.ins C dx fs) ∧ fs.lookup m = none ∧ t σ H1 fun vs H2 => tk σ H2 fun zs H3 => sp (gV (x :: vs) zs) H3 Q E
/-- o.m(k = v, ..) -/
theorem pe_methK0 {pl : Sem Bool} (he : PE X o ta) (c : Cls X.K C) (hm : Meth X.K C m f) (F : FnOk X.prog X.w X.K X.mg X.base CX k f fd ps sp) (hr : Room k X.A) (hb : KBinds X.K fd ps ks g gV) (hx : Passes CX X E) (hkw : PK X kws tk)
    (hall : (backToKw pos (keywordEach kws X.env)).all (·.1.isSome) = true := by rfl) (hks : (backToKw pos (keywordEach kws X.env)).filterMap (·.1) = ks := by rfl)
    (hpl : ((backTo pos (starEach [] X.env)).any (·.1) || (backToKw pos (keywordEach kws X.env)).any (·.1.isNone)) = false := by rfl)
    (ht : eval (.Call (.Attribute o m apos) [] kws pos) X.env = (do
      let ov ← eval o X.env
      standAt apos.atName
      let (f, first) ← holding [ov] (getMethod ov m pl)
      callWith pos f first (backTo pos (starEach [] X.env)) (backToKw pos (keywordEach kws X.env))) := by rfl) :
    PE X (.Call (.Attribute o m apos) [] kws pos) (tMethK C m sp gV E ta tNil tk) := by
  refine ⟨fun pins s σ H Q I h => ?_⟩
  refine PySem.W.methodCall_KW (pl := pl) (thn (he.run pins s σ H _ I h) fun u s1 ⟨x, H1, I1, rx, a, dx, fs, ex, ea, l, q⟩ => ?_) ht
  subst ex
  obtain rfl : u = Value.ref a := rx
  refine getmeth_ok I1 ea c hm l ?_
  refine PySem.W.callWith_KW0 (first := [.ref a]) (h₀ := X.base) I.ok.mod.kin hm.kp hall (thn (hkw.run pos pins s1 σ H1 _ I1 q) fun ws s2 ⟨zs, H2, I2, rz, q2⟩ => ⟨I2.kIn, ?_⟩) hpl
  rw [hks]
  exact run_fnk (us := [.ref a]) (vs := [.ref a]) F hr hb hx I2 (.cons rfl .nil) rz q2
/-- o.m(e, .., k = v, ..) -/
theorem pe_methK {pl : Sem Bool} (he : PE X o ta) (c : Cls X.K C) (hm : Meth X.K C m f) (F : FnOk X.prog X.w X.K X.mg X.base CX k f fd ps sp) (hr : Room k X.A) (hb : KBinds X.K fd ps ks g gV) (hx : Passes CX X E) (ha : PA X (e :: es) t) (hkw : PK X kws tk)
    (hall : (backToKw pos (keywordEach kws X.env)).all (·.1.isSome) = true := by rfl) (hks : (backToKw pos (keywordEach kws X.env)).filterMap (·.1) = ks := by rfl)
    (hst : starEach (e :: es) X.env = (false, eval e X.env) :: starEach es X.env := by rfl)
    (hpl : ((backTo pos (starEach (e :: es) X.env)).any (·.1) || (backToKw pos (keywordEach kws X.env)).any (·.1.isNone)) = false := by rfl)
    (ht : eval (.Call (.Attribute o m apos) (e :: es) kws pos) X.env = (do
      let ov ← eval o X.env
      standAt apos.atName
      let (f, first) ← holding [ov] (getMethod ov m pl)
      callWith pos f first (backTo pos (starEach (e :: es) X.env)) (backToKw pos (keywordEach kws X.env))) := by rfl) :
    PE X (.Call (.Attribute o m apos) (e :: es) kws pos) (tMethK C m sp gV E ta t tk) := by
  refine ⟨fun pins s σ H Q I h => ?_⟩
  refine PySem.W.methodCall_KW (pl := pl) (thn (he.run pins s σ H _ I h) fun u s1 ⟨x, H1, I1, rx, a, dx, fs, ex, ea, l, q⟩ => ?_) ht
  subst ex
  obtain rfl : u = Value.ref a := rx
  refine getmeth_ok I1 ea c hm l ?_
  refine PySem.W.callWith_KW (first := [.ref a]) (h₀ := X.base) I.ok.mod.kin hm.kp hall (thn (ha.run pos pins s1 σ H1 _ I1 q) fun us s2 ⟨vs, H2, I2, r, q2⟩ => ?_) hpl hst
  refine thn (hkw.run pos pins s2 σ H2 _ I2 q2) fun ws s3 ⟨zs, H3, I3, rz, q3⟩ => ⟨I3.kIn, ?_⟩
  rw [hks]
  exact run_fnk (us := .ref a :: us) (vs := .ref a :: vs) F hr hb hx I3 (.cons rfl r) rz q3
end
section
variable {σ : L2.St} {H : Hp} {Q : VK} {ta : TE} {ts tk : TA} {C : Addr} {m : Str} {sp : Sp} {E : XK} {gV : List V → List V → List V}
theorem go_methK (h : ta σ H fun x H1 => ∃ a dx fs, x = .ref a ∧ H1 a = some (.ins C dx fs) ∧ fs.lookup m = none ∧ ts σ H1 fun vs H2 => tk σ H2 fun zs H3 => sp (gV (x :: vs) zs) H3 Q E) : tMethK C m sp gV E ta ts tk σ H Q := h
theorem go_callK (h : ts σ H fun vs H1 => tk σ H1 fun zs H2 => sp (gV vs zs) H2 Q E) : tCallK sp gV E ts tk σ H Q := h
end
end Vc

/-! Sup: an own exception over own classes over ValueError, whose __init__ begins super().__init__('text') (my own; ways of HandS.Call's fn_of, HandS.ExcInit and KE.KExcSuper). -/
namespace Vc
open PySem PySem.Spec PyProof.Rows L2 PySem.W
/-- a def with the free cell __class__ -/
structure SupScope (N P : List Str) (sc : Scope) : Prop where
  kind : sc.kind = .function
  co : sc.isCoroutine = false
  gen : sc.isGenerator = false
  nd : N.Nodup
  pre : N.take P.length = P
  par : ∀ x ∈ P, sc.names.lookup x = some .local
  nocell : ∀ y ∈ sc.names, y.2 ≠ .cell
  free1 : ∀ y ∈ sc.names, y.2 = .free → y.1 = "__class__"
  cls : sc.names.lookup ("__class__" : Str) = some .free
  sup : sc.names.lookup ("super" : Str) = some .globalImplicit
/-- the context of such a def's body -/
def cxS (CX : CXT) (P : Program) (w : World) (K : PySem.W.Frag) (mg : Str → Option Value) (base : Heap) (N : List Str) (qual : Str) (scope : Scope) (f : Addr) (cd : Value) (cc : Addr) (A : Around) (outer : List Env) (s : Shared) (H : Hp) (E : XK) : Cx where
  prog := P
  w := w
  K := K
  mg := mg
  base := base
  A := A.deeper (ksEnv qual scope s.heap.objs.size f cd cc)
  N := N
  s_0 := s
  H_0 := H
  env := ksEnv qual scope s.heap.objs.size f cd cc
  outer := outer
  stack := ksEnv qual scope s.heap.objs.size f cd cc :: outer
  ex := []
  calm := true
  fn := fun y => !(y == ("__class__" : Str))
  pn := []
  xe := fun e s' => wpAny (model P w) (A.deeper (ksEnv qual scope s.heap.objs.size f cd cc)) (leaving (ksEnv qual scope s.heap.objs.size f cd cc) e) (fun _ s'' => CX outer H s E e s'') (fun e' s'' => CX outer H s E e' s'') s'
theorem cell1 {x : Str} {c cc : Addr} (h : List.lookup x [(("__class__" : Str), cc)] = some c) : x = "__class__" ∧ c = cc := by
  by_cases e : (x == ("__class__" : Str)) = true
  · rw [List.lookup_cons, e] at h
    exact ⟨eq_of_beq e, (Option.some.inj h).symm⟩
  · rw [List.lookup_cons, Bool.eq_false_iff.mpr e] at h
    cases h
theorem lookup_rev : ∀ {ps : List Str} {us : List Value} {i : Nat} {y : Str} {u : Value}, ps.Nodup → ps[i]? = some y → us[i]? = some u → (ps.zip us).reverse.lookup y = some u := by
  have key : ∀ {l : List (Str × Value)} {y : Str} {u : Value}, (l.map (·.1)).Nodup → (y, u) ∈ l → l.lookup y = some u := by
    intro l
    induction l with
    | nil => intro y u _ h; cases h
    | cons p r ih =>
      intro y u nd h
      rw [List.map_cons, List.nodup_cons] at nd
      rcases List.mem_cons.mp h with e | h
      · subst e; simp [List.lookup]
      · have ne : (y == p.1) = false := by
          rw [beq_eq_false_iff_ne]
          intro e
          exact nd.1 (e ▸ List.mem_map.mpr ⟨(y, u), h, rfl⟩)
        rw [List.lookup_cons, ne]
        exact ih nd.2 h
  intro ps us i y u nd h1 h2
  refine key ?_ ?_
  · rw [List.map_reverse]
    refine List.pairwise_reverse.mpr ?_
    have h3 : ((ps.zip us).map (·.1)).Nodup := nd.sublist (by
      have : (ps.zip us).map (·.1) = ps.take us.length := by
        clear key h1 h2 nd
        induction ps generalizing us with
        | nil => simp
        | cons p r ih =>
          cases us with
          | nil => simp
          | cons u t => simp [ih]
      rw [this]
      exact List.take_sublist _ _)
    exact h3.imp fun h => h.symm
  · rw [List.mem_reverse]
    refine List.mem_iff_getElem?.mpr ⟨i, ?_⟩
    rw [List.getElem?_zip_eq_some]
    exact ⟨h1, h2⟩
theorem inv_sup {CX : CXT} {P : Program} {w : World} {K : PySem.W.Frag} {mg : Str → Option Value} {base : Heap} {N ps : List Str} {qual : Str} {scope : Scope} {f cc : Addr} {cd : Value} {A : Around} {outer : List Env} {s : Shared} {H : Hp} {E : XK} {us : List Value} {vs : List V} {h1 : Heap} {tk : Nat} {oc cv : Value} {od : Option Addr} {sl : Array (Option Value)}
    (S : SupScope N ps scope) (hd : A.handled = none) (e0 : Env0 P w K mg base A outer s H) (hl : vs.length = ps.length) (r : Vals vs us) (hcell : K.lookup cc = some ⟨oc, od, .cell (some cv), sl⟩)
    (ns : h1.Ns s.heap.objs.size (fun x => (ps.zip us).reverse.lookup x)) (hk : ∀ b o, s.heap.get? b = some o → h1.get? b = some o) :
    Inv (cxS CX P w K mg base N qual scope f cd cc A outer s H E) [] (start N vs) H { s with heap := h1, toks := tk } := by
  have hpl : ps.length ≤ N.length := by have := congrArg List.length S.pre; rw [List.length_take] at this; omega
  have hK : base.get? cc = some ⟨oc, od, .cell (some cv), sl⟩ := e0.mod.kin _ _ hcell
  have hs := e0.bs _ _ hK
  refine ⟨⟨e0.mod, S.kind, rfl, rfl, Nat.le_refl _, fun y z c h1 h2 => ?_, fun y hy => ?_, fun y c hf h => ?_, fun _ => hd, Around.frames_deeper e0.frames, .inr ⟨rfl, rfl⟩, fun b z => absurd (show b ∈ ([] : List Addr) from z) (by simp), e0.bs, e0.bsz, fun b _ _ z => absurd (show b ∈ ([] : List Addr) from z) (by simp), fun b z => absurd (show b ∈ ([] : List Addr) from z) (by simp), e0.funs, e0.frf⟩,
    rfl, e0.bare, Un.kept hk, ⟨_, ns, fun i y v h1 h2 h3 => ?_⟩, fun y c h => ?_, e0.hok.fresh (Nat.le_refl _), fun y c h => ?_, fun p hp => absurd (show p ∈ ([] : List (Addr × Obj)) from hp) (by simp), e0.hok.kept hk, ?_⟩
  · exact (cell1 h1).1.trans (cell1 h2).1.symm
  · have hy : scope.names.lookup y = some .cell ∨ scope.names.lookup y = some .free := hy
    rcases hy with hy | hy
    · exact absurd rfl (S.nocell _ (PySem.mem_of_lookup hy))
    · have := S.free1 _ (PySem.mem_of_lookup hy) rfl
      have : y = "__class__" := this
      subst this
      exact ⟨cc, by show List.lookup _ [_] = _; simp [List.lookup]⟩
  · have := (cell1 h).1
    subst this
    cases (show (!((("__class__" : Str)) == ("__class__" : Str))) = true from hf)
  · have hi : i < vs.length := by
      unfold L2.start at h2
      by_cases hi : i < vs.length
      · exact hi
      · rw [List.getElem?_append_right (by simpa using hi)] at h2
        rw [List.getElem?_replicate] at h2
        split at h2 <;> cases h2
    have ha : vs[i]? = some v := by
      unfold L2.start at h2
      rw [List.getElem?_append_left (by simpa using hi), List.getElem?_map] at h2
      cases e : vs[i]? with
      | none => rw [e] at h2; cases h2
      | some a => rw [e] at h2; cases h2; rfl
    obtain ⟨u, hu, rv⟩ := r.get ha
    have hp : ps[i]? = some y := by
      rw [← S.pre, List.getElem?_take_of_lt (by omega)]; exact h1
    have ndP : ps.Nodup := by rw [← S.pre]; exact S.nd.sublist (List.take_sublist _ _)
    exact ⟨u, rv, .inl ⟨S.par y (List.mem_of_getElem? hp), lookup_rev ndP hp hu⟩⟩
  · rw [(cell1 h).2]
    exact ⟨_, _, hk _ _ hs.1, rfl⟩
  · rw [(cell1 h).2]
    exact hs.2
  · unfold L2.start
    show _ = N.length
    rw [List.length_append, List.length_map, List.length_replicate]
    omega
section
variable {prog : Program} {w : World} {A : Around} {E : Value → Shared → Prop} {h : Heap} {g : Array GenState} {d : Drawn} {t : Nat} {os : OsState}
variable {nm q : Str} {C N : Addr} {bs bm : List Value} {hdct : Bool} {sn : List Str} {sub : List Value} {ab : Bool} {col : Option Bool} {dd : Option Addr} {k0 k1 k2 k3 k5 : Option Value}
/-- the bound ValueError.__init__ called -/
theorem call_bv {u e t0 : Addr} {rest : List Value} {Q : Value → Shared → Prop}
    (hC : h.get? C = some (excClassObj nm q C N bs bm hdct sn sub ab col dd k0 k1 k2 k3 k5 "ValueError.__new__")) (he : h.get? e = some (HandSPX.excO C t0)) (hu : h.get? u = some (kxs_mw "ValueError.__init__" e)) (hrest : rest.length ≤ sizeLine)
    (hq : ∀ h' t1, (∀ b o, b ≠ e → h.get? b = some o → h'.get? b = some o) → h'.get? e = some (HandSPX.excO C t1) → Q .none ⟨h', g, d, t, os⟩) :
    wpAny (model prog w) A (call (.ref u) rest) Q E ⟨h, g, d, t, os⟩ := by
  refine wpAny_call (codeAny_of_tree ?_)
  show wpAny _ A.in1 (callAny (.ref u) ⟨rest, []⟩) _ _ _
  simp only [callAny]
  refine wpAny_bind (wpAny_load hu ?_)
  simp only [kxs_mw, show (Value.type "method-wrapper" == Value.type "method" || Value.type "method-wrapper" == Value.type "builtin_function_or_method" || Value.type "method-wrapper" == Value.type "method-wrapper") = true by decide, if_true]
  refine W.KFB.if_so (by decide) ?_
  refine wpAny_bind (check_bound_init F.excBase_ValueError.toExcCallFacts hC he rfl ?_)
  refine wpAny_bind (wpAny_pure (wpAny_pure ?_))
  refine ⟨Code.quiet_builtin _ (by decide +kernel), codeAny_builtin F.excBase_ValueError.initEntry ?_⟩
  rw [Around.under_plainId F.excBase_ValueError.init.plain _]
  wp_walk
  refine hq _ h.objs.size (fun b o hb ho => ?_) ?_
  · rw [Heap.get?_update_other _ _ (Ne.symm hb)]
    exact Heap.get?_push_of_some _ ho
  · rw [Heap.get?_update_self _ (Heap.get?_push_of_some _ he) rfl]
    rfl
end
/-- what super() asks for in the __init__ of the class at C -/
structure SupF (P : Program) (K : PySem.W.Frag) (mg : Str → Option Value) (f cda cc C : Addr) (fd : FuncData) (sv : Str) : Prop where
  lk : ∃ oc od sl, K.lookup f = some ⟨oc, od, .func fd, sl⟩
  par : ∃ ar : Arg, (fd.params.posonlyargs ++ fd.params.args).head? = some ar ∧ ar.arg = sv
  code : ∃ ccl cdd vs ccs file tf, K.lookup cda = some ⟨ccl, cdd, .fields vs, ccs⟩ ∧ vs[2]? = some (.str file tf) ∧ ((P.main.file : Str) == file) = true
  cell : ∃ cl cld csl, K.lookup cc = some ⟨cl, cld, .cell (some (.ref C)), csl⟩
  sub : mroIn K C (.ref C) = some true
  init : ks_superIn K C C "__init__" = some (some (.builtin "ValueError.__init__"))
  subV : subIn K (.ref C) (.type "ValueError") = some true
  nosup : mg "super" = none
  noop : nsIn K cStatics "thirdparty.any" = some none
  top : (P.main.scope.names.lookup ("super" : Str)).isSome = false
section
variable {CX : CXT} {P : Program} {w : World} {K : PySem.W.Frag} {mg : Str → Option Value} {base : Heap} {N ps : List Str} {qual : Str} {scope : Scope} {f cc cda C a : Addr} {A : Around} {outer : List Env} {s0 s : Shared} {H0 H : Hp} {E0' : XK} {pins : List (Addr × Obj)} {σ : L2.St} {fd : FuncData} {sv : Str} {body : List Stmt} {p0 p1 ap cp pos spos : Pos} {x : Str} {nk : Nat} {pl : Sem Bool}
theorem sup_stmt {e : Expr} {Q : Flow → Shared → Prop} (S : SupScope N ps scope) (SF : SupF P K mg f cda cc C fd sv) (T : OexC K C) (I : Inv (cxS CX P w K mg base N qual scope f (.ref cda) cc A outer s0 H0 E0') pins σ H s) (hN : N[0]? = some sv) (hself : scope.names.lookup sv = some .local) (hσ : σ[0]? = some (some (.ref a))) (ea : H a = some (exo a C none))
    (he : PE (cxS CX P w K mg base N qual scope f (.ref cda) cc A outer s0 H0 E0') e (tC (.str x))) (h : ∀ s', Inv (cxS CX P w K mg base N qual scope f (.ref cda) cc A outer s0 H0 E0') pins σ H s' → Q .next s')
    (hi : interactive (ksEnv qual scope s0.heap.objs.size f (.ref cda) cc) = false)
    (hs : swapsWith (.Call (.Attribute (.Call (.Name "super" p0) [] [] p1) "__init__" ap) [e] [] pos) none spos.line (ksEnv qual scope s0.heap.objs.size f (.ref cda) cc) = pure false)
    (hst : starEach [e] (ksEnv qual scope s0.heap.objs.size f (.ref cda) cc) = (false, eval e (ksEnv qual scope s0.heap.objs.size f (.ref cda) cc)) :: starEach [] (ksEnv qual scope s0.heap.objs.size f (.ref cda) cc))
    (ht : eval (.Call (.Attribute (.Call (.Name "super" p0) [] [] p1) "__init__" ap) [e] [] pos) (ksEnv qual scope s0.heap.objs.size f (.ref cda) cc) = (do
      let ov ← attributeBase (.Call (.Name "super" p0) [] [] p1) "__init__" (ksEnv qual scope s0.heap.objs.size f (.ref cda) cc) (eval (.Call (.Name "super" p0) [] [] p1) (ksEnv qual scope s0.heap.objs.size f (.ref cda) cc))
      standAt ap.atName
      let (fm, first) ← holding [ov] (getMethod ov "__init__" pl)
      callWith pos fm first (backTo pos (starEach [e] (ksEnv qual scope s0.heap.objs.size f (.ref cda) cc))) (backToKw pos (keywordEach [] (ksEnv qual scope s0.heap.objs.size f (.ref cda) cc))))) :
    _root_.PySem.wpAt (model P w) (cxS CX P w K mg base N qual scope f (.ref cda) cc A outer s0 H0 E0').A (.func body (ksEnv qual scope s0.heap.objs.size f (.ref cda) cc)) (exec (.Expr (.Call (.Attribute (.Call (.Name "super" p0) [] [] p1) "__init__" ap) [e] [] pos) spos) (ksEnv qual scope s0.heap.objs.size f (.ref cda) cc)) Q (cxS CX P w K mg base N qual scope f (.ref cda) cc A outer s0 H0 E0').xe s := by
  obtain ⟨_, _, _, lkf⟩ := SF.lk
  obtain ⟨ar, hp, rfl⟩ := SF.par
  obtain ⟨_, _, vs, _, file, tf, lkc, hvs, hfile⟩ := SF.code
  obtain ⟨_, _, _, lkl⟩ := SF.cell
  have KX : K.In s.heap := I.kIn
  refine ks_wpAt_Expr_any ?_ hi hs
  refine ks_wpAt_MethodCall (pl := pl) ?_ ht
  refine ks_wpAt_super_base (env := ksEnv qual scope s0.heap.objs.size f (.ref cda) cc) S.sup S.cls (by decide) rfl (KX _ _ lkf) rfl hp rfl (KX _ _ lkc) rfl hvs hfile SF.top ?_
  obtain ⟨mb, hb1, hb2⟩ := I.mod.blt
  have hboot : bootBuiltins "super" = some (.type "super") := by decide +kernel
  refine ks_loadName_global S.kind S.sup (Calls.loadGlobal_builtin (I.mod.glob.keeps I.bk) SF.nosup (hb1.keeps I.bk) ((hb2 "super" (by decide)).trans hboot) ⟨rfl, ?_⟩)
  refine wpAny_loadName_free S.kind S.cls (c := cc) (by simp [List.lookup]) ⟨_, KX _ _ lkl, rfl⟩ ?_
  obtain ⟨m, ns, hm⟩ := id I.loc
  obtain ⟨u, ru, lu⟩ := hm 0 _ _ hN hσ (.inl hself)
  obtain rfl : u = Value.ref a := ru
  have hma : m ar.arg = some (.ref a) := by
    rcases lu with ⟨_, e⟩ | ⟨k | k, _⟩
    · exact e
    · have k : scope.names.lookup ar.arg = some .cell := k
      rw [hself] at k; cases k
    · have k : scope.names.lookup ar.arg = some .free := k
      rw [hself] at k; cases k
  refine wpAny_loadName_local S.kind hself ns hma ?_
  obtain ⟨nm, q, Nn, bs, bm, sn, sub, ab, col, dd, k0, k1, k2, k3, k5, hC, hbm⟩ := T.cls
  obtain ⟨t1, ho⟩ := exo_at I.hok ea
  have hCh := KX _ _ hC
  obtain ⟨hh, g, d, t, os⟩ := s
  refine ks_wpAny_isType_cls hCh rfl ⟨rfl, ?_⟩
  refine ks_wpAny_call_super hCh rfl ho rfl (fun c z => by cases z) (looks_mroIn KX SF.sub) fun h' hso hk => ?_
  have KX' : K.In h' := KX.keeps hk
  have hcl : clsIn K C = some { name := nm, bases := bs, mro := .ref C :: bm, ns := Nn, qualname := q, hasDict := true, slotNames := sn, subclasses := sub, abstract := ab, collection := col, hasDel := false } := by unfold clsIn; rw [hC] <;> rfl
  have IA : InstAt h' a { cls := .ref C, dict := none, data := .fields #[.ref t1, .none, .none, .none, .bool false, .none] } C none := ⟨hk _ _ ho, rfl, rfl, trivial⟩
  have hsi := SF.init
  unfold ks_superIn at hsi
  rw [hcl, Option.bind_some] at hsi
  refine kxs_getMethod kxs_ValueError hso (looks_opaque KX' SF.noop) (l₀ := .ref C :: bm) ?_ rfl KX' hsi (IA.type.andThen (looks_subIn KX' SF.subV)) (ks_ne KX' IA hcl) (by decide) ?_
  · exact fun A Q E s k q => wpAny_bind ((looks_clsIn KX' hcl) A _ E s k (wpAny_pure q))
  have hk2 : ∀ b o, hh.get? b = some o → (h'.push (kxs_mw "ValueError.__init__" a)).get? b = some o := fun b o z => Heap.get?_push_of_some _ (hk b o z)
  have I2 : Inv (cxS CX P w K mg base N qual scope f (.ref cda) cc A outer s0 H0 E0') pins σ H ⟨h'.push (kxs_mw "ValueError.__init__" a), g, d, t + 1, os⟩ := I.kept (t' := t + 1) hk2
  have hu : (h'.push (kxs_mw "ValueError.__init__" a)).get? h'.objs.size = some (kxs_mw "ValueError.__init__" a) := Heap.get?_push_at rfl rfl
  have hsz : hh.objs.size ≤ h'.objs.size := Nat.le_of_lt (Nat.lt_of_le_of_lt (Nat.le_refl _) (Heap.lt_size hso))
  have I3 := I2.pins_of (pins' := (h'.objs.size, kxs_mw "ValueError.__init__" a) :: pins) fun p hp => by
    rcases List.mem_cons.mp hp with e | hp
    · subst e
      exact ⟨hu, I.hok.fresh hsz, fun z => absurd (Nat.lt_of_lt_of_le I.lt hsz) (by have z : h'.objs.size = _ := z; rw [z]; exact Nat.lt_irrefl _), I.nofs hsz, fun v z => by cases z⟩
    · exact I2.pin p (List.mem_append_right _ hp)
  have hev := (pa_cons he pa_nil (hs := hst)).run pos _ _ σ H (fun vs H1 => vs = [.str x] ∧ H1 = H) I3 ⟨rfl, rfl⟩
  have hst2 : starEach [e] (cxS CX P w K mg base N qual scope f (.ref cda) cc A outer s0 H0 E0').env = (false, eval e (cxS CX P w K mg base N qual scope f (.ref cda) cc A outer s0 H0 E0').env) :: starEach [] (cxS CX P w K mg base N qual scope f (.ref cda) cc A outer s0 H0 E0').env := hst
  rw [hst2] at hev
  show wpAny _ _ (callWith pos (.ref h'.objs.size) [] (backTo pos (starEach [e] (ksEnv qual scope s0.heap.objs.size f (.ref cda) cc))) []) _ _ _
  rw [hst]
  refine kxs_callWith (i := "ValueError.__init__") (x := a) (by rfl) ?_
  refine PySem.Calls.evalArgs_plain (thn hev fun us s1 ⟨vs, H1, I4, r1, ev, eH⟩ => ?_)
  subst ev eH
  have hu4 := (I4.pin (h'.objs.size, kxs_mw "ValueError.__init__" a) (List.mem_append_right _ (List.mem_cons_self ..))).1
  refine ⟨hu4, ?_⟩
  have I5 : Inv (cxS CX P w K mg base N qual scope f (.ref cda) cc A outer s0 H0 E0') pins σ H1 s1 := I4.pins_of fun p hp => I4.pin p (List.mem_append_right _ (List.mem_cons_of_mem _ hp))
  have hC5 := I5.kIn _ _ hC
  obtain ⟨t5, ho5⟩ := exo_at I5.hok ea
  obtain ⟨hh5, g5, d5, tk5, os5⟩ := s1
  have hlen : us.length = 1 := by rw [← Paired.length r1]; rfl
  refine call_bv (rest := [] ++ us) hC5 ho5 hu4 (by rw [List.nil_append, hlen, sizeLine_eq]; omega) fun h6 t6 k6 hx6 => ?_
  have J := I5.write (t' := tk5) (x := a) (e := a) (o := exo a C none) (by rw [ea]; exact True.intro) (.inl rfl) k6 ⟨_, hx6⟩ (exo_ok hx6)
  have eu : upd H1 a (exo a C none) = H1 := by
    funext b
    by_cases hb : b = a
    · rw [hb, upd_same, ea]
    · rw [upd_ne hb]
  rw [eu] at J
  exact h _ J
/-- as Fun, for a def with the free cell __class__ at cc -/
structure FunS (P : Program) (K : PySem.W.Frag) (mg : Str → Option Value) (x qual : Str) (st : Stmt) (f : Addr) (fd : FuncData) (C : Addr) (sv : Str) : Prop where
  ex : ∃ (oc : Value) (od : Option Addr) (kV doc pm : Value) (an : Option Addr) (cda cc : Addr) (ct : Value) (osl : Array (Option Value)),
    fd = ksFn x qual (defArgs st) (defBody st) (defScope st) .none kV doc pm an (.ref cda) ct cc ∧ K.lookup f = some ⟨oc, od, .func fd, osl⟩ ∧ PySem.W.codeIn K (.ref cda) qual = true ∧ SupF P K mg f cda cc C fd sv
  kp : PySem.W.keepIn K (.ref f) = true
theorem FunS.ok {P : Program} {w : World} {K : PySem.W.Frag} {mg : Str → Option Value} {base : Heap} {CX : CXT} {x qual : Str} {st : Stmt} {rest : List Stmt} {f C : Addr} {fd : FuncData} {sv : Str} {N ps : List Str} {k : Nat} {sp : Sp} {e : Expr} {z : Str} {p0 p1 ap pos spos : Pos} {pl : Sem Bool}
    (F : FunS P K mg x qual st f fd C sv) (S : SupScope N ps (defScope st)) (T : OexC K C) (hb : defBody st = .Expr (.Call (.Attribute (.Call (.Name "super" p0) [] [] p1) "__init__" ap) [e] [] pos) spos :: rest) (hN : N[0]? = some sv) (hself : (defScope st).names.lookup sv = some .local)
    (len : ∀ vs H Q E, sp vs H Q E → vs.length = ps.length)
    (hE : ∀ (X : Cx), PE X e (tC (.str z)))
    (hi : ∀ L cd cc, interactive (ksEnv qual (defScope st) L f cd cc) = false)
    (hs : ∀ L cd cc, swapsWith (.Call (.Attribute (.Call (.Name "super" p0) [] [] p1) "__init__" ap) [e] [] pos) none spos.line (ksEnv qual (defScope st) L f cd cc) = pure false)
    (hst : ∀ L cd cc, starEach [e] (ksEnv qual (defScope st) L f cd cc) = (false, eval e (ksEnv qual (defScope st) L f cd cc)) :: starEach [] (ksEnv qual (defScope st) L f cd cc))
    (ht : ∀ L cd cc, eval (.Call (.Attribute (.Call (.Name "super" p0) [] [] p1) "__init__" ap) [e] [] pos) (ksEnv qual (defScope st) L f cd cc) = (do
      let ov ← attributeBase (.Call (.Name "super" p0) [] [] p1) "__init__" (ksEnv qual (defScope st) L f cd cc) (eval (.Call (.Name "super" p0) [] [] p1) (ksEnv qual (defScope st) L f cd cc))
      standAt ap.atName
      let (fm, first) ← holding [ov] (getMethod ov "__init__" pl)
      callWith pos fm first (backTo pos (starEach [e] (ksEnv qual (defScope st) L f cd cc))) (backToKw pos (keywordEach [] (ksEnv qual (defScope st) L f cd cc)))))
    (hbody : ∀ (cda cc : Addr) (A : Around) (outer : List Env) (s : Shared) (H : Hp) (vs : List V) (Q : VK) (E : XK), sp vs H Q E →
      ∃ a, vs[0]? = some (.ref a) ∧ H a = some (exo a C none) ∧ ∃ t, PSs (cxS CX P w K mg base N qual (defScope st) f (.ref cda) cc A outer s H E) rest t ∧ t { nx := fun _ H' => Q .non H', rt := Q } (start N vs) H) :
    FnOk P w K mg base CX (k + 1) f fd ps sp := by
  obtain ⟨oc, od, kV, doc, pm, an, cda, cc, ct, osl, rfl, lk, hcd, SF⟩ := F.ex
  refine ⟨len, fun A outer s H args us vs Q E hr e0 hbd r hsp => ?_⟩
  have hl := len _ _ _ _ hsp
  have KX : K.In s.heap := e0.mod.kin.keeps fun b o e => (e0.bs b o e).1
  have lim : s.heap.NoLimit := e0.mod.nolimit.keeps fun b o e => (e0.bs b o e).1
  obtain ⟨_, _, _, lkl⟩ := SF.cell
  obtain ⟨a, ha, ea, t, ht2, hq⟩ := hbody cda cc A outer s H vs Q E hsp
  refine ks_codeAny_call_defAt hr.depth (KX _ _ lk) rfl lim (PySem.W.codeRec_of KX hcd) rfl hbd S.nocell (fun y hy => S.par y.1 (List.of_mem_zip (show (y.1, y.2) ∈ _ from hy)).1) (fun h₀ hns hk => ?_) S.co S.gen S.kind
  have I : Inv (cxS CX P w K mg base N qual (defScope st) f (.ref cda) cc A outer s H E) [] (start N vs) H { s with heap := h₀, toks := s.toks + (ps.zip us).length } := inv_sup S hr.hd e0 hl r lkl hns hk
  have fin : ∀ {σ' : L2.St} {H' : Hp} {v : V} {u : Value} {s' : Shared}, Inv (cxS CX P w K mg base N qual (defScope st) f (.ref cda) cc A outer s H E) [] σ' H' s' → RelV v u → Q v H' → CE outer P w H s Q u s' :=
    fun {σ' H' v u s'} J rv q => ⟨v, H', J.os, J.bare, J.base, J.hok, rv, q⟩
  have hσ : (start N vs)[0]? = some (some (.ref a)) := by
    have h0 : 0 < vs.length := by
      rcases Nat.eq_zero_or_pos vs.length with z | z
      · rw [List.eq_nil_of_length_eq_zero z] at ha; cases ha
      · exact z
    unfold L2.start
    rw [List.getElem?_append_left (by simpa using h0), List.getElem?_map, ha]; rfl
  rw [hb]
  refine ks_wpAt_execs_cons (sup_stmt S SF T I hN hself hσ ea (hE _) (fun s' I' => ?_) (hi _ _ _) (hs _ _ _) (hst _ _ _) (ht _ _ _))
  refine wpAt_of_wpAny (wpAny_mono (ht2.run [] s' (start N vs) H _ I' hq) (fun fl s2 hs2 => ?_) fun e s' hs => hs)
  cases fl with
  | ret u =>
    obtain ⟨v, σ', H', J, rv, q⟩ := hs2
    exact fin J rv q
  | next =>
    obtain ⟨σ', H', J, q⟩ := hs2
    exact fin (v := V.non) (u := Value.none) J rfl q
  | brk =>
    obtain ⟨_, _, _, q⟩ := hs2
    exact False.elim q
  | cont =>
    obtain ⟨_, _, _, q⟩ := hs2
    exact False.elim q
/-- how its arguments bind (no defaults) -/
theorem FunS.binds {P : Program} {K : PySem.W.Frag} {mg : Str → Option Value} {x qual : Str} {st : Stmt} {f C : Addr} {fd : FuncData} {sv : Str} {ps : List Str} (F : FunS P K mg x qual st f fd C sv)
    (h : ∀ (kV doc pm : Value) (an : Option Addr) (cda cc : Addr) (ct : Value) (us : List Value), us.length = ps.length → bindArgs (ksFn x qual (defArgs st) (defBody st) (defScope st) .none kV doc pm an (.ref cda) ct cc) ⟨us, []⟩ = pure (ps.zip us)) : Binds K fd ps [] := by
  obtain ⟨oc, od, kV, doc, pm, an, cda, cc, ct, osl, rfl, lk, hcd, SF⟩ := F.ex
  exact .all (h kV doc pm an cda cc ct)
end
end Vc

/-! Exc: own errors raised with their fields, asked and read in a suite; calls of instances that may raise (my own, over HandS' rules for exceptions). -/
namespace Vc
open PySem PySem.Spec PyProof.Rows L2
/-! ### __init__ of an error with one field, with two -/
def spErr1 (C : Addr) (f : Str) : Sp := fun vs H Q _ => ∃ (a : Addr) (v : V), vs = [.ref a, v] ∧ H a = some (exo a C none) ∧ ∀ d, H d = none → d ≠ a → Q .non (upd (upd H d (exd d [(f, v)])) a (exo a C (some d)))
def spErr2 (C : Addr) (f g : Str) : Sp := fun vs H Q _ => ∃ (a : Addr) (v u : V), vs = [.ref a, v, u] ∧ H a = some (exo a C none) ∧ ∀ d, H d = none → d ≠ a → Q .non (upd (upd (upd H d (exd d [(f, v)])) a (exo a C (some d))) d (exd d [(g, u), (f, v)]))
/-- what X(v) leaves, in one word -/
theorem mk_err {C : Addr} {fs : List (Str × V)} {H1 H2 : Hp} {Q : XK} {a d : Addr} (na : H1 a = none) (nd : H1 d = none) (ne : d ≠ a) (hx : ∀ b, b ≠ a → b ≠ d → H2 b = H1 b)
    (q : ∀ d H', H1 d = none → Ed [] H1 H' → H' d = some (.xd fs) → Q (.ref C) (some d) H') : Q (.ref C) (some d) (upd (del H2 a) d (.xd fs)) := by
  have keep : ∀ b o, H1 b = some o → (upd (del H2 a) d (.xd fs)) b = some o := fun b o e => by
    have ha : b ≠ a := ne_of_none e na
    have hd : b ≠ d := ne_of_none e nd
    rw [upd_ne hd, del_ne ha, hx b ha hd]; exact e
  refine q d _ nd ⟨fun b o _ e => keep b o e, fun b xs e => keep b _ e, fun b o u e => keep b _ e, fun b e => ?_⟩ upd_same
  by_cases hd : b = d
  · rw [hd, upd_same] at e; cases e
  · rw [upd_ne hd] at e
    by_cases ha : b = a
    · rw [ha]; exact na
    · rw [del_ne ha, hx b ha hd] at e; exact e
theorem go_err1 {C : Addr} {f : Str} {v : V} {H1 : Hp} {Q : XK} (q : ∀ d H', H1 d = none → Ed [] H1 H' → H' d = some (.xd [(f, v)]) → Q (.ref C) (some d) H') :
    [v].length ≤ 1000 ∧ ∀ a, H1 a = none → spErr1 C f (.ref a :: ([v] ++ [])) (upd H1 a (exo a C none)) (fun v' H2 => v' = .non ∧ ∃ (d : Addr) (fs : List (Str × V)), H2 a = some (exo a C (some d)) ∧ H2 d = some (exd d fs) ∧ H1 d = none ∧ Q (.ref C) (some d) (upd (del H2 a) d (.xd fs))) (fun _ _ _ => False) := by
  refine ⟨by show 1 ≤ 1000; decide, fun a na => ⟨a, v, rfl, upd_same, fun d nd ne => ⟨rfl, d, [(f, v)], upd_same, ?_, ?_, ?_⟩⟩⟩
  · rw [upd_ne ne]; exact upd_same
  · rw [upd_ne ne] at nd; exact nd
  · refine mk_err na (by rw [upd_ne ne] at nd; exact nd) ne (fun b h1 h2 => ?_) q
    rw [upd_ne h1, upd_ne h2, upd_ne h1]
theorem go_err2 {C : Addr} {f g : Str} {v u : V} {H1 : Hp} {Q : XK} (q : ∀ d H', H1 d = none → Ed [] H1 H' → H' d = some (.xd [(g, u), (f, v)]) → Q (.ref C) (some d) H') :
    [v, u].length ≤ 1000 ∧ ∀ a, H1 a = none → spErr2 C f g (.ref a :: ([v, u] ++ [])) (upd H1 a (exo a C none)) (fun v' H2 => v' = .non ∧ ∃ (d : Addr) (fs : List (Str × V)), H2 a = some (exo a C (some d)) ∧ H2 d = some (exd d fs) ∧ H1 d = none ∧ Q (.ref C) (some d) (upd (del H2 a) d (.xd fs))) (fun _ _ _ => False) := by
  refine ⟨by show 2 ≤ 1000; decide, fun a na => ⟨a, v, u, rfl, upd_same, fun d nd ne => ⟨rfl, d, [(g, u), (f, v)], ?_, upd_same, ?_, ?_⟩⟩⟩
  · rw [upd_ne ne.symm]; exact upd_same
  · rw [upd_ne ne] at nd; exact nd
  · refine mk_err na (by rw [upd_ne ne] at nd; exact nd) ne (fun b h1 h2 => ?_) q
    rw [upd_ne h2, upd_ne h1, upd_ne h2, upd_ne h1]
theorem go_mkO {C : Addr} {sp : Sp} {ta : TA} {σ : L2.St} {H : Hp} {Q : XK} (h : ta σ H fun vs H1 => vs.length ≤ 1000 ∧ ∀ a, H1 a = none → sp (.ref a :: (vs ++ [])) (upd H1 a (exo a C none))
  (fun v H2 => v = .non ∧ ∃ (d : Addr) (fs : List (Str × V)), H2 a = some (exo a C (some d)) ∧ H2 d = some (exd d fs) ∧ H1 d = none ∧ Q (.ref C) (some d) (upd (del H2 a) d (.xd fs))) (fun _ _ _ => False)) : tMkO C sp [] ta σ H Q := h
/-- raise X(..) -/
theorem go_raise {t : L2.St → Hp → XK → Prop} {W : WX} {D : Ends} {σ : L2.St} {H : Hp} (h : t σ H fun cls d H' => W cls d σ H') : (fun (_ : Ends) σ H => t σ H fun cls d H' => W cls d σ H') D σ H := h
/-- self.f = e, the first; a further one -/
theorem go_ost {K : PySem.W.Frag} {f : Str} {to te : TE} {D : Ends} {σ : L2.St} {H : Hp} (h : te σ H fun y H1 => to σ H1 fun x H2 => ∃ a C : Addr, x = .ref a ∧ OexC K C ∧ PySem.W.findIn K (.ref C) f = some none ∧
  ((H2 a = some (exo a C none) ∧ ∀ dx, H2 dx = none → dx ≠ a → D.nx σ (upd (upd H2 dx (exd dx [(f, y)])) a (exo a C (some dx)))) ∨
    ∃ (dx : Addr) (fs : List (Str × V)), H2 a = some (exo a C (some dx)) ∧ H2 dx = some (exd dx fs) ∧ fs.length ≤ 900 ∧ D.nx σ (upd H2 dx (exd dx ((f, y) :: fs))))) : tOst K f to te D σ H := h
theorem err_ends1 {K : PySem.W.Frag} {C : Addr} {f : Str} {vs : List V} {H : Hp} {Q : VK} {E : XK} {N : List Str} (T : OexC K C) (no : PySem.W.findIn K (.ref C) f = some none) (h : spErr1 C f vs H Q E) :
    ∃ a, vs[0]? = some (.ref a) ∧ H a = some (exo a C none) ∧ tOst K f (tVar 0) (tVar 1) { nx := fun _ H' => Q .non H', rt := Q } (start N vs) H := by
  obtain ⟨a, v, rfl, ea, q⟩ := h
  exact ⟨a, rfl, ea, v, rfl, .ref a, rfl, a, C, rfl, T, no, .inl ⟨ea, q⟩⟩
theorem err_ends2 {K : PySem.W.Frag} {C : Addr} {f g : Str} {vs : List V} {H : Hp} {Q : VK} {E : XK} {N : List Str} (T : OexC K C) (no : PySem.W.findIn K (.ref C) f = some none) (no2 : PySem.W.findIn K (.ref C) g = some none) (h : spErr2 C f g vs H Q E) :
    ∃ a, vs[0]? = some (.ref a) ∧ H a = some (exo a C none) ∧ tSeq (tOst K f (tVar 0) (tVar 1)) (tOst K g (tVar 0) (tVar 2)) { nx := fun _ H' => Q .non H', rt := Q } (start N vs) H := by
  obtain ⟨a, v, u, rfl, ea, q⟩ := h
  refine ⟨a, rfl, ea, v, rfl, .ref a, rfl, a, C, rfl, T, no, .inl ⟨ea, fun d nd ne => ?_⟩⟩
  exact ⟨u, rfl, .ref a, rfl, a, C, rfl, T, no2, .inr ⟨d, _, upd_same, by rw [upd_ne ne]; exact upd_same, by show 1 ≤ 900; decide, q d nd ne⟩⟩
/-! ### in a suite: isinstance of the error, its fields -/
/-- at d stands the dict of the error -/
def XdAt (H : Hp) (d : Option Addr) : Prop := d = none ∨ ∃ dd fs, d = some dd ∧ H dd = some (.xd fs)
def rIsX (K : PySem.W.Frag) (a : Addr) (cls : Value) (d : Option Addr) : List V → Hp → VK → Prop := fun xs H Q => ∃ (D : Addr) (c : V) (cv : Value) (b : Bool), cls = .ref D ∧ ExcC K D ∧ XdAt H d ∧ xs = [.ref a, c] ∧ (∀ u, RelV c u → u = cv) ∧ PySem.W.kitOne K (.ref D) cv = some b ∧ Q (.bl b) H
theorem call_isX {X : Cx} {a : Addr} {cls : Value} {d : Option Addr} {oe : Obj} {pn : List (Addr × Obj)} (hz : Zc cls d oe) (hf : ∃ vs, oe.data = .fields vs) : CallR (X.suite a ((a, oe) :: pn)) (.builtin "isinstance") (rIsX X.K a cls d) := by
  intro pins s σ H xs us Q I r h
  obtain ⟨D, c, cv, b, rfl, C, hd, rfl, hcv, e, q⟩ := h
  cases r with
  | cons rx rr =>
    cases rr with
    | cons rt rr =>
      cases rr
      cases rx
      have ec := hcv _ rt
      subst ec
      obtain ⟨hget, _⟩ := I.pin (a, oe) (List.mem_append.mpr (.inl List.mem_cons_self))
      obtain ⟨vs, hv⟩ := hf
      obtain ⟨oc, od, oda, osl⟩ := oe
      obtain ⟨h1, h2⟩ := hz
      dsimp only at h1 h2 hv
      subst h1 h2 hv
      have hsome : (PySem.W.clsIn X.K D).isSome = true := by obtain ⟨cd, hc, _⟩ := PySem.W.any_some C.hd; rw [hc]; rfl
      rcases hd with hd | ⟨dd, fs, hd, hxd⟩
      · subst hd
        have J : PySem.W.InstAt s.heap a { cls := .ref D, dict := none, data := .fields vs, slots := osl } D none := ⟨hget, rfl, rfl, trivial⟩
        exact PySem.W.kia_one (PySem.W.handS_kitx_exc C.hg C.hk C.hs C.hd C.ha C.hn C.ht C.hm) I.kIn J e (fun z => nomatch z) fun tk => ⟨.bl b, H, I.kept (t' := tk) fun _ _ z => z, rfl, q⟩
      · subst hd
        have hx : ObjOk X.prog X.w H s.heap dd (.xd fs) := I.hok dd _ hxd
        obtain ⟨mA, hns, hr⟩ := hx
        obtain ⟨odo, ho, hl⟩ := lookIn_ns hns
        have J : PySem.W.InstAt s.heap a { cls := .ref D, dict := some dd, data := .fields vs, slots := osl } D (some odo) := ⟨hget, rfl, rfl, ho⟩
        exact PySem.W.kia_one (PySem.W.kitx_exc hsome C.hg C.hk C.hs C.ha C.hn C.ht C.hm) I.kIn J e (fun z => nomatch z) fun tk => ⟨.bl b, H, I.kept (t' := tk) fun _ _ z => z, rfl, q⟩
section
variable {K : PySem.W.Frag} {a D : Addr} {d : Option Addr} {H : Hp} {Q : VK} {b : Bool}
theorem go_isXC {c : Addr} (C : ExcC K D) (hd : XdAt H d) (hk : PySem.W.kitOne K (.ref D) (.ref c) = some b) (q : Q (.bl b) H) : rIsX K a (.ref D) d [.ref a, .ref c] H Q :=
  ⟨D, .ref c, .ref c, b, rfl, C, hd, rfl, fun _ r => r, hk, q⟩
theorem go_isXT {t : String} (C : ExcC K D) (hd : XdAt H d) (hk : PySem.W.kitOne K (.ref D) (.type t) = some b) (q : Q (.bl b) H) : rIsX K a (.ref D) d [.ref a, .ty t] H Q :=
  ⟨D, .ty t, .type t, b, rfl, C, hd, rfl, fun _ r => r, hk, q⟩
theorem go_xf {C : Addr} {f : Str} {te : TE} {σ : L2.St} {cls : Value} (h : te σ H fun x H1 => x = .ref a ∧ cls = .ref C ∧ ∃ (dd : Addr) (fs : List (Str × V)) (v : V), d = some dd ∧ H1 dd = some (.xd fs) ∧ fs.lookup f = some v ∧ Q v H1) : tXf a cls d C f te σ H Q := h
theorem go_xfV {f : Str} {dd : Addr} {fs : List (Str × V)} {v : V} {R : V → Prop} (e : H dd = some (.xd fs)) (l : fs.lookup f = some v) (h : R v) :
    V.ref a = .ref a ∧ (Value.ref D) = .ref D ∧ ∃ (d' : Addr) (fs : List (Str × V)) (v : V), some dd = some d' ∧ H d' = some (.xd fs) ∧ fs.lookup f = some v ∧ R v := ⟨rfl, rfl, dd, fs, v, rfl, e, l, h⟩
theorem xdAt {dd : Addr} {fs : List (Str × V)} (e : H dd = some (.xd fs)) : XdAt H (some dd) := .inr ⟨dd, fs, rfl, e⟩
end
/-! ### an instance called; what is raised is wished for at the caller's slots -/
section
variable {X : Cx} {CX : CXT} {k : Nat} {C g : Addr} {fd : FuncData} {ps ks : List Str} {sp : Sp} {E : L2.St → XK} {pos : Pos} {fe e : Expr} {es : List Expr} {tf : TE} {t tk : TA} {kws : List Keyword} {gk : List Value → List Value → List Value} {gV : List V → List V → List V}
def InsD (H : Hp) (a C : Addr) : Prop := ∃ dx fs, H a = some (.ins C dx fs)
theorem insD_at {pins : List (Addr × Obj)} {σ : L2.St} {H : Hp} {s : Shared} {a : Addr} (I : Inv X pins σ H s) (h : InsD H a C) : ∃ ox od, PySem.W.InstAt s.heap a ox C od ∧ ox.data = .plain := by
  obtain ⟨dx, fs, h⟩ := h
  obtain ⟨mA, O, _⟩ := ins_get I.hok h
  obtain ⟨od, J, _⟩ := O.look
  exact ⟨_, _, J, rfl⟩
def tCallI (C : Addr) (sp : Sp) (E : L2.St → XK) (tf : TE) (t : TA) : TE := fun σ H Q => tf σ H fun y H1 => ∃ a, y = V.ref a ∧ t σ H1 fun vs H2 => InsD H2 a C ∧ sp (V.ref a :: vs) H2 Q (E σ)
theorem run_callI {pins : List (Addr × Obj)} {σ : L2.St} {H : Hp} {s : Shared} {Q : VK} {a : Addr} {us : List Value} {vs : List V} (c : StX.CallO X.K C g) (F : FnOk X.prog X.w X.K X.mg X.base CX k g fd ps sp) (hr : Room k X.A) (hb : Binds X.K fd ps []) (hx : ∀ σ, PassesAt CX X σ (E σ)) (I : Inv X pins σ H s) (hi : InsD H a C) (r : Vals vs us)
    (h : sp (V.ref a :: vs) H Q (E σ)) : wpAny (model X.prog X.w) X.A (call (.ref a) us) (EP X pins σ Q) X.xe s := by
  obtain ⟨ox, od, J, hd⟩ := insD_at I hi
  have h2 : sp ((V.ref a :: vs) ++ []) H Q (E σ) := by rw [List.append_nil]; exact h
  have hl : (Value.ref a :: us).length = ps.length := by
    have r2 : Vals (V.ref a :: vs) (Value.ref a :: us) := .cons rfl r
    rw [← r2.length]; exact F.len _ _ _ _ h
  have hb' := hb s (.ref a :: us) I.kIn (by rw [List.append_nil]; exact hl)
  rw [List.append_nil] at hb'
  refine wpAny_call (PySem.W.kco_code I.kIn J hd c.at_ c.fn c.fi (codeAny_mono (F.run X.A X.stack s H ⟨.ref a :: us, []⟩ (.ref a :: us) (.ref a :: vs) Q (E σ) hr I.env0 hb' (.cons rfl r) h) fun r s' hq => ?_))
  cases r with
  | error e => exact hx σ pins H s e s' I hq
  | ok fl =>
    cases fl with
    | ret u => exact I.after hq
    | next => exact False.elim hq
    | brk => exact False.elim hq
    | cont => exact False.elim hq
theorem pe_callI (hf : PE X fe tf) (c : StX.CallO X.K C g) (F : FnOk X.prog X.w X.K X.mg X.base CX k g fd ps sp) (hr : Room k X.A) (hb : Binds X.K fd ps []) (hx : ∀ σ, PassesAt CX X σ (E σ)) (ha : PA X (e :: es) t)
    (ht : eval (.Call fe (e :: es) [] pos) X.env = (do callWith pos (← eval fe X.env) [] (backTo pos (starEach (e :: es) X.env)) (backToKw pos (keywordEach [] X.env))) := by rfl)
    (he : starEach (e :: es) X.env = (false, eval e X.env) :: starEach es X.env := by rfl) (hpl : (backTo pos (starEach es X.env)).any (·.1) = false := by rfl) : PE X (.Call fe (e :: es) [] pos) (tCallI C sp E tf t) := by
  refine ⟨fun pins s σ H Q I h => ?_⟩
  refine Call_ (thn (hf.run pins s σ H _ I h) fun u s1 ⟨y, H1, I1, ry, a, ey, q⟩ => ?_) ht
  subst ey
  obtain rfl : u = Value.ref a := ry
  refine StX.callO_with (thn (ha.run pos pins s1 σ H1 _ I1 q) fun us s2 ⟨vs, H2, I2, r, hi, q2⟩ => ?_) he hpl
  obtain ⟨ox, od, J, hd⟩ := insD_at I2 hi
  exact ⟨⟨C, ox, od, J, hd⟩, run_callI c F hr hb hx I2 hi r q2⟩
end
section
variable {σ : L2.St} {H : Hp} {Q : VK} {tf : TE} {ts : TA} {C : Addr} {sp : Sp} {E : L2.St → XK}
theorem go_callI (h : tf σ H fun y H1 => ∃ a, y = V.ref a ∧ ts σ H1 fun vs H2 => InsD H2 a C ∧ sp (V.ref a :: vs) H2 Q (E σ)) : tCallI C sp E tf ts σ H Q := h
theorem go_insD {a dx : Addr} {fs : List (Str × V)} {P : Prop} (e : H a = some (.ins C dx fs)) (h : P) : InsD H a C ∧ P := ⟨⟨dx, fs, e⟩, h⟩
theorem go_refE {a : Addr} {P : Addr → Prop} (h : P a) : ∃ a', V.ref a = .ref a' ∧ P a' := ⟨a, rfl, h⟩
end
/-! ### what is raised is wished for at the caller's slots: methods, instances made, keywords -/
theorem passS0 {X : Cx} {E : L2.St → XK} : ∀ σ, PassesAt CX0 X σ (E σ) := fun _ _ _ _ _ _ _ h => h.elim
theorem passSL {X : Cx} : ∀ σ, PassesAt (L2.CX X.prog X.w) X σ ((fun (_ : L2.St) => E0) σ) := fun σ pins H s e s' I h => passL pins σ H s e s' I h
section
variable {X : Cx} {CX : CXT} {k : Nat} {C f g : Addr} {fd : FuncData} {ps ks : List Str} {sp : Sp} {E : L2.St → XK} {x m : Str} {p pos apos : Pos} {fe e o : Expr} {es : List Expr} {tf ta : TE} {t tk : TA} {kws : List Keyword} {gk : List Value → List Value → List Value} {gV : List V → List V → List V}
def tMethS (C : Addr) (m : Str) (sp : Sp) (E : L2.St → XK) (ta : TE) (t : TA) : TE := fun σ H Q => ta σ H fun x H1 => ∃ a dx fs, x = .ref a ∧ H1 a = some (.ins C dx fs) ∧ fs.lookup m = none ∧ t σ H1 fun vs H2 => sp (x :: vs) H2 Q (E σ)
theorem pe_methS {pl : Sem Bool} (he : PE X o ta) (c : Cls X.K C) (hm : Meth X.K C m f) (F : FnOk X.prog X.w X.K X.mg X.base CX k f fd ps sp) (hr : Room k X.A) (hb : Binds X.K fd ps []) (hx : ∀ σ, PassesAt CX X σ (E σ)) (ha : PA X (e :: es) t)
    (hst : starEach (e :: es) X.env = (false, eval e X.env) :: starEach es X.env := by rfl) (hpl : (backTo pos (starEach es X.env)).any (·.1) = false := by rfl)
    (ht : eval (.Call (.Attribute o m apos) (e :: es) [] pos) X.env = (do
      let ov ← eval o X.env
      standAt apos.atName
      let (f, first) ← holding [ov] (getMethod ov m pl)
      callWith pos f first (backTo pos (starEach (e :: es) X.env)) (backToKw pos (keywordEach [] X.env))) := by rfl) :
    PE X (.Call (.Attribute o m apos) (e :: es) [] pos) (tMethS C m sp E ta t) := by
  refine ⟨fun pins s σ H Q I h => ?_⟩
  refine PySem.W.methodCall_KW (pl := pl) (thn (he.run pins s σ H _ I h) fun u s1 ⟨x, H1, I1, rx, a, dx, fs, ex, ea, l, q⟩ => ?_) ht
  subst ex
  obtain rfl : u = Value.ref a := rx
  refine getmeth_ok I1 ea c hm l ?_
  refine PySem.W.callWith_K (first := [.ref a]) (h₀ := X.base) I.ok.mod.kin hm.kp (thn (ha.run pos pins s1 σ H1 _ I1 q) fun us s2 ⟨vs, H2, I2, r, q2⟩ => ⟨I2.kIn, ?_⟩) hst hpl
  exact run_fnS (us := .ref a :: us) (vs := .ref a :: vs) F hr hb (hx σ) I2 (.cons rfl r) q2
theorem pe_methS0 {pl : Sem Bool} (he : PE X o ta) (c : Cls X.K C) (hm : Meth X.K C m f) (F : FnOk X.prog X.w X.K X.mg X.base CX k f fd ps sp) (hr : Room k X.A) (hb : Binds X.K fd ps []) (hx : ∀ σ, PassesAt CX X σ (E σ))
    (ht : eval (.Call (.Attribute o m apos) [] [] pos) X.env = (do
      let ov ← eval o X.env
      standAt apos.atName
      let (f, first) ← holding [ov] (getMethod ov m pl)
      callWith pos f first (backTo pos (starEach [] X.env)) (backToKw pos (keywordEach [] X.env))) := by rfl) :
    PE X (.Call (.Attribute o m apos) [] [] pos) (tMethS C m sp E ta tNil) := by
  refine ⟨fun pins s σ H Q I h => ?_⟩
  refine PySem.W.methodCall_KW (pl := pl) (thn (he.run pins s σ H _ I h) fun u s1 ⟨x, H1, I1, rx, a, dx, fs, ex, ea, l, q⟩ => ?_) ht
  subst ex
  obtain rfl : u = Value.ref a := rx
  refine getmeth_ok I1 ea c hm l ?_
  exact PySem.W.callWith_K0 (first := [.ref a]) I1.kIn hm.kp (run_fnS (us := [.ref a]) (vs := [.ref a]) F hr hb (hx σ) I1 (.cons rfl .nil) q)
def tMakeS (C : Addr) (sp : Sp) (E : L2.St → XK) (t : TA) : TE := fun σ H Q => t σ H fun vs H1 => ∀ x dx, H1 x = none → H1 dx = none → dx ≠ x → sp (.ref x :: vs) (upd (upd H1 dx (.own x)) x (.ins C dx [])) (fun v H2 => v = .non ∧ Q (.ref x) H2) (E σ)
theorem run_makeS {pins : List (Addr × Obj)} {σ : L2.St} {H : Hp} {s : Shared} {Q : VK} {us : List Value} {vs : List V} (M : Mk X.K C f) (F : FnOk X.prog X.w X.K X.mg X.base CX k f fd ps sp) (hr : Room (k + 1) X.A) (hb : Binds X.K fd ps [])
    (hx : PassesAt CX X σ (E σ)) (I : Inv X pins σ H s) (r : Vals vs us)
    (h : ∀ x dx, H x = none → H dx = none → dx ≠ x → sp (.ref x :: vs) (upd (upd H dx (.own x)) x (.ins C dx [])) (fun v H2 => v = .non ∧ Q (.ref x) H2) (E σ)) :
    wpAny (model X.prog X.w) X.A (call (.ref C) us) (EP X pins σ Q) X.xe s := by
  have hq := h (s.heap.objs.size + 1) s.heap.objs.size (I.hok.fresh (Nat.le_succ _)) (I.hok.fresh (Nat.le_refl _)) (Nat.ne_of_lt (Nat.lt_succ_self _))
  have I2 := Inv.made (C := C) I
  have r2 : Vals (V.ref (s.heap.objs.size + 1) :: vs) (Value.ref (s.heap.objs.size + 1) :: us) := .cons rfl r
  have hl : (Value.ref (s.heap.objs.size + 1) :: us).length = ps.length := by
    have e := r2.length
    rw [F.len _ _ _ _ hq] at e
    exact e.symm
  have hb' := hb _ (Value.ref (s.heap.objs.size + 1) :: us) I2.kIn (by rw [List.append_nil]; exact hl)
  rw [List.append_nil] at hb'
  refine wpAny_call (make_map (f := f) I.kIn M.makes M.init (beq_iff_eq.mp M.fn) (codeAny_mono (F.run _ X.stack _ _ ⟨Value.ref (s.heap.objs.size + 1) :: us, []⟩ (Value.ref (s.heap.objs.size + 1) :: us) _ _ (E σ) (hr.make C us [])
    (I2.env0.make C us []) hb' r2 hq) fun r s' hq' => ?_))
  cases r with
  | error e => exact hx pins _ _ e s' I2 hq'
  | ok fl =>
    cases fl with
    | ret u =>
      obtain ⟨v, H', I3, rv, ev, q3⟩ := I2.after hq'
      subst ev
      exact ⟨rv, ⟨V.ref (s.heap.objs.size + 1), H', I3, rfl, q3⟩⟩
    | next => exact False.elim hq'
    | brk => exact False.elim hq'
    | cont => exact False.elim hq'
theorem pe_makeS (M : Mk X.K C f) (F : FnOk X.prog X.w X.K X.mg X.base CX k f fd ps sp) (hr : Room (k + 1) X.A) (hg : Gl X x) (hm : X.mg x = some (.ref C)) (hb : Binds X.K fd ps []) (hx : ∀ σ, PassesAt CX X σ (E σ))
    (ha : PA X (e :: es) t) (hdb : (x == ("__debug__" : Str)) = false := by decide) (he : starEach (e :: es) X.env = (false, eval e X.env) :: starEach es X.env := by rfl) (hpl : (backTo pos (starEach es X.env)).any (·.1) = false := by rfl) :
    PE X (.Call (.Name x p) (e :: es) [] pos) (tMakeS C sp E t) := by
  refine ⟨fun pins s σ H Q I h => ?_⟩
  refine wpAny_Call_Name_kw (ld_glob I hg hm ?_ hdb)
  refine PySem.W.callWith_K (h₀ := X.base) I.ok.mod.kin M.kp (thn (ha.run pos pins s σ H _ I h) fun us s1 ⟨vs, H1, I1, r, q⟩ => ⟨I1.kIn, ?_⟩) he hpl
  exact run_makeS M F hr hb (hx σ) I1 r q
/-- f(k = v, ..), f an instance -/
def tCallIK (C : Addr) (sp : Sp) (gV : List V → List V → List V) (E : L2.St → XK) (tf : TE) (tk : TA) : TE := fun σ H Q => tf σ H fun y H1 => ∃ a, y = V.ref a ∧ tk σ H1 fun zs H2 => InsD H2 a C ∧ sp (gV [V.ref a] zs) H2 Q (E σ)
theorem callK_of {M : Model} {A : Around} {E : Value → Shared → Prop} {s : Shared} {a : Addr} {pos : Pos} {Q : Value → Shared → Prop} {args : List (Bool × Sem Value)} {kw : List (Option Str × Sem Value)} (hplain : (args.any (·.1) || kw.any (·.1.isNone)) = false)
    (h : wpAny M A (evalArgs (.ref a) true args kw) (fun z s₁ => (∃ C ox od, PySem.W.InstAt s₁.heap a ox C od ∧ ox.data = .plain) ∧ wpAny M A (call (.ref a) ([] ++ z.pos) z.kw) Q E s₁) E s) : wpAny M A (callWith pos (.ref a) [] args kw) Q E s := by
  unfold callWith
  refine wpAny_bind (wpAny_holding (wpAny_mono h (fun z s₁ h₁ => wpAny_bind (wpAny_standAt ?_)) fun _ _ y => y))
  obtain ⟨⟨C, ox, od, J, hd⟩, h₁⟩ := h₁
  have L := PySem.W.kco_keeper (M := M) J hd
  simp only [hplain]
  refine wpAny_bind (L.here ?_)
  have tail : ∀ {t : Sem Value}, wpAny M A t Q E s₁ → wpAny M A (t >>= fun r => holding [r] point >>= fun _ => pure r) Q E s₁ :=
    fun ht => wpAny_bind (wpAny_mono ht (fun r s₂ hr => wpAny_bind (wpAny_holding (wpAny_point (wpAny_pure hr)))) fun _ _ y => y)
  exact tail (wpAny_operateT h₁)
theorem pe_callIK (hf : PE X fe tf) (c : StX.CallO X.K C g) (F : FnOk X.prog X.w X.K X.mg X.base CX k g fd ps sp) (hr : Room k X.A) (hb : KBinds X.K fd ps ks gk gV) (hx : ∀ σ, PassesAt CX X σ (E σ)) (hkw : PK X kws tk)
    (hall : (backToKw pos (keywordEach kws X.env)).all (·.1.isSome) = true := by rfl) (hks : (backToKw pos (keywordEach kws X.env)).filterMap (·.1) = ks := by rfl)
    (hpl : ((backTo pos (starEach [] X.env)).any (·.1) || (backToKw pos (keywordEach kws X.env)).any (·.1.isNone)) = false := by rfl)
    (ht : eval (.Call fe [] kws pos) X.env = (do callWith pos (← eval fe X.env) [] (backTo pos (starEach [] X.env)) (backToKw pos (keywordEach kws X.env))) := by rfl) : PE X (.Call fe [] kws pos) (tCallIK C sp gV E tf tk) := by
  refine ⟨fun pins s σ H Q I h => ?_⟩
  rw [ht]
  refine wpAny_bind (thn (hf.run pins s σ H _ I h) fun u s1 ⟨y, H1, I1, ry, a, ey, q⟩ => ?_)
  subst ey
  obtain rfl : u = Value.ref a := ry
  refine callK_of hpl (PyProof.Rows.evalArgs_kw2_nil hall (thn (hkw.run pos pins s1 σ H1 _ I1 q) fun ws s2 ⟨zs, H2, I2, r, hi, q2⟩ => ?_))
  rw [hks]
  obtain ⟨ox, od, J, hd⟩ := insD_at I2 hi
  have r2 := hb.rel (us := [Value.ref a]) (vs := [V.ref a]) (.cons rfl .nil) r
  have hl : (gk [Value.ref a] ws).length = ps.length := by rw [← r2.length]; exact F.len _ _ _ _ q2
  refine ⟨⟨C, ox, od, J, hd⟩, wpAny_call (PySem.W.kco_code I2.kIn J hd c.at_ c.fn c.fi (codeAny_mono (F.run X.A X.stack s2 H2 ⟨[.ref a], ks.zip ws⟩ (gk [.ref a] ws) (gV [.ref a] zs) Q (E σ) hr I2.env0 (hb.to s2 [.ref a] ws I2.kIn hl) r2 q2) fun r s' hq => ?_))⟩
  cases r with
  | error e => exact hx σ pins H2 s2 e s' I2 hq
  | ok fl =>
    cases fl with
    | ret u => exact I2.after hq
    | next => exact False.elim hq
    | brk => exact False.elim hq
    | cont => exact False.elim hq
end
section
variable {σ : L2.St} {H : Hp} {Q : VK} {tf ta : TE} {ts tk : TA} {C : Addr} {m : Str} {sp : Sp} {E : L2.St → XK} {gV : List V → List V → List V}
theorem go_methS (h : ta σ H fun x H1 => ∃ a dx fs, x = .ref a ∧ H1 a = some (.ins C dx fs) ∧ fs.lookup m = none ∧ ts σ H1 fun vs H2 => sp (x :: vs) H2 Q (E σ)) : tMethS C m sp E ta ts σ H Q := h
theorem go_makeS (h : ts σ H fun vs H1 => ∀ x dx, H1 x = none → H1 dx = none → dx ≠ x → sp (.ref x :: vs) (upd (upd H1 dx (.own x)) x (.ins C dx [])) (fun v H2 => v = .non ∧ Q (.ref x) H2) (E σ)) : tMakeS C sp E ts σ H Q := h
theorem go_callIK (h : tf σ H fun y H1 => ∃ a, y = V.ref a ∧ tk σ H1 fun zs H2 => InsD H2 a C ∧ sp (gV [V.ref a] zs) H2 Q (E σ)) : tCallIK C sp gV E tf tk σ H Q := h
theorem go_callS (h : ts σ H fun vs H1 => sp vs H1 Q (E σ)) : tCallS sp E ts σ H Q := h
end
/-- the error's field, whatever its class -/
def tXfX (K : PySem.W.Frag) (a : Addr) (cls : Value) (d : Option Addr) (f : Str) (te : TE) : TE := fun σ H Q => te σ H fun x H1 => x = .ref a ∧ ∃ C, cls = .ref C ∧ XfC K C ∧ PySem.W.findIn K (.ref C) f = some none ∧ ∃ (dd : Addr) (fs : List (Str × V)) (v : V), d = some dd ∧ H1 dd = some (.xd fs) ∧ fs.lookup f = some v ∧ Q v H1
theorem pe_xfX {X : Cx} {a : Addr} {oe : Obj} {cls : Value} {d : Option Addr} {pn : List (Addr × Obj)} {e : Expr} {te : TE} {pos : Pos} {n : Str} (hz : Zc cls d oe) (hf : ∃ vs, oe.data = .fields vs) (he : PE (X.suite a ((a, oe) :: pn)) e te) (hb : attributeBase e n X.env (eval e X.env) = eval e X.env := by rfl) :
    PE (X.suite a ((a, oe) :: pn)) (.Attribute e n pos) (tXfX X.K a cls d n te) := by
  refine ⟨fun pins s σ H Q I h => ?_⟩
  refine attr_of hb (thn (he.run pins s σ H _ I h) fun u s1 hh => ?_)
  obtain ⟨x, H1, I1, rx, ex, C, ec, T, hno, dd, fs, v, ed, ea, l, q⟩ := hh
  subst ex
  obtain rfl : u = Value.ref a := rx
  subst ec
  subst ed
  obtain ⟨ha, _⟩ := I1.pin (a, oe) (List.mem_append_left _ List.mem_cons_self)
  obtain ⟨vs, hd⟩ := hf
  have hx : ObjOk X.prog X.w H1 s1.heap dd (.xd fs) := I1.hok dd _ ea
  obtain ⟨mA, hns, hr⟩ := hx
  obtain ⟨od, ho, hl⟩ := lookIn_ns hns
  obtain ⟨u, hu, ru⟩ := RelO.some_of (v := v) (o := mA n) (by rw [← l]; exact hr n)
  have J : PySem.W.InstAt s1.heap a oe C (some od) := ⟨ha, hz.1, by unfold PySem.W.notCls; rw [hd] <;> rfl, by rw [hz.2]; exact ho⟩
  exact HandSPX.exc_get I1.kIn J T.ga T.gg T.exC (PySem.W.findObj_own T.hdC hno rfl (by rw [hl, hu])) (handed_of ru) ⟨v, H1, I1.tok _, ru, q⟩
theorem go_xfX {K : PySem.W.Frag} {a : Addr} {cls : Value} {d : Option Addr} {f : Str} {te : TE} {σ : L2.St} {H : Hp} {Q : VK} (h : te σ H fun x H1 => x = .ref a ∧ ∃ C, cls = .ref C ∧ XfC K C ∧ PySem.W.findIn K (.ref C) f = some none ∧ ∃ (dd : Addr) (fs : List (Str × V)) (v : V), d = some dd ∧ H1 dd = some (.xd fs) ∧ fs.lookup f = some v ∧ Q v H1) : tXfX K a cls d f te σ H Q := h
theorem go_xfXV {K : PySem.W.Frag} {a D dd : Addr} {f : Str} {H : Hp} {fs : List (Str × V)} {v : V} {R : V → Prop} (T : XfC K D) (no : PySem.W.findIn K (.ref D) f = some none) (e : H dd = some (.xd fs)) (l : fs.lookup f = some v) (h : R v) :
    V.ref a = .ref a ∧ ∃ C, (Value.ref D) = .ref C ∧ XfC K C ∧ PySem.W.findIn K (.ref C) f = some none ∧ ∃ (d' : Addr) (fs : List (Str × V)) (v : V), some dd = some d' ∧ H d' = some (.xd fs) ∧ fs.lookup f = some v ∧ R v := ⟨rfl, D, rfl, T, no, dd, fs, v, rfl, e, l, h⟩
/-! ### raise and try, by name -/
def tRaise (W : WX) (t : L2.St → Hp → XK → Prop) : TS := fun _ σ H => t σ H fun cls d H' => W cls d σ H'
theorem ps_raiseT {X : Cx} {W : WX} {e : Expr} {t : L2.St → Hp → XK → Prop} {pos : Pos} (hc : X.calm = true) (tk : Takes X W) (he : PMk X e t) : PS X (.Raise (some e) none pos) (tRaise W t) := ps_raise hc tk he
theorem go_raiseT {t : L2.St → Hp → XK → Prop} {W : WX} {D : Ends} {σ : L2.St} {H : Hp} (h : t σ H fun cls d H' => W cls d σ H') : tRaise W t D σ H := h
def tTryAs (K : PySem.W.Frag) (c : Value) (i : Nat) (ts : Addr → Value → Option Addr → TS) (Wout : WX) (tb : WX → TS) : TS := fun D σ H => tb (wAs K c i ts Wout D) D σ H
def tTryOnly (K : PySem.W.Frag) (c : Value) (ts : Addr → Value → Option Addr → TS) (Wout : WX) (tb : WX → TS) : TS := fun D σ H => tb (wOnly K c ts Wout D) D σ H
section
variable {X : Cx} {x n : Str} {c : Value} {i : Nat} {body suite : List Stmt} {b₀ : Stmt} {np pos pos' : Pos} {tb : WX → TS} {ts : Addr → Value → Option Addr → TS} {Wout : WX}
theorem ps_tryAs (hs : X.stack = X.env :: X.outer) (hf : X.env.frame = some X.env.locals) (hN : X.N.Nodup) (hi : X.N[i]? = some n) (hln : X.env.kindOf n = some .local) (hc : Names X x c) (tk : Takes X Wout)
    (hb : ∀ (W : WX) (pn : List (Addr × Obj)) (xe : Value → Shared → Prop), Takes (X.tr pn xe) W → PassesOwn (model X.prog X.w) X.A X.env xe → PSs (X.tr pn xe) body (tb W))
    (hsu : ∀ (a : Addr) (oe : Obj) (cls : Value) (d : Option Addr) (pn : List (Addr × Obj)), Zc cls d oe → (∃ vs, oe.data = .fields vs) → PSs (X.suite a ((a, oe) :: pn)) (b₀ :: suite) (ts a cls d)) :
    PS X (.Try body [.ExceptHandler (some (.Name x np)) (some n) (b₀ :: suite) pos'] [] [] pos) (tTryAs X.K c i ts Wout tb) := ps_try_as hs hf hN hi hln hc tk hb hsu
theorem ps_tryOnly (hs : X.stack = X.env :: X.outer) (hf : X.env.frame = some X.env.locals) (hc : Names X x c) (tk : Takes X Wout)
    (hb : ∀ (W : WX) (pn : List (Addr × Obj)) (xe : Value → Shared → Prop), Takes (X.tr pn xe) W → PassesOwn (model X.prog X.w) X.A X.env xe → PSs (X.tr pn xe) body (tb W))
    (hsu : ∀ (a : Addr) (oe : Obj) (cls : Value) (d : Option Addr) (pn : List (Addr × Obj)), Zc cls d oe → (∃ vs, oe.data = .fields vs) → PSs (X.suite a ((a, oe) :: pn)) (b₀ :: suite) (ts a cls d)) :
    PS X (.Try body [.ExceptHandler (some (.Name x np)) none (b₀ :: suite) pos'] [] [] pos) (tTryOnly X.K c ts Wout tb) := ps_try_only hs hf hc tk hb hsu
end
section
variable {K : PySem.W.Frag} {c : Value} {i : Nat} {tb : WX → TS} {ts : Addr → Value → Option Addr → TS} {Wout : WX} {D : Ends} {σ : L2.St} {H : Hp} {cls : Value} {d : Option Addr}
theorem go_tryAs (h : tb (wAs K c i ts Wout D) D σ H) : tTryAs K c i ts Wout tb D σ H := h
theorem go_tryOnly (h : tb (wOnly K c ts Wout D) D σ H) : tTryOnly K c ts Wout tb D σ H := h
theorem go_wAs (e : PySem.W.exmOne K cls c = some true) (h : ∀ a, H a = none → ts a cls d { nx := fun σ' H' => D.nx (σ'.set i none) H', rt := D.rt, bk := fun σ' H' => D.bk (σ'.set i none) H', ct := fun σ' H' => D.ct (σ'.set i none) H' } (σ.set i (some (.ref a))) H) : wAs K c i ts Wout D cls d σ H :=
  ⟨true, e, fun _ => h, fun q => nomatch q⟩
theorem go_wOnly (e : PySem.W.exmOne K cls c = some true) (h : ∀ a, H a = none → ts a cls d D σ H) : wOnly K c ts Wout D cls d σ H :=
  ⟨true, e, fun _ => h, fun q => nomatch q⟩
end
theorem go_nNone {A B : Prop} (h : A) : if (!(none : Option V).isSome) = true then A else B := iteT h
theorem go_nSome {v : V} {A B : Prop} (h : B) : if (!(some v).isSome) = true then A else B := iteF h
theorem go_None {A B : Prop} (h : B) : if (none : Option V).isSome = true then A else B := iteF h
theorem go_Some {v : V} {A B : Prop} (h : A) : if (some v).isSome = true then A else B := iteT h
/-! ### tuple(x), list(x): readings with a name -/
def rTupOf (K : PySem.W.Frag) : List V → Hp → VK → Prop := fun vs H Q => ∃ p xs, vs = [.ref p] ∧ ((SqL K H p xs ∧ ∀ l, H l = none → Q (.ref l) (upd H l (.tup xs))) ∨ (SqT K H p xs ∧ Q (.ref p) H))
theorem call_tupD {X : Cx} : CallR X (.type "tuple") (rTupOf X.K) := call_tuple_of
def rLstOf (K : PySem.W.Frag) : List V → Hp → VK → Prop := fun vs H Q => ∃ p xs, vs = [.ref p] ∧ (SqL K H p xs ∨ SqT K H p xs) ∧ ∀ l, H l = none → Q (.ref l) (upd H l (.lst xs))
theorem call_lstD {X : Cx} : CallR X (.type "list") (rLstOf X.K) := call_list_of
section
variable {K : PySem.W.Frag} {H : Hp} {Q : VK} {p : Addr} {xs : List V}
theorem go_tupD (e : SqL K H p xs) (h : ∀ l, H l = none → Q (.ref l) (upd H l (.tup xs))) : rTupOf K [.ref p] H Q := ⟨p, xs, rfl, .inl ⟨e, h⟩⟩
theorem go_tupDT (e : SqT K H p xs) (h : Q (.ref p) H) : rTupOf K [.ref p] H Q := ⟨p, xs, rfl, .inr ⟨e, h⟩⟩
theorem go_lstD (e : SqL K H p xs) (h : ∀ l, H l = none → Q (.ref l) (upd H l (.lst xs))) : rLstOf K [.ref p] H Q := ⟨p, xs, rfl, .inl e, h⟩
theorem go_lstDT (e : SqT K H p xs) (h : ∀ l, H l = none → Q (.ref l) (upd H l (.lst xs))) : rLstOf K [.ref p] H Q := ⟨p, xs, rfl, .inr e, h⟩
theorem go_lstDO (e : SqL K H p xs ∨ SqT K H p xs) (h : ∀ l, H l = none → Q (.ref l) (upd H l (.lst xs))) : rLstOf K [.ref p] H Q := ⟨p, xs, rfl, e, h⟩
end
theorem go_cat {H : Hp} {Q : VK} {p q : Addr} {xs ys : List V} (h1 : H p = some (.lst xs)) (h2 : H q = some (.lst ys)) (l : xs.length + ys.length ≤ 1000) (h : ∀ r, H r = none → Q (.ref r) (upd H r (.lst (xs ++ ys)))) : rCat (.ref p) (.ref q) H Q :=
  ⟨p, q, xs, ys, rfl, rfl, h1, h2, Nat.le_of_lt (small1000 l), h⟩
theorem go_prop {C : Addr} {sp : Sp} {E : XK} {ta : TE} {σ : L2.St} {H : Hp} {Q : VK} {dvs : List V} (h : ta σ H fun x H1 => ∃ a dx fs, x = .ref a ∧ H1 a = some (.ins C dx fs) ∧ sp (.ref a :: dvs) H1 Q E) : tProp C sp dvs E ta σ H Q := h
end Vc

/-! Xt: a caught error as a tracked object: held by a name, handed to defs, also where it is still being handled (my own; the way of HandS.Exc's ps_try_as and HandS.HotCalls). -/
namespace Vc
open PySem PySem.Spec PyProof.Rows L2
/-- a caught error: its class, its dict -/
def xco (a : Addr) (cls : Value) (d : Option Addr) : HO := .ext fun h => ∃ (oe : Obj) (vs : Array Value), h.get? a = some oe ∧ Zc cls d oe ∧ oe.data = .fields vs
theorem xco_own {a x : Addr} {cls : Value} {d : Option Addr} : xco a cls d ≠ .own x := fun z => by
  have z' : HO.ext _ = HO.own x := z
  cases z'
theorem xco_ok {P : Program} {w : World} {H : Hp} {h : Heap} {a : Addr} {cls : Value} {d : Option Addr} {oe : Obj} {vs : Array Value} (he : h.get? a = some oe) (hz : Zc cls d oe) (hd : oe.data = .fields vs) : ObjOk P w H h a (xco a cls d) :=
  ⟨⟨oe, vs, he, hz, hd⟩, ⟨_, he⟩, fun h1 h2 z k => by
    obtain ⟨o, v, q1, q2, q3⟩ := z
    exact ⟨o, v, k _ q1, q2, q3⟩⟩
theorem xco_at {P : Program} {w : World} {H : Hp} {h : Heap} {a : Addr} {cls : Value} {d : Option Addr} (hok : HOk P w H h) (he : H a = some (xco a cls d)) : ∃ (oe : Obj) (vs : Array Value), h.get? a = some oe ∧ Zc cls d oe ∧ oe.data = .fields vs := by
  have x : ObjOk P w H h a (.ext fun h => ∃ (oe : Obj) (vs : Array Value), h.get? a = some oe ∧ Zc cls d oe ∧ oe.data = .fields vs) := hok a _ he
  exact x.1
section
variable {X : Cx} {pins : List (Addr × Obj)} {σ : L2.St} {H : Hp} {s sI : Shared} {a : Addr} {o : HO}
/-- what was not there ahead becomes tracked -/
theorem track (J : Inv X pins σ H sI) (I : Inv X pins σ H s) (n : sI.heap.get? a = none) (na : H a = none) (ob : ObjOk X.prog X.w (upd H a o) s.heap a o) : Inv X pins σ (upd H a o) s := by
  have nb : ∀ {b : Addr} {o' : Obj}, sI.heap.get? b = some o' → b ≠ a := fun {b o'} e z => by rw [z, n] at e; cases e
  have nH : ∀ {b : Addr} {o' : HO}, H b = some o' → b ≠ a := fun {b o'} e z => by rw [z, na] at e; cases e
  refine ⟨I.ok, I.os, I.bare, ⟨I.base.keep, I.base.slot, fun b o' e n' hx => ?_, I.base.there, fun b xs e => ?_, fun b o' u e => ?_, fun b ps e => ?_⟩, I.loc, I.cell, ?_, fun y c e => ?_, fun p hp => ?_, fun b o' e => ?_, I.len⟩
  · obtain ⟨o2, e2⟩ := J.base.there b o' e hx
    rw [upd_ne (nb e2)]
    exact I.base.free b o' e n' hx
  · have q := I.base.tups b xs e
    rw [upd_ne (nH q)]; exact q
  · have q := I.base.frzs b o' u e
    rw [upd_ne (nH q)]; exact q
  · obtain ⟨more, q⟩ := I.base.tbls b ps e
    exact ⟨more, by rw [upd_ne (nH q)]; exact q⟩
  · obtain ⟨m, ⟨oL, _, _, hoL, _⟩, _⟩ := id J.loc
    rw [upd_ne (nb hoL)]; exact I.free
  · obtain ⟨v, hv⟩ := J.cell y c e
    obtain ⟨oc, hoc, _⟩ := hv
    rw [upd_ne (nb hoc)]; exact I.freeC y c e
  · obtain ⟨q1, q2, q3⟩ := I.pin p hp
    obtain ⟨z1, _⟩ := J.pin p hp
    exact ⟨q1, by rw [upd_ne (nb z1)]; exact q2, q3⟩
  · by_cases hb : b = a
    · subst hb
      rw [upd_same] at e
      cases e
      exact ob
    · rw [upd_ne hb] at e
      exact (I.hok b o' e).stay (fun _ _ _ q => q) (fun c hc => by rw [upd_ne (nH hc)]; exact hc) (fun c xs hc => by rw [upd_ne (nH hc)]; exact hc)
theorem suiteT (I : Inv X pins σ H s) (a : Addr) : Inv (X.suite a (X.pn ++ pins)) [] σ H s :=
  ⟨I.ok.suite _ _, I.os, I.bare, I.base, I.loc, I.cell, I.free, I.freeC, fun p hp => I.pin p (by rw [List.append_nil] at hp; exact hp), I.hok, I.len⟩
theorem unsuiteT {pn' : List (Addr × Obj)} (I : Inv (X.suite a (X.pn ++ pins)) pn' σ H s) (ok : X.Ok) : Inv X pins σ H s :=
  ⟨ok, I.os, I.bare, I.base, I.loc, I.cell, I.free, I.freeC, fun p hp => I.pin p (List.mem_append_left _ hp), I.hok, I.len⟩
end
/-- what the clause 'except x as n' wishes of an exception of the body: the error is tracked from there on -/
def wX (K : PySem.W.Frag) (c : Value) (i : Nat) (ts : TS) (Wout : WX) (D : Ends) : WX := fun cls d σ H =>
  ∃ b, PySem.W.exmOne K cls c = some b ∧ (b = true → ∀ a, H a = none → ts { nx := fun σ' H' => D.nx (σ'.set i none) H', rt := D.rt, bk := fun σ' H' => D.bk (σ'.set i none) H', ct := fun σ' H' => D.ct (σ'.set i none) H' } (σ.set i (some (.ref a))) (upd H a (xco a cls d))) ∧
    (b = false → Wout cls d σ H)
def tTryX (K : PySem.W.Frag) (c : Value) (i : Nat) (ts : TS) (Wout : WX) (tb : WX → TS) : TS := fun D σ H => tb (wX K c i ts Wout D) D σ H
section
variable {X : Cx} {x n : Str} {c : Value} {i : Nat} {body suite : List Stmt} {b₀ : Stmt} {np pos pos' : Pos} {tb : WX → TS} {ts : TS} {Wout : WX}
theorem ps_tryX (hs : X.stack = X.env :: X.outer) (hf : X.env.frame = some X.env.locals) (hN : X.N.Nodup) (hi : X.N[i]? = some n) (hln : X.env.kindOf n = some .local) (hc : Names X x c) (tk : Takes X Wout)
    (hb : ∀ (W : WX) (pn : List (Addr × Obj)) (xe : Value → Shared → Prop), Takes (X.tr pn xe) W → PassesOwn (model X.prog X.w) X.A X.env xe → PSs (X.tr pn xe) body (tb W))
    (hsu : ∀ (a : Addr) (pn : List (Addr × Obj)), PSs (X.suite a pn) (b₀ :: suite) ts) :
    PS X (.Try body [.ExceptHandler (some (.Name x np)) (some n) (b₀ :: suite) pos'] [] [] pos) (tTryX X.K c i ts Wout tb) := by
  refine ⟨fun pins s σ H D I h => ?_⟩
  have ok := I.ok
  have hfr : X.A.frames = some (X.env :: X.outer) := by rw [ok.frames, hs]
  have hloc : Loc X.env.scope n := .inl hln
  refine wpAny_Try_except ?_
  refine wpAny_mono ((hb (wX X.K c i ts Wout D) (X.pn ++ pins) (fun e s₁ => wpAny (model X.prog X.w) X.A (noteFrame e X.env) (fun _ s₂ => wpAny (model X.prog X.w) X.A (setFlight e none) (fun _ s₃ =>
    wpAny (model X.prog X.w) X.A (handleBy e X.env [.ExceptHandler (some (.Name x np)) (some n) (b₀ :: suite) pos']) (SP X pins D) X.xe s₃) X.xe s₂) X.xe s₁) (fun u s' xx => ?_) PassesOwn.looking).run [] s σ H D (I.toTry _) h) (fun f s1 hsp => ?_) (fun e s1 he => he)
  · -- the catch
    obtain ⟨a, B, sI, pins', σ', H', cls, d, rfl, J', nb, up, sky, na, os, ag, b, hb1, hyes, hno⟩ := xx
    have J : Inv X pins σ' H' sI := J'.ofTry ok
    have sky' : Sky B (X.env :: X.outer) a (Zc cls d) X.env.locals s'.heap := by rw [← hs]; exact sky
    show wpAny (model X.prog X.w) X.A (noteFrame (.ref a) X.env) _ _ _
    refine Sky.land Zc.steady hfr hf sky' fun h3 fl3 up3 => ?_
    have J3 : Inv X pins σ' H' { s' with heap := h3 } := J.landed nb fl3.1 (up.trans up3) os ag
    obtain ⟨oe3, vs3, he3, hz3, hd3⟩ := fl3.there
    have notFr : ∀ {h : Heap} {o : Obj} {vs : Array Value}, h.FunFrames B (X.env :: X.outer) → h.get? a = some o → o.data = .fields vs → a ∉ frs (X.env :: X.outer) := fun {h o vs} ff e dd hm => by
      obtain ⟨_, o', e', hnf⟩ := ff.mem hm
      rw [e] at e'; cases e'
      exact hnf _ dd
    have nfr := notFr fl3.2.2.1 he3 hd3
    have nL : a ≠ X.env.locals := fun z => nfr (List.mem_filterMap.mpr ⟨X.env, List.mem_cons_self, by rw [hf, z]⟩)
    have nF : a ∉ X.fs := fun hm => by
      obtain ⟨e, he, q⟩ := List.mem_filterMap.mp hm
      exact nfr (List.mem_filterMap.mpr ⟨e, List.mem_cons_of_mem _ he, q⟩)
    have nI : sI.heap.get? a = none := by
      cases e : sI.heap.get? a with
      | none => rfl
      | some o =>
        have q := nb a o e (by rw [hs]; exact nfr)
        rw [fl3.2.1] at q; cases q
    have S3 := J3.suite he3 hd3 na nL nF
    refine wpAny_handleBy_cons (codeAny_handlers_test ?_) (by intro q; cases q)
    have LT : PySem.W.Looks (model X.prog X.w) h3 (typeOf (.ref a)) cls := fun A Q E s k q => wpAny_typeOf_ref (k _ _ he3) (by rw [hz3.1]; exact q)
    have LM := PySem.W.exm_one (M := model X.prog X.w) (J3.kIn) LT hb1
    have test : ∀ {Q : Value → Shared → Prop} {E : Value → Shared → Prop}, Q c { s' with heap := h3 } → wpAny (model X.prog X.w) (X.A.mark (some (.ref a))) (eval (.Name x np) X.env) Q E { s' with heap := h3 } := fun {Q E} q => by
      obtain ⟨hg, hdbg, hm | ⟨hm, hv, hnn⟩⟩ := hc
      · exact ld_glob (X := X.suite a ((a, oe3) :: (X.pn ++ pins))) S3 hg hm q hdbg
      · exact ld_blt (X := X.suite a ((a, oe3) :: (X.pn ++ pins))) S3 hg hm hv q hnn hdbg
    refine test (LM.here ?_)
    cases b with
    | true =>
      refine codeAny_handlers_suite_as ?_
      refine HandSPX.lands_againZ fl3 fun h4 fl4 up4 => ?_
      have J4 : Inv X pins σ' H' { s' with heap := h4 } := J.landed nb fl4.1 ((up.trans up3).trans up4) os ag
      obtain ⟨oe4, vs4, he4, hz4, hd4⟩ := fl4.there
      have S4 : Inv (X.suite a (X.pn ++ pins)) [] σ' (upd H' a (xco a cls d)) { s' with heap := h4 } := suiteT (track J J4 nI na (xco_ok he4 hz4 hd4)) a
      refine store_ok (X := X.suite a (X.pn ++ pins)) (v := .ref a) S4 hN hi hloc rfl (fun s5 S5 => ?_) (.inr hln)
      refine wpAny_mono ((hsu a (X.pn ++ pins)).run [] s5 _ _ _ S5 (hyes rfl a na)) (fun f s6 hsp => ?_) (fun _ _ z => False.elim z)
      have end_ : ∀ {σ6 : L2.St} {H6 : Hp} {Q : Shared → Prop}, Inv (X.suite a (X.pn ++ pins)) [] σ6 H6 s6 → (∀ s7, Inv X pins (σ6.set i none) H6 s7 → Q s7) →
          wpAny (model X.prog X.w) X.A (do bindName X.env n .none; unbindBehindTheSuite X.env n pos') (fun _ s7 => Q s7) X.xe s6 := fun {σ6 H6 Q} S6 hq => gone_ok (unsuiteT S6 ok) hN hi hln hq
      cases f with
      | next =>
        obtain ⟨σ6, H6, S6, q6⟩ := hsp
        exact end_ S6 fun s7 J7 => ⟨_, _, J7, q6⟩
      | brk =>
        obtain ⟨σ6, H6, S6, q6⟩ := hsp
        exact end_ S6 fun s7 J7 => ⟨_, _, J7, q6⟩
      | cont =>
        obtain ⟨σ6, H6, S6, q6⟩ := hsp
        exact end_ S6 fun s7 J7 => ⟨_, _, J7, q6⟩
      | ret u =>
        obtain ⟨v6, σ6, H6, S6, r6, q6⟩ := hsp
        exact end_ S6 fun s7 J7 => ⟨_, _, _, J7, r6, q6⟩
    | false =>
      show wpAny _ X.A (handleBy (.ref a) X.env []) _ _ _
      refine wpAny_handleBy_nil ?_
      obtain ⟨k1, k2, k3, oe, vs, T, oT, ts', he, hz, hd, h1, hr⟩ := id fl3
      unfold PySem.passOn
      refine wpAny_bind (wpAny_field he hd h1 ?_)
      rw [if_neg (show ¬ ((Value.ref T == Value.none) = true) from by simp)]
      have fin : wpAny (model X.prog X.w) X.A (setFlight (.ref a) X.env.frame) (fun _ s4 => wpAny (model X.prog X.w) X.A (throw (.ref a) : Sem Flow) (SP X pins D) X.xe s4) X.xe { s' with heap := h3 } := by
        rw [hf]
        refine HandSPX.setFlight_upZ fl3 fun h4 hh4 up4 => wpAny_throw (tk _ _ ?_)
        exact ⟨a, B, sI, pins, σ', H', cls, d, rfl, J, nb, (up.trans up3).trans up4, .inr (.inr (by rw [hs]; exact hh4)), na, os, ag, hno rfl⟩
      first
        | exact wpAny_bind (wpAny_pure (wpAny_bind fin))
        | exact wpAny_bind fin
  · cases f with
    | next =>
      obtain ⟨σ', H', J', q⟩ := hsp
      exact wpAny_execs_nil ⟨σ', H', J'.ofTry ok, q⟩
    | brk =>
      obtain ⟨σ', H', J', q⟩ := hsp
      exact ⟨σ', H', J'.ofTry ok, q⟩
    | cont =>
      obtain ⟨σ', H', J', q⟩ := hsp
      exact ⟨σ', H', J'.ofTry ok, q⟩
    | ret u =>
      obtain ⟨v, σ', H', J', r, q⟩ := hsp
      exact ⟨v, σ', H', J'.ofTry ok, r, q⟩
end
section
variable {K : PySem.W.Frag} {c : Value} {i : Nat} {tb : WX → TS} {ts : TS} {Wout : WX} {D : Ends} {σ : L2.St} {H : Hp} {cls : Value} {d : Option Addr}
theorem go_tryX (h : tb (wX K c i ts Wout D) D σ H) : tTryX K c i ts Wout tb D σ H := h
/-- it is caught -/
theorem go_wX (e : PySem.W.exmOne K cls c = some true) (h : ∀ a H2, H a = none → Ed [] H H2 → H2 a = some (xco a cls d) → ts { nx := fun σ' H' => D.nx (σ'.set i none) H', rt := D.rt, bk := fun σ' H' => D.bk (σ'.set i none) H', ct := fun σ' H' => D.ct (σ'.set i none) H' } (σ.set i (some (.ref a))) H2) : wX K c i ts Wout D cls d σ H :=
  ⟨true, e, fun _ a na => h a _ na (Ed.new na) upd_same, fun q => nomatch q⟩
end
/-! ### isinstance of a tracked error, its fields -/
/-- what the heap tells of the error at a: its class at C, its dict with the fields fs -/
structure ErrAt (H : Hp) (a C : Addr) (fs : List (Str × V)) : Prop where
  ex : ∃ dd, H a = some (xco a (.ref C) (some dd)) ∧ H dd = some (.xd fs)
theorem ErrAt.ed {H H' : Hp} {a C : Addr} {fs : List (Str × V)} {S : List Addr} (e : Ed S H H') (hS : ∀ b ∈ S, ∃ o, H b = some o ∧ (∀ cls d, o ≠ xco a cls d) ∧ ∀ fs, o ≠ .xd fs) (h : ErrAt H a C fs) : ErrAt H' a C fs := by
  obtain ⟨dd, h1, h2⟩ := h
  refine ⟨dd, e.keep _ _ (fun z => ?_) h1, e.keep _ _ (fun z => ?_) h2⟩
  · obtain ⟨o, q, n, _⟩ := hS _ z
    rw [h1] at q; cases q; exact n _ _ rfl
  · obtain ⟨o, q, _, n⟩ := hS _ z
    rw [h2] at q; cases q; exact n _ rfl
theorem ErrAt.ed0 {H H' : Hp} {a C : Addr} {fs : List (Str × V)} (e : Ed [] H H') (h : ErrAt H a C fs) : ErrAt H' a C fs := h.ed e fun _ z => nomatch z
theorem ErrAt.of {H0 H : Hp} {a C dd : Addr} {fs : List (Str × V)} (h1 : H a = some (xco a (.ref C) (some dd))) (e : Ed [] H0 H) (h2 : H0 dd = some (.xd fs)) : ErrAt H a C fs := ⟨dd, h1, e.at0 h2⟩
theorem err_inst {X : Cx} {pins : List (Addr × Obj)} {σ : L2.St} {H : Hp} {s : Shared} {a C : Addr} {fs : List (Str × V)} (I : Inv X pins σ H s) (h : ErrAt H a C fs) : ∃ ox od, PySem.W.InstAt s.heap a ox C (some od) ∧ ∀ f, ∃ mf, PySem.W.lookIn f od = some mf ∧ RelO (fs.lookup f) mf := by
  obtain ⟨dd, h1, h2⟩ := h
  obtain ⟨oe, vs, ho, hz, hd⟩ := xco_at I.hok h1
  have hx : ObjOk X.prog X.w H s.heap dd (.xd fs) := I.hok dd _ h2
  obtain ⟨mA, hns, hr⟩ := hx
  obtain ⟨od, hod, hl⟩ := lookIn_ns hns
  exact ⟨oe, od, ⟨ho, hz.1, by unfold PySem.W.notCls; rw [hd] <;> rfl, by rw [hz.2]; exact hod⟩, fun f => ⟨mA f, hl f, hr f⟩⟩
/-- isinstance(e, C), e a tracked error -/
def rIsT (K : PySem.W.Frag) : List V → Hp → VK → Prop := fun xs H Q => ∃ (a D : Addr) (fs : List (Str × V)) (c : V) (cv : Value) (b : Bool), ErrAt H a D fs ∧ ExcC K D ∧ xs = [.ref a, c] ∧ (∀ u, RelV c u → u = cv) ∧ PySem.W.kitOne K (.ref D) cv = some b ∧ Q (.bl b) H
theorem err_clsIn {K : PySem.W.Frag} {D : Addr} (C : ExcC K D) : (PySem.W.clsIn K D).isSome = true := by obtain ⟨cd, hc, _⟩ := PySem.W.any_some C.hd; rw [hc]; rfl
theorem call_isT {X : Cx} : CallR X (.builtin "isinstance") (rIsT X.K) := by
  intro pins s σ H xs us Q I r h
  obtain ⟨a, D, fs, c, cv, b, hE, C, rfl, hcv, e, q⟩ := h
  cases r with
  | cons rx rr =>
    cases rr with
    | cons rt rr =>
      cases rr
      cases rx
      have ec := hcv _ rt
      subst ec
      obtain ⟨ox, od, J, _⟩ := err_inst I hE
      exact PySem.W.kia_one (PySem.W.kitx_exc (err_clsIn C) C.hg C.hk C.hs C.ha C.hn C.ht C.hm) I.kIn J e (fun z => nomatch z) fun tk => ⟨.bl b, H, I.tok tk, rfl, q⟩
/-- isinstance(e, (C1, C2, ..)) -/
def rIsTT (K : PySem.W.Frag) : List V → Hp → VK → Prop := fun xs H Q => ∃ (a D tp : Addr) (fs : List (Str × V)) (cs : List V) (ws : List Value) (b : Bool), ErrAt H a D fs ∧ ExcC K D ∧ xs = [.ref a, .ref tp] ∧ H tp = some (.tup cs) ∧ (∀ us, Vals cs us → us = ws) ∧ PySem.W.kitAny K (.ref D) ws = some b ∧ Q (.bl b) H
theorem call_isTT {X : Cx} : CallR X (.builtin "isinstance") (rIsTT X.K) := by
  intro pins s σ H xs us Q I r h
  obtain ⟨a, D, tp, fs, cs, ws, b, hE, C, rfl, hT, hcv, e, q⟩ := h
  cases r with
  | cons rx rr =>
    cases rr with
    | cons rt rr =>
      cases rr
      cases rx
      cases rt
      obtain ⟨ox, od, J, _⟩ := err_inst I hE
      obtain ⟨_, its, rv, o, h1, h2, n, h3⟩ := (show ObjOk X.prog X.w H s.heap tp (.tup cs) from I.hok tp _ hT)
      have e3 := hcv _ rv
      subst e3
      obtain ⟨oc, od', dt, sl⟩ := o
      simp only at h2 h3
      subst h2 h3
      exact PySem.W.kia_tup (PySem.W.kitx_exc (err_clsIn C) C.hg C.hk C.hs C.ha C.hn C.ht C.hm) I.kIn J h1 e (fun z => nomatch z) fun tk => ⟨.bl b, H, I.tok tk, rfl, q⟩
/-- e.f -/
def tXfT (K : PySem.W.Frag) (f : Str) (te : TE) : TE := fun σ H Q => te σ H fun x H1 => ∃ (a C : Addr) (fs : List (Str × V)) (v : V), x = .ref a ∧ ErrAt H1 a C fs ∧ XfC K C ∧ PySem.W.findIn K (.ref C) f = some none ∧ fs.lookup f = some v ∧ Q v H1
theorem pe_xfT {X : Cx} {e : Expr} {te : TE} {pos : Pos} {n : Str} (he : PE X e te) (hb : attributeBase e n X.env (eval e X.env) = eval e X.env := by rfl) : PE X (.Attribute e n pos) (tXfT X.K n te) := by
  refine ⟨fun pins s σ H Q I h => ?_⟩
  refine attr_of hb (thn (he.run pins s σ H _ I h) fun u s1 hh => ?_)
  obtain ⟨x, H1, I1, rx, a, C, fs, v, ex, hE, T, hno, l, q⟩ := hh
  subst ex
  obtain rfl : u = Value.ref a := rx
  obtain ⟨ox, od, J, hl⟩ := err_inst I1 hE
  obtain ⟨mf, hm, hr⟩ := hl n
  obtain ⟨u, hu, ru⟩ := RelO.some_of (v := v) (o := mf) (by rw [← l]; exact hr)
  exact HandSPX.exc_get I1.kIn J T.ga T.gg T.exC (PySem.W.findObj_own T.hdC hno rfl (by rw [hm, hu])) (handed_of ru) ⟨v, H1, I1.tok _, ru, q⟩
section
variable {K : PySem.W.Frag} {a D : Addr} {fs : List (Str × V)} {H : Hp} {Q : VK} {b : Bool}
theorem go_isTC {c : Addr} (hE : ErrAt H a D fs) (C : ExcC K D) (hk : PySem.W.kitOne K (.ref D) (.ref c) = some b) (q : Q (.bl b) H) : rIsT K [.ref a, .ref c] H Q :=
  ⟨a, D, fs, .ref c, .ref c, b, hE, C, rfl, fun _ r => r, hk, q⟩
theorem go_isTT {t : String} (hE : ErrAt H a D fs) (C : ExcC K D) (hk : PySem.W.kitOne K (.ref D) (.type t) = some b) (q : Q (.bl b) H) : rIsT K [.ref a, .ty t] H Q :=
  ⟨a, D, fs, .ty t, .type t, b, hE, C, rfl, fun _ r => r, hk, q⟩
theorem go_xfT {f : Str} {te : TE} {σ : L2.St} (h : te σ H fun x H1 => ∃ (a C : Addr) (fs : List (Str × V)) (v : V), x = .ref a ∧ ErrAt H1 a C fs ∧ XfC K C ∧ PySem.W.findIn K (.ref C) f = some none ∧ fs.lookup f = some v ∧ Q v H1) : tXfT K f te σ H Q := h
theorem go_xfTV {f : Str} {v : V} {R : V → Prop} (hE : ErrAt H a D fs) (T : XfC K D) (no : PySem.W.findIn K (.ref D) f = some none) (l : fs.lookup f = some v) (h : R v) :
    ∃ (a' C : Addr) (fs : List (Str × V)) (v : V), V.ref a = .ref a' ∧ ErrAt H a' C fs ∧ XfC K C ∧ PySem.W.findIn K (.ref C) f = some none ∧ fs.lookup f = some v ∧ R v := ⟨a, D, fs, v, rfl, hE, T, no, l, h⟩
end
/-! ### defs that are also called while an error is being handled (they raise nothing) -/
structure FnHt (P : Program) (w : World) (K : PySem.W.Frag) (mg : Str → Option Value) (base : Heap) (k : Nat) (f : Addr) (fd : FuncData) (ps : List Str) (sp : Sp) : Prop where
  len : ∀ vs H Q E, sp vs H Q E → vs.length = ps.length
  run : ∀ (A : Around) (outer : List Env) (s : Shared) (H : Hp) (args : Args) (us : List Value) (vs : List V) (Q : VK) (E : XK), L2H.RoomH k A → Env0 P w K mg base A outer s H → BindsTo s fd args (ps.zip us) → Vals vs us → sp vs H Q E →
    codeAny (model P w) A (.call (.ref f) args) (CR CX0 outer P w H s Q E) s
theorem FnHt.ok {P : Program} {w : World} {K : PySem.W.Frag} {mg : Str → Option Value} {base : Heap} {k : Nat} {f : Addr} {fd : FuncData} {ps : List Str} {sp : Sp} (F : FnHt P w K mg base k f fd ps sp) : FnOk P w K mg base CX0 k f fd ps sp :=
  ⟨F.len, fun A outer s H args us vs Q E hr => F.run A outer s H args us vs Q E (L2H.roomH_of hr)⟩
/-- the context of such a def's body -/
def cxT (P : Program) (w : World) (K : PySem.W.Frag) (mg : Str → Option Value) (base : Heap) (N : List Str) (qual : Str) (scope : Scope) (f : Addr) (cd : Value) (A : Around) (outer : List Env) (s : Shared) (H : Hp) (E : XK) : Cx :=
  { cxOf CX0 P w K mg base N qual scope f cd A outer s H E with calm := false }
theorem inv_startT {P : Program} {w : World} {K : PySem.W.Frag} {mg : Str → Option Value} {base : Heap} {N ps : List Str} {qual : Str} {scope : Scope} {f : Addr} {cd : Value} {A : Around} {outer : List Env} {s s1 : Shared} {H : Hp} {E : XK} {us : List Value} {vs : List V}
    (S : FnScope N ps scope) (e0 : Env0 P w K mg base A outer s H) (hl : vs.length = ps.length) (r : Vals vs us)
    (x : InCallC s s.heap.objs.size (bindL (envOfC qual scope s.heap.objs.size f cd).kindOf (ps.zip us) fun _ => none) (cellsFrom (s.heap.objs.size + 1) scope.names []) (bindC (envOfC qual scope s.heap.objs.size f cd).kindOf (ps.zip us) fun _ => none) s1) :
    Inv (cxT P w K mg base N qual scope f cd A outer s H E) [] (L2.start N vs) H s1 := by
  have hpl : ps.length ≤ N.length := by have := congrArg List.length S.pre; rw [List.length_take] at this; omega
  obtain ⟨h1, tk, rfl, hk⟩ := x.done
  have noA : ∀ b : Addr, b ∉ (cxT P w K mg base N qual scope f cd A outer s H E).ex := fun b z => absurd (show b ∈ ([] : List Addr) from z) (by simp)
  refine ⟨⟨e0.mod, S.kind, rfl, rfl, Nat.le_refl _, fun y z c h1 h2 => ?_, fun y hy => ?_, fun y c _ h => ?_, (fun z => Bool.noConfusion (show false = true from z)), Around.frames_deeper e0.frames, .inr ⟨rfl, rfl⟩, fun b z => absurd z (noA b), e0.bs, e0.bsz, fun b _ _ => noA b, fun b z => absurd z (noA b), e0.funs, e0.frf⟩,
    rfl, e0.bare, Un.kept hk, ⟨_, x.toInCall.ns, fun i y v h1 h2 h3 => ?_⟩, fun y c h => ⟨_, x.cell y c h⟩, e0.hok.fresh (Nat.le_refl _), fun y c h => ?_, fun q hq => ?_, e0.hok.kept hk, ?_⟩
  · exact name_of_addr x.apart (PySem.mem_of_lookup h1) (PySem.mem_of_lookup h2)
  · have hy : scope.names.lookup y = some .cell ∨ scope.names.lookup y = some .free := hy
    rcases hy with hy | hy
    · exact cell_has hy
    · exact absurd rfl (S.nofree _ (PySem.mem_of_lookup hy))
  · exact Nat.le_of_lt (x.above y c (PySem.mem_of_lookup h))
  · have hi : i < vs.length := by
      unfold L2.start at h2
      by_cases hi : i < vs.length
      · exact hi
      · rw [List.getElem?_append_right (by simpa using hi)] at h2
        rw [List.getElem?_replicate] at h2
        split at h2 <;> cases h2
    have ha : vs[i]? = some v := by
      unfold L2.start at h2
      rw [List.getElem?_append_left (by simpa using hi), List.getElem?_map] at h2
      cases e : vs[i]? with
      | none => rw [e] at h2; cases h2
      | some a => rw [e] at h2; cases h2; rfl
    obtain ⟨u, hu, rv⟩ := r.get ha
    have hp : ps[i]? = some y := by
      rw [← S.pre, List.getElem?_take_of_lt (by omega)]; exact h1
    have ndP : ps.Nodup := by rw [← S.pre]; exact S.nd.sublist (List.take_sublist _ _)
    refine ⟨u, rv, ?_⟩
    rcases S.par y (List.mem_of_getElem? hp) with k | k
    · exact .inl ⟨k, bindL_get ndP hp hu k⟩
    · obtain ⟨c, e⟩ := cell_has (n := s.heap.objs.size + 1) k
      refine .inr ⟨.inl k, c, e, ?_⟩
      have q := x.cell y c e
      rw [bindC_get ndP hp hu (by show scope.names.lookup y ≠ _; rw [k]; decide)] at q
      exact q
  · exact e0.hok.fresh (Nat.le_of_lt (x.above y c (PySem.mem_of_lookup h)))
  · exact absurd (show q ∈ ([] : List (Addr × Obj)) from hq) (by simp)
  · unfold L2.start
    show _ = N.length
    rw [List.length_append, List.length_map, List.length_replicate]
    omega
theorem Fun.okH {P : Program} {w : World} {K : PySem.W.Frag} {mg : Str → Option Value} {base : Heap} {x qual : Str} {st : Stmt} {f : Addr} {fd : FuncData} {N ps : List Str} {k : Nat} {sp : Sp} (F : Fun K x qual st f fd) (S : FnScope N ps (defScope st)) (len : ∀ vs H Q E, sp vs H Q E → vs.length = ps.length)
    (hbody : ∀ (cdv : Value) (A : Around) (outer : List Env) (s : Shared) (H : Hp) (vs : List V) (Q : VK) (E : XK), L2H.RoomH k (A.deeper (envOfC qual (defScope st) s.heap.objs.size f cdv)) → sp vs H Q E →
      ∃ t, PSs (cxT P w K mg base N qual (defScope st) f cdv A outer s H E).nox (defBody st) t ∧ t { nx := fun _ H' => Q .non H', rt := Q } (L2.start N vs) H) : FnHt P w K mg base (k + 1) f fd ps sp := by
  obtain ⟨oc, od, kV, doc, pm, an, cdv, ct, osl, rfl, lk, hcd⟩ := F.ex
  refine ⟨len, fun A outer s H args us vs Q E hr e0 hb r hsp => ?_⟩
  have hl := len _ _ _ _ hsp
  have KX : K.In s.heap := e0.mod.kin.keeps fun b o e => (e0.bs b o e).1
  have lim : s.heap.NoLimit := e0.mod.nolimit.keeps fun b o e => (e0.bs b o e).1
  have hkind : ∀ y ∈ ps.zip us, (defScope st).names.lookup y.1 = some .local ∨ ((defScope st).names.lookup y.1 = some .cell ∧ ((cellsFrom (s.heap.objs.size + 1) (defScope st).names []).lookup y.1).isSome = true) := fun ⟨n, v⟩ hy => by
    rcases S.par n (List.of_mem_zip hy).1 with q | q
    · exact .inl q
    · exact .inr ⟨q, PySem.W.cellsFrom_some _ _ _ (.inl q)⟩
  refine codeAny_call_function hr.depth (KX _ _ lk) rfl S.co S.gen rfl (PySem.W.codeRec_of KX hcd) (hb _ _ _ _ ?_)
  refine wpAny_newFunctionEnv_cells S.kind hkind fun env he s1 x => ?_
  subst he
  refine ⟨lim.keeps x.toInCall.keep, codeAny_func ?_⟩
  obtain ⟨t, ht0, hq⟩ := hbody cdv A outer s H vs Q E (hr.deeper _) hsp
  have ht := ht0.nox
  have I : Inv (cxT P w K mg base N qual (defScope st) f cdv A outer s H E) [] (L2.start N vs) H s1 := inv_startT S e0 hl r x
  refine wpAny_mono (ht.run [] s1 (L2.start N vs) H _ I hq) (fun fl s' hs => ?_) fun e s' hs => hs
  have fin : ∀ {σ' : L2.St} {H' : Hp} {v : V} {u : Value}, Inv (cxT P w K mg base N qual (defScope st) f cdv A outer s H E) [] σ' H' s' → RelV v u → Q v H' → CE outer P w H s Q u s' :=
    fun {σ' H' v u} J rv q => ⟨v, H', J.os, J.bare, J.base, J.hok, rv, q⟩
  cases fl with
  | ret u =>
    obtain ⟨v, σ', H', J, rv, q⟩ := hs
    exact fin J rv q
  | next =>
    obtain ⟨σ', H', J, q⟩ := hs
    exact fin (v := V.non) (u := Value.none) J rfl q
  | brk =>
    obtain ⟨_, _, _, q⟩ := hs
    exact False.elim q
  | cont =>
    obtain ⟨_, _, _, q⟩ := hs
    exact False.elim q
section
variable {X : Cx} {k : Nat} {f : Addr} {fd : FuncData} {ps : List Str} {sp : Sp} {x : Str} {q pos : Pos} {e : Expr} {es : List Expr} {t : TA}
/-- f(e, ..), also while an error is being handled -/
theorem pe_callT (F : FnHt X.prog X.w X.K X.mg X.base k f fd ps sp) (hr : L2H.RoomH k X.A) (hg : Gl X x) (hm : X.mg x = some (.ref f)) (hk : PySem.W.keepIn X.K (.ref f) = true) (hb : Binds X.K fd ps [])
    (ha : PA X (e :: es) t) (hdb : (x == ("__debug__" : Str)) = false := by decide) (he : starEach (e :: es) X.env = (false, eval e X.env) :: starEach es X.env := by rfl) (hpl : (backTo pos (starEach es X.env)).any (·.1) = false := by rfl) :
    PE X (.Call (.Name x q) (e :: es) [] pos) (tCall sp [] E0 t) := by
  refine ⟨fun pins s σ H Q I h => ?_⟩
  refine wpAny_Call_Name_kw (ld_glob I hg hm ?_ hdb)
  refine PySem.W.callWith_K (h₀ := X.base) I.ok.mod.kin hk (thn (ha.run pos pins s σ H _ I h) fun us s1 ⟨vs, H1, I1, r, q⟩ => ⟨I1.kIn, ?_⟩) he hpl
  have q : sp (vs ++ []) H1 Q E0 := q
  rw [List.append_nil] at q
  have hl : us.length = ps.length := by rw [← r.length]; exact F.len _ _ _ _ q
  have b := hb s1 us I1.kIn (by rw [List.append_nil]; exact hl)
  rw [List.append_nil] at b
  refine wpAny_call (codeAny_mono (F.run X.A X.stack s1 H1 ⟨us, []⟩ us vs Q E0 hr I1.env0 b r q) fun r s' hq => ?_)
  cases r with
  | error e => exact hq.elim
  | ok fl =>
    cases fl with
    | ret u => exact I1.after hq
    | next => exact False.elim hq
    | brk => exact False.elim hq
    | cont => exact False.elim hq
end
theorem roomH_mark {k : Nat} {A : Around} {v : Option Value} (r : L2H.RoomH k A) : L2H.RoomH k (A.mark v) := ⟨r.dp, r.un⟩
/-- the same, the written part named (in an except suite the reading may not name the suite's own place) -/
theorem call_isTK {X : Cx} {K : PySem.W.Frag} (h : X.K = K) : CallR X (.builtin "isinstance") (rIsT K) := h ▸ call_isT
theorem pe_xfTK {X : Cx} {K : PySem.W.Frag} {e : Expr} {te : TE} {pos : Pos} {n : Str} (h : X.K = K) (he : PE X e te) (hb : attributeBase e n X.env (eval e X.env) = eval e X.env := by rfl) : PE X (.Attribute e n pos) (tXfT K n te) := h ▸ pe_xfT he hb
end Vc

/-! Xo: operators of own classes: ==, a property stored (my own; ways of HandS.OwnEq and HandS.Property). -/
namespace Vc
open PySem PySem.Spec PyProof.Rows L2
/-! ### a == b by a's own __eq__ -/
structure EqM (K : PySem.W.Frag) (C g : Addr) : Prop where
  at_ : PySem.W.findIn K (.ref C) "__eq__" = some (some (.ref g))
  fn : PySem.W.isFn K (.ref g) = true
def rEqO (K : PySem.W.Frag) (C : Addr) (sp : Sp) : R2 := fun x y H Q => ∃ (a dx : Addr) (fs : List (Str × V)) (t : Value), x = .ref a ∧ H a = some (.ins C dx fs) ∧ TyX K H y t ∧ PySem.W.notFirst K C t = true ∧ sp [x, y] H (fun v H' => ∃ b, v = .bl b ∧ Q (.bl b) H') E0
theorem op_eqO {X : Cx} {C g : Addr} {fd : FuncData} {ps : List Str} {sp : Sp} {n : Nat} (F : FnOk X.prog X.w X.K X.mg X.base CX0 n g fd ps sp) (hr : Room n X.A) (m : EqM X.K C g) (hb : Binds X.K fd ps []) : OpR X (compareOp .Eq) (rEqO X.K C sp) := by
  intro pins s σ H x y v u Q I rx ry hq
  obtain ⟨a, dx, fs, t, rfl, ha, ty, nf, q⟩ := hq
  cases rx
  show wpAny (model X.prog X.w) X.A (richCompare .Eq (.ref a) u) (EP X pins σ Q) X.xe s
  obtain ⟨mA, J, _⟩ := ins_get I.hok ha
  obtain ⟨od, J, _⟩ := J.look
  obtain ⟨_, Z, p, _⟩ := kit_of I ry ty
  obtain ⟨mm, hF⟩ := I.fr
  refine PySem.W.cmp_K (op := .Eq) (tb := t) hr.units0 hF I.ok.mod.kin J (Z.ty _ _ I.kIn p) nf m.at_ m.fn ?_
  have hl := F.len _ _ _ _ q
  have r2 : Vals [V.ref a, y] [Value.ref a, u] := .cons rfl (.cons ry .nil)
  have hb' := hb s [.ref a, u] I.kIn (by simpa using hl)
  rw [List.append_nil] at hb'
  refine wpAny_call (codeAny_mono (F.run X.A X.stack s H ⟨[.ref a, u], []⟩ [.ref a, u] [.ref a, y] _ E0 hr I.env0 hb' r2 q) fun r s' hq => ?_)
  cases r with
  | error e => exact hq.elim
  | ok fl =>
    cases fl with
    | ret w =>
      obtain ⟨z, H', I', rz, b, ez, qz⟩ := I.after hq
      subst ez
      cases rz
      exact ⟨.bl b, H', I', rfl, qz⟩
    | next => exact False.elim hq
    | brk => exact False.elim hq
    | cont => exact False.elim hq
/-! ### o.f = e, f a property with a setter -/
structure PropSet (K : PySem.W.Frag) (C : Addr) (f : Str) (p g : Addr) : Prop where
  tk : PySem.W.takerIn K C f = some (some (.ref p))
  ty : PySem.W.typeIn K (.ref p) = some (.type "property")
  rec_ : ∃ a rest, PySem.W.recIn K p "property" = some (a :: .ref g :: rest)
def tSetP (C : Addr) (sp : Sp) (E : L2.St → XK) (to te : TE) : TS := fun D σ H => te σ H fun y H1 => to σ H1 fun x H2 => ∃ (a dx : Addr) (fs : List (Str × V)), x = .ref a ∧ H2 a = some (.ins C dx fs) ∧ sp [.ref a, y] H2 (fun _ H3 => D.nx σ H3) (E σ)
theorem ps_fldP {X : Cx} {CX : CXT} {C p g : Addr} {f : Str} {fd : FuncData} {ps : List Str} {sp : Sp} {n : Nat} {E : L2.St → XK} {o e : Expr} {to te : TE} {p' pos : Pos} (c : Cls X.K C) (m : PropSet X.K C f p g) (F : FnOk X.prog X.w X.K X.mg X.base CX n g fd ps sp) (hr : Room (n + 2) X.A) (hb : Binds X.K fd ps []) (hx : ∀ σ, PassesAt CX X σ (E σ))
    (ho : PE X o to) (he : PE X e te) (hs : swapsWith e (some (.Attribute o f p')) pos.line X.env = pure false := by rfl) : PS X (.Assign [.Attribute o f p'] e pos) (tSetP C sp E to te) := by
  refine ⟨fun pins s σ H D I h => ?_⟩
  refine plainObj_wpAny_Assign_Attribute (thn (he.run pins s σ H _ I h) fun v s1 ⟨y, H1, I1, r1, q1⟩ => thn (ho.run pins s1 σ H1 _ I1 q1) fun u s2 ⟨x, H2, I2, r2, a, dx, fs, ex, ea, q⟩ => ?_) hs
  subst ex
  obtain rfl : u = Value.ref a := r2
  obtain ⟨mA, J, _⟩ := ins_get I2.hok ea
  obtain ⟨od, J, _⟩ := J.look
  obtain ⟨mm, hF⟩ := I2.fr
  obtain ⟨b, rest, hrec⟩ := m.rec_
  have I3 := I2.tok (s2.toks + 1)
  have hl := F.len _ _ _ _ q
  have hb' := hb { s2 with toks := s2.toks + 1 } [.ref a, v] I3.kIn (by simpa using hl)
  rw [List.append_nil] at hb'
  refine PySem.W.set_prop hF I.ok.mod.kin J c.sa c.po m.tk m.ty hrec ?_
  refine codeAny_mono (F.run X.A.in1.in1 X.stack { s2 with toks := s2.toks + 1 } H2 ⟨[.ref a, v], []⟩ [.ref a, v] [.ref a, y] _ (E σ) hr.in1.in1 I3.env0.in1.in1 hb' (.cons rfl (.cons r1 .nil)) q) fun r s' hq => ?_
  cases r with
  | error er => exact hx σ pins H2 { s2 with toks := s2.toks + 1 } er s' I3 hq
  | ok fl =>
    cases fl with
    | ret w =>
      obtain ⟨z, H', I', rz, qz⟩ := I3.after hq
      exact ⟨σ, H', I', qz⟩
    | next => exact False.elim hq
    | brk => exact False.elim hq
    | cont => exact False.elim hq
section
variable {K : PySem.W.Frag} {H : Hp} {Q : VK} {a C dx : Addr} {fs : List (Str × V)} {y : V} {t : Value} {sp : Sp}
theorem go_eqO (ha : H a = some (.ins C dx fs)) (ty : TyX K H y t) (nf : PySem.W.notFirst K C t = true) (h : sp [.ref a, y] H (fun v H' => ∃ b, v = .bl b ∧ Q (.bl b) H') E0) : rEqO K C sp (.ref a) y H Q := ⟨a, dx, fs, t, rfl, ha, ty, nf, h⟩
theorem go_setP {E : L2.St → XK} {to te : TE} {D : Ends} {σ : L2.St} (h : te σ H fun y H1 => to σ H1 fun x H2 => ∃ (a dx : Addr) (fs : List (Str × V)), x = .ref a ∧ H2 a = some (.ins C dx fs) ∧ sp [.ref a, y] H2 (fun _ H3 => D.nx σ H3) (E σ)) : tSetP C sp E to te D σ H := h
theorem go_setPV {R : Addr → Prop} (ha : H a = some (.ins C dx fs)) (h : R a) : ∃ (a' dx : Addr) (fs : List (Str × V)), V.ref a = .ref a' ∧ H a' = some (.ins C dx fs) ∧ R a' := ⟨a, dx, fs, rfl, ha, h⟩
theorem ty_ins (ha : H a = some (.ins C dx fs)) (c : C8.InsC K C) : TyX K H (.ref a) (.ref C) := .base (.ins ha c.cl c.ha c.hn c.htk c.hm)
theorem go_isiC {x : V} {c : Addr} {b : Bool} (ht : TyX K H x t) (hk : PySem.W.kitOne K t (.ref c) = some b) (h : Q (.bl b) H) : rIsi K [x, .ref c] H Q := ⟨x, .ref c, t, .ref c, b, rfl, .own c, ht, hk, h⟩
end
/-! ### defaults -/
section
variable {K : PySem.W.Frag} {x qual : Str} {params : Arguments} {body : List Stmt} {scope : Scope} {dvs : List V} {kws : List (Str × V)} {f : Addr} {fd : FuncData} {ps ks : List Str}
theorem bindsAll (F : FunD K x qual params body scope dvs kws f fd) (hd : dvs ≠ [])
    (h : ∀ (T : Addr) (kV doc pm : Value) (an : Option Addr) (cdv ct : Value) (us its : List Value), us.length = ps.length → its.length = dvs.length →
      ∃ k, bindArgs (PySem.W.fnOf x qual params body scope (.ref T) kV doc pm an cdv ct) ⟨us, []⟩ = seqItems? (.ref T) >>= k ∧ k (some its.toArray) = pure (ps.zip us)) : Binds K fd ps [] := by
  obtain ⟨ds, r, b⟩ := F.binds1 (ps := ps) ps.length dvs.length hd (by rw [Nat.sub_self, Nat.add_zero]) (fun T kV doc pm an cdv ct us its l1 l2 => by
    obtain ⟨k, e1, e2⟩ := h T kV doc pm an cdv ct us its l1 l2
    exact ⟨k, e1, by rw [List.drop_of_length_le (Nat.le_of_eq l2), List.append_nil]; exact e2⟩)
  rw [List.drop_of_length_le (Nat.le_refl _)] at r
  cases r
  exact b
theorem kbindsD (F : FunD K x qual params body scope dvs kws f fd) (hd : dvs ≠ []) (g : {α : Type} → List α → List α → List α → List α)
    (hrel : ∀ {vs ds zs : List V} {us its ws : List Value}, Vals ds its → Vals vs us → Vals zs ws → Vals (g ds vs zs) (g its us ws))
    (h : ∀ (T : Addr) (kV doc pm : Value) (an : Option Addr) (cdv ct : Value) (us its ws : List Value), its.length = dvs.length → (g its us ws).length = ps.length →
      ∃ k, bindArgs (PySem.W.fnOf x qual params body scope (.ref T) kV doc pm an cdv ct) ⟨us, ks.zip ws⟩ = seqItems? (.ref T) >>= k ∧ k (some its.toArray) = pure (ps.zip (g its us ws))) :
    ∃ its : List Value, KBinds K fd ps ks (g its) (g dvs) := by
  obtain ⟨oc, od, dV, kV, doc, pm, an, cdv, ct, osl, rfl, lk, hcd, hD, hK⟩ := F.ex
  rcases hD with ⟨e, _⟩ | ⟨_, T, o, its, m, rfl, lT, oT, rT⟩
  · exact absurd e hd
  · refine ⟨its, ⟨fun s us ws X hl => ?_, fun r1 r2 => hrel rT r1 r2⟩⟩
    obtain ⟨k, e1, e2⟩ := h T kV doc pm an cdv ct us its ws rT.length.symm hl
    refine BindsTo.of_looks fun M => ?_
    rw [e1]
    exact looks_items X lT oT (.of_pure e2)
end
/-! ### C(k = v, ..) -/
def tMakeK (C : Addr) (sp : Sp) (gV : List V → List V → List V) (E : XK) (tk : TA) : TE := fun σ H Q => tk σ H fun zs H2 => ∀ x dx, H2 x = none → H2 dx = none → dx ≠ x → sp (gV [.ref x] zs) (upd (upd H2 dx (.own x)) x (.ins C dx [])) (fun v H3 => v = .non ∧ Q (.ref x) H3) E
section
variable {X : Cx} {CX : CXT} {k : Nat} {f C : Addr} {fd : FuncData} {ps ks : List Str} {sp : Sp} {E : XK} {x : Str} {p pos : Pos} {kws : List Keyword} {tk : TA} {g : List Value → List Value → List Value} {gV : List V → List V → List V}
theorem pe_makeK0 (M : Mk X.K C f) (F : FnOk X.prog X.w X.K X.mg X.base CX k f fd ps sp) (hr : Room (k + 1) X.A) (hg : Gl X x) (hm : X.mg x = some (.ref C)) (hb : KBinds X.K fd ps ks g gV) (hx : Passes CX X E)
    (hkw : PK X kws tk) (hall : (backToKw pos (keywordEach kws X.env)).all (·.1.isSome) = true := by rfl) (hks : (backToKw pos (keywordEach kws X.env)).filterMap (·.1) = ks := by rfl)
    (hdb : (x == ("__debug__" : Str)) = false := by decide)
    (hpl : ((backTo pos (starEach [] X.env)).any (·.1) || (backToKw pos (keywordEach kws X.env)).any (·.1.isNone)) = false := by rfl) :
    PE X (.Call (.Name x p) [] kws pos) (tMakeK C sp gV E tk) := by
  refine ⟨fun pins s σ H Q I h => ?_⟩
  refine wpAny_Call_Name_kw (ld_glob I hg hm ?_ hdb)
  refine PySem.W.callWith_KW0 (h₀ := X.base) I.ok.mod.kin M.kp hall (thn (hkw.run pos pins s σ H _ I h) fun ws s2 ⟨zs, H2, I2, rz, q2⟩ => ⟨I2.kIn, ?_⟩) hpl
  rw [hks]
  show wpAny _ _ (call (.ref C) [] (ks.zip ws)) _ _ _
  have hq := q2 (s2.heap.objs.size + 1) s2.heap.objs.size (I2.hok.fresh (Nat.le_succ _)) (I2.hok.fresh (Nat.le_refl _)) (Nat.ne_of_lt (Nat.lt_succ_self _))
  have I3 := Inv.made (C := C) I2
  have r1 : Vals [V.ref (s2.heap.objs.size + 1)] [Value.ref (s2.heap.objs.size + 1)] := .cons rfl .nil
  have r2 := hb.rel r1 rz
  have hl : (g [Value.ref (s2.heap.objs.size + 1)] ws).length = ps.length := by rw [← r2.length]; exact F.len _ _ _ _ hq
  refine wpAny_call (make_map (f := f) I2.kIn M.makes M.init (beq_iff_eq.mp M.fn) (codeAny_mono (F.run _ X.stack _ _ ⟨[Value.ref (s2.heap.objs.size + 1)], ks.zip ws⟩ (g [Value.ref (s2.heap.objs.size + 1)] ws) _ _ E (hr.make C [] (ks.zip ws))
    (I3.env0.make C [] (ks.zip ws)) (hb.to _ [Value.ref (s2.heap.objs.size + 1)] ws I3.kIn hl) r2 hq) fun r s' hq' => ?_))
  cases r with
  | error e => exact hx pins σ _ _ e s' I3 hq'
  | ok fl =>
    cases fl with
    | ret u =>
      obtain ⟨v, H', I4, rv, ev, q3⟩ := I3.after hq'
      subst ev
      exact ⟨rv, ⟨V.ref (s2.heap.objs.size + 1), H', I4, rfl, q3⟩⟩
    | next => exact False.elim hq'
    | brk => exact False.elim hq'
    | cont => exact False.elim hq'
end
theorem go_makeK {C : Addr} {sp : Sp} {gV : List V → List V → List V} {E : XK} {tk : TA} {σ : L2.St} {H : Hp} {Q : VK} (h : tk σ H fun zs H2 => ∀ x dx, H2 x = none → H2 dx = none → dx ≠ x → sp (gV [.ref x] zs) (upd (upd H2 dx (.own x)) x (.ins C dx [])) (fun v H3 => v = .non ∧ Q (.ref x) H3) E) : tMakeK C sp gV E tk σ H Q := h
theorem go_make0 {C : Addr} {sp : Sp} {dvs : List V} {E : XK} {σ : L2.St} {H : Hp} {Q : VK} (h : ∀ x dx, H x = none → H dx = none → dx ≠ x → sp (.ref x :: dvs) (upd (upd H dx (.own x)) x (.ins C dx [])) (fun v H2 => v = .non ∧ Q (.ref x) H2) E) : tMake C sp dvs E tNil σ H Q := h
end Vc

/-! Xq: own classes asked by built-in ways: len(x), y in x (my own; over the library's len_K, in_K). -/
namespace Vc
open PySem PySem.Spec PyProof.Rows L2
section
variable {X : Cx} {C g : Addr} {fd : FuncData} {ps : List Str} {sp : Sp} {n : Nat}
/-- an own special method that promises no error, run -/
theorem runO {A : Around} {pins : List (Addr × Obj)} {σ : L2.St} {s : Shared} {H : Hp} {us : List Value} {vs : List V} {Q : VK} {EE : Value → Shared → Prop} (F : FnOk X.prog X.w X.K X.mg X.base CX0 n g fd ps sp) (hr : Room n A) (hb : Binds X.K fd ps [])
    (I : Inv X pins σ H s) (env0 : Env0 X.prog X.w X.K X.mg X.base A X.stack s H) (r2 : Vals vs us) (q : sp vs H Q E0) :
    wpAny (model X.prog X.w) A (call (.ref g) us) (fun u s' => ∃ z H', Inv X pins σ H' s' ∧ RelV z u ∧ Q z H') EE s := by
  have hl := F.len _ _ _ _ q
  have hb' := hb s us I.kIn (by rw [List.append_nil, ← r2.length]; exact hl)
  rw [List.append_nil] at hb'
  refine wpAny_call (codeAny_mono (F.run A X.stack s H ⟨us, []⟩ us vs _ E0 hr env0 hb' r2 q) fun r s' hq => ?_)
  cases r with
  | error e => exact hq.elim
  | ok fl =>
    cases fl with
    | ret w =>
      obtain ⟨z, H', I', rz, qz⟩ := I.after hq
      exact ⟨z, H', I', rz, qz⟩
    | next => exact False.elim hq
    | brk => exact False.elim hq
    | cont => exact False.elim hq
/-- a class's own special method -/
structure SpM (K : PySem.W.Frag) (C g : Addr) (x : Str) : Prop where
  at_ : PySem.W.findIn K (.ref C) x = some (some (.ref g))
  fn : PySem.W.isFn K (.ref g) = true
/-- len(x) by x's own __len__ -/
def rLenO (C : Addr) (sp : Sp) : List V → Hp → VK → Prop := fun xs H Q => ∃ (a dx : Addr) (fs : List (Str × V)), xs = [.ref a] ∧ H a = some (.ins C dx fs) ∧ sp [.ref a] H (fun v H' => ∃ k : Int, v = .int k ∧ 0 ≤ k ∧ k < 2 ^ 63 ∧ Q (.int k) H') E0
theorem call_lenO (F : FnOk X.prog X.w X.K X.mg X.base CX0 n g fd ps sp) (hr : Room (n + 1) X.A) (m : SpM X.K C g "__len__") (hb : Binds X.K fd ps []) : CallR X (.builtin "len") (rLenO C sp) := by
  intro pins s σ H xs us Q I r h
  obtain ⟨a, dx, fs, rfl, ha, q⟩ := h
  rw [Vals.ref1 r]
  obtain ⟨mA, J, _⟩ := ins_get I.hok ha
  obtain ⟨od, J, _⟩ := J.look
  obtain ⟨mm, hF⟩ := I.fr
  refine PySem.W.len_K hF I.ok.mod.kin J m.at_ m.fn ?_
  refine wpAny_mono (runO (vs := [.ref a]) F hr.in1 hb I I.env0.in1 (.cons rfl .nil) q) (fun u s' hq => ?_) (fun _ _ e => e)
  obtain ⟨z, H', I', rz, k, rfl, k0, k1, qz⟩ := hq
  obtain ⟨t, rfl⟩ := rz
  exact ⟨⟨k0, k1⟩, .int k, H', I'.tok _, ⟨_, rfl⟩, qz⟩
/-- y in x by x's own __contains__ -/
def rInO (C : Addr) (sp : Sp) (b0 : Bool) : R2 := fun y x H Q => ∃ (a dx : Addr) (fs : List (Str × V)), x = .ref a ∧ H a = some (.ins C dx fs) ∧ sp [.ref a, y] H (fun v H' => ∃ b, v = .bl b ∧ Q (.bl (xor b0 b)) H') E0
theorem op_inO (F : FnOk X.prog X.w X.K X.mg X.base CX0 n g fd ps sp) (hr : Room n X.A) (m : SpM X.K C g "__contains__") (hb : Binds X.K fd ps []) : OpR X (compareOp .In) (rInO C sp false) := by
  intro pins s σ H y x v u Q I ry rx h
  obtain ⟨a, dx, fs, rfl, ha, q⟩ := h
  cases rx
  obtain ⟨mA, J, _⟩ := ins_get I.hok ha
  obtain ⟨od, J, _⟩ := J.look
  obtain ⟨mm, hF⟩ := I.fr
  refine PySem.W.in_K hF I.ok.mod.kin J m.at_ m.fn ?_
  refine wpAny_mono (runO (vs := [.ref a, y]) F hr hb I I.env0 (.cons rfl (.cons ry .nil)) q) (fun w' s' hq => ?_) (fun _ _ e => e)
  obtain ⟨z, H', I', rz, b, rfl, qz⟩ := hq
  cases rz
  rw [Bool.false_xor] at qz
  exact wpAny_truthy_bool ⟨.bl b, H', I', rfl, qz⟩
theorem op_notinO (F : FnOk X.prog X.w X.K X.mg X.base CX0 n g fd ps sp) (hr : Room n X.A) (m : SpM X.K C g "__contains__") (hb : Binds X.K fd ps []) : OpR X (compareOp .NotIn) (rInO C sp true) := by
  intro pins s σ H y x v u Q I ry rx h
  obtain ⟨a, dx, fs, rfl, ha, q⟩ := h
  cases rx
  obtain ⟨mA, J, _⟩ := ins_get I.hok ha
  obtain ⟨od, J, _⟩ := J.look
  obtain ⟨mm, hF⟩ := I.fr
  refine PySem.W.notIn_K hF I.ok.mod.kin J m.at_ m.fn ?_
  refine wpAny_mono (runO (vs := [.ref a, y]) F hr hb I I.env0 (.cons rfl (.cons ry .nil)) q) (fun w' s' hq => ?_) (fun _ _ e => e)
  obtain ⟨z, H', I', rz, b, rfl, qz⟩ := hq
  cases rz
  rw [Bool.true_xor] at qz
  exact wpAny_truthy_bool ⟨.bl (!b), H', I', rfl, qz⟩
/-- an own special method whose error is wished for at the caller's slots, run -/
theorem runOS {CX : CXT} {E : XK} {A : Around} {pins : List (Addr × Obj)} {σ : L2.St} {s : Shared} {H : Hp} {us : List Value} {vs : List V} {Q : VK} (F : FnOk X.prog X.w X.K X.mg X.base CX n g fd ps sp) (hr : Room n A) (hb : Binds X.K fd ps [])
    (hx : PassesAt CX X σ E) (I : Inv X pins σ H s) (env0 : Env0 X.prog X.w X.K X.mg X.base A X.stack s H) (r2 : Vals vs us) (q : sp vs H Q E) :
    wpAny (model X.prog X.w) A (call (.ref g) us) (EP X pins σ Q) X.xe s := by
  have hl := F.len _ _ _ _ q
  have hb' := hb s us I.kIn (by rw [List.append_nil, ← r2.length]; exact hl)
  rw [List.append_nil] at hb'
  refine wpAny_call (codeAny_mono (F.run A X.stack s H ⟨us, []⟩ us vs _ E hr env0 hb' r2 q) fun r s' hq => ?_)
  cases r with
  | error e => exact hx pins _ _ e s' I hq
  | ok fl =>
    cases fl with
    | ret w => exact I.after hq
    | next => exact False.elim hq
    | brk => exact False.elim hq
    | cont => exact False.elim hq
/-- x[y] by x's own __getitem__ -/
def tIxO (C : Addr) (sp : Sp) (E : L2.St → XK) (ta tb : TE) : TE := fun σ H Q => ta σ H fun x H1 => tb σ H1 fun y H2 => ∃ (a dx : Addr) (fs : List (Str × V)), x = .ref a ∧ H2 a = some (.ins C dx fs) ∧ sp [.ref a, y] H2 Q (E σ)
theorem pe_ixO {CX : CXT} {E : L2.St → XK} {a b : Expr} {ta tb : TE} {pos : Pos} (ha : PE X a ta) (hb0 : PE X b tb) (m : SpM X.K C g "__getitem__") (mf : PySem.W.fnIn X.K g = true) (F : FnOk X.prog X.w X.K X.mg X.base CX n g fd ps sp) (hr : Room (n + 1) X.A)
    (hb : Binds X.K fd ps []) (hx : ∀ σ, PassesAt CX X σ (E σ)) (hsl : ∀ o i, subscripted b true o i = runValue (.builtin "lifetime.subscript" ⟨[o, i], []⟩) := by intro _ _; with_unfolding_all rfl) : PE X (.Subscript a b pos) (tIxO C sp E ta tb) := by
  refine ⟨fun pins s σ H Q I h => ?_⟩
  refine Subscript_ (binT (R := fun x y H2 => ∃ (a dx : Addr) (fs : List (Str × V)), x = .ref a ∧ H2 a = some (.ins C dx fs) ∧ sp [.ref a, y] H2 Q (E σ)) ha hb0 I h fun v u s2 x y H2 I2 rx ry q => ?_)
  obtain ⟨p, dx, fs, rfl, hp, q⟩ := q
  cases rx
  obtain ⟨mA, J, _⟩ := ins_get I2.hok hp
  obtain ⟨od, J, _⟩ := J.look
  obtain ⟨mm, hF⟩ := I2.fr
  exact PySem.W.sub_K hF I2.ok.mod.kin J m.at_ mf m.fn (runOS (vs := [.ref p, y]) F hr.in1 hb (hx σ) I2 I2.env0.in1 (.cons rfl (.cons ry .nil)) q) (hsl _ _)
section
variable {ta tb : TE} {σ : L2.St} {H : Hp} {Q : VK} {E : L2.St → XK}
theorem go_ixO (h : ta σ H fun x H1 => tb σ H1 fun y H2 => ∃ (a dx : Addr) (fs : List (Str × V)), x = .ref a ∧ H2 a = some (.ins C dx fs) ∧ sp [.ref a, y] H2 Q (E σ)) : tIxO C sp E ta tb σ H Q := h
theorem go_insF {a dx : Addr} {fs : List (Str × V)} {R : Addr → Prop} (ha : H a = some (.ins C dx fs)) (h : R a) : ∃ (a' dx : Addr) (fs : List (Str × V)), V.ref a = .ref a' ∧ H a' = some (.ins C dx fs) ∧ R a' := ⟨a, dx, fs, rfl, ha, h⟩
theorem go_lenO {a dx : Addr} {fs : List (Str × V)} (ha : H a = some (.ins C dx fs)) (h : sp [.ref a] H (fun v H' => ∃ k : Int, v = .int k ∧ 0 ≤ k ∧ k < 2 ^ 63 ∧ Q (.int k) H') E0) : rLenO C sp [.ref a] H Q := ⟨a, dx, fs, rfl, ha, h⟩
theorem go_inO {a dx : Addr} {fs : List (Str × V)} {y : V} {b0 : Bool} (ha : H a = some (.ins C dx fs)) (h : sp [.ref a, y] H (fun v H' => ∃ b, v = .bl b ∧ Q (.bl (xor b0 b)) H') E0) : rInO C sp b0 y (.ref a) H Q := ⟨a, dx, fs, rfl, ha, h⟩
end
end
end Vc

/-! Xz: str(x) by x's own __str__; staticmethods called on their class (my own). -/
namespace Vc
open PySem PySem.Spec PyProof.Rows L2
section
open PySem.W PySem.Calls Builtin Builtin.Str
variable {prog : Program} {w : World} {A : Around} {E : Value → Shared → Prop} {s : Shared} {K : Frag} {x C L f : Addr} {h₀ : Heap} {m : Str → Option Value} {ox : Obj} {od : Option Obj}
theorem strOf_own {Q : Value → Shared → Prop} (hu : A.units < cLine) (X : K.In s.heap) (I : InstAt s.heap x ox C od) (hs : findIn K (.ref C) "__str__" = some (some (.ref f))) (hf : isFn K (.ref f) = true)
    (h : wpAny (model prog w) A (call (.ref f) [.ref x]) (StrBack Q) E s) : wpAny (model prog w) A (Builtin.Str.strOf (.ref x)) Q E s := by
  unfold Builtin.Str.strOf
  rw [if_neg (show ¬ isExactStr (Value.ref x) = true from by intro z; cases z)]
  refine wpAny_bind (wpAny_cRoomFor hu ?_)
  refine wpAny_bind (m := callSpecial? (.ref x) (Str.ofString "__str__")) (special_fn X I hs (beq_iff_eq.mp hf) (wpAny_mono h (fun r s' hr => ?_) fun _ _ y => y))
  cases r <;> first | exact hr.elim | skip
  repeat (first | wp_step)
  exact hr
theorem str_own {Q : Value → Shared → Prop} (hu : A.units + 2 < cLine) (X : K.In s.heap) (I : InstAt s.heap x ox C od) (hs : findIn K (.ref C) "__str__" = some (some (.ref f))) (hf : isFn K (.ref f) = true)
    (h : wpAny (model prog w) A.in1.in1 (call (.ref f) [.ref x]) (StrBack Q) E s) : wpAny (model prog w) A (call (.type "str") [.ref x]) Q E s :=
  callType_newIn F.called_str (by decide) (F.typeCall_str_1 _) (F.newCall_str_1 _) (fun obj => F.args_object_init_2 obj _) F.entry_str_new
    (S := fun A' R s' => A'.units + 1 < cLine ∧ K.In s'.heap ∧ InstAt s'.heap x ox C od ∧ wpAny (model prog w) A'.in1 (call (.ref f) [.ref x]) (StrBack fun r s1 => R (.ok (.ret r)) s1) (fun e s1 => R (.error e) s1) s')
    (.of_wp fun A' R s' hq => by
      rw [str_new_tree (.ref x)]
      refine wpAny_bind (wpAny_pure ?_)
      refine wpAny_bind (wpAny_of_eq isSubtype_str_str ?_)
      exact wpAny_bind (wpAny_mono (strOf_own (A := A'.in1) (Q := fun r s1 => R (.ok (.ret r)) s1) hq.1 hq.2.1 hq.2.2.1 hs hf hq.2.2.2) (fun r s1 h1 => wpAny_pure ⟨_, rfl, h1⟩) fun _ _ e => e))
    ⟨hu, X, I, wpAny_mono h (fun r s1 h1 => by
      cases r <;> first | exact h1.elim | skip
      exact ⟨typeIs_str _ _ _, h1⟩) fun _ _ e => e⟩
end
section
variable {X : Cx} {C g : Addr} {fd : FuncData} {ps : List Str} {sp : Sp} {n : Nat}
/-- str(x) by x's own __str__ -/
def rStrO (C : Addr) (sp : Sp) : List V → Hp → VK → Prop := fun xs H Q => ∃ (a dx : Addr) (fs : List (Str × V)), xs = [.ref a] ∧ H a = some (.ins C dx fs) ∧ sp [.ref a] H (fun v H' => ∃ z, v = .str z ∧ Q (.str z) H') E0
theorem call_strO (F : FnOk X.prog X.w X.K X.mg X.base CX0 n g fd ps sp) (hr : Room (n + 2) X.A) (m : SpM X.K C g "__str__") (hb : Binds X.K fd ps []) : CallR X (.type "str") (rStrO C sp) := by
  intro pins s σ H xs us Q I r h
  obtain ⟨a, dx, fs, rfl, ha, q⟩ := h
  rw [Vals.ref1 r]
  obtain ⟨mA, J, _⟩ := ins_get I.hok ha
  obtain ⟨od, J, _⟩ := J.look
  refine str_own (by have := hr.un; omega) I.kIn J m.at_ m.fn ?_
  refine wpAny_mono (runO (vs := [.ref a]) F hr.in1.in1 hb I I.env0.in1.in1 (.cons rfl .nil) q) (fun u s' hq => ?_) (fun _ _ e => e)
  obtain ⟨z, H', I', rz, k, rfl, qz⟩ := hq
  obtain ⟨t, rfl⟩ := rz
  exact ⟨.str k, H', I', ⟨_, rfl⟩, qz⟩
/-! ### C.m(..), m a staticmethod -/
structure SMet (K : PySem.W.Frag) (C : Addr) (mc : Value) (m : Str) (p g : Addr) : Prop where
  at_ : PySem.W.findCls K (.ref C) mc m = some (.get (.builtin "staticmethod.__get__") (.ref p) .none (.ref C))
  rc : ∃ rest, PySem.W.recIn K p "staticmethod" = some (.ref g :: rest)
  kp : PySem.W.keepIn K (.ref g) = true
theorem getsm_ok {pins : List (Addr × Obj)} {σ : L2.St} {H : Hp} {s : Shared} {A : Around} {E : Value → Shared → Prop} {mc : Value} {m : Str} {p : Addr} {pl : Sem Bool} {Q : Value × List Value → Shared → Prop} (I : Inv X pins σ H s) (r : ClX.CRead X.K C mc) (k : SMet X.K C mc m p g)
    (h : ∀ s', Inv X pins σ H s' → Q (.ref g, []) s') : wpAny (model X.prog X.w) A (getMethod (.ref C) m pl) Q E s := by
  obtain ⟨rest, hp⟩ := k.rc
  refine PySem.W.method_cls I.kIn r.ga ?_
  refine PySem.W.cls_bind I.kIn r.rd k.at_ ?_
  exact wpAny_call (PySem.W.sm_get (s := { s with toks := s.toks + 1 }) I.kIn hp (PySem.W.handed_on rfl (h _ (I.tok _))))
def tSMeth (C : Addr) (sp : Sp) (E : XK) (ta : TE) (t : TA) : TE := fun σ H Q => ta σ H fun x H1 => x = .ref C ∧ t σ H1 fun vs H2 => sp vs H2 Q E
theorem pe_smeth {CX : CXT} {E : XK} {o e : Expr} {es : List Expr} {m : Str} {pos apos : Pos} {ta : TE} {t : TA} {pl : Sem Bool} {mc : Value} {p : Addr} (he : PE X o ta) (r : ClX.CRead X.K C mc) (c : SMet X.K C mc m p g) (F : FnOk X.prog X.w X.K X.mg X.base CX n g fd ps sp) (hr : Room n X.A) (hb : Binds X.K fd ps []) (hx : Passes CX X E) (ha : PA X (e :: es) t)
    (hst : starEach (e :: es) X.env = (false, eval e X.env) :: starEach es X.env := by rfl) (hpl : (backTo pos (starEach es X.env)).any (·.1) = false := by rfl)
    (ht : eval (.Call (.Attribute o m apos) (e :: es) [] pos) X.env = (do
      let ov ← eval o X.env
      standAt apos.atName
      let (f, first) ← holding [ov] (getMethod ov m pl)
      callWith pos f first (backTo pos (starEach (e :: es) X.env)) (backToKw pos (keywordEach [] X.env))) := by rfl) :
    PE X (.Call (.Attribute o m apos) (e :: es) [] pos) (tSMeth C sp E ta t) := by
  refine ⟨fun pins s σ H Q I h => ?_⟩
  refine PySem.W.methodCall_KW (pl := pl) (thn (he.run pins s σ H _ I h) fun u s1 ⟨x, H1, I1, rx, ex, q⟩ => ?_) ht
  subst ex
  obtain rfl : u = Value.ref C := rx
  refine getsm_ok I1 r c fun s2 I2 => ?_
  refine PySem.W.callWith_K (first := []) (h₀ := X.base) I.ok.mod.kin c.kp (thn (ha.run pos pins s2 σ H1 _ I2 q) fun us s3 ⟨vs, H2, I3, r3, q2⟩ => ⟨I3.kIn, ?_⟩) hst hpl
  exact run_fn F hr hb .nil hx I3 r3 (by rw [List.append_nil]; exact q2)
theorem pe_smeth0 {CX : CXT} {E : XK} {o : Expr} {m : Str} {pos apos : Pos} {ta : TE} {pl : Sem Bool} {mc : Value} {p : Addr} (he : PE X o ta) (r : ClX.CRead X.K C mc) (c : SMet X.K C mc m p g) (F : FnOk X.prog X.w X.K X.mg X.base CX n g fd ps sp) (hr : Room n X.A) (hb : Binds X.K fd ps []) (hx : Passes CX X E)
    (ht : eval (.Call (.Attribute o m apos) [] [] pos) X.env = (do
      let ov ← eval o X.env
      standAt apos.atName
      let (f, first) ← holding [ov] (getMethod ov m pl)
      callWith pos f first (backTo pos (starEach [] X.env)) (backToKw pos (keywordEach [] X.env))) := by rfl) :
    PE X (.Call (.Attribute o m apos) [] [] pos) (tSMeth C sp E ta tNil) := by
  refine ⟨fun pins s σ H Q I h => ?_⟩
  refine PySem.W.methodCall_KW (pl := pl) (thn (he.run pins s σ H _ I h) fun u s1 ⟨x, H1, I1, rx, ex, q⟩ => ?_) ht
  subst ex
  obtain rfl : u = Value.ref C := rx
  refine getsm_ok I1 r c fun s2 I2 => ?_
  exact PySem.W.callWith_K0 I2.kIn c.kp (run_fn (us := []) F hr hb .nil hx I2 .nil (by rw [List.append_nil]; exact q))
section
variable {K : PySem.W.Frag} {σ : L2.St} {H : Hp} {Q : VK} {ta : TE} {t : TA} {E : XK}
theorem go_strO {a dx : Addr} {fs : List (Str × V)} (ha : H a = some (.ins C dx fs)) (h : sp [.ref a] H (fun v H' => ∃ z, v = .str z ∧ Q (.str z) H') E0) : rStrO C sp [.ref a] H Q := ⟨a, dx, fs, rfl, ha, h⟩
theorem go_smeth (h : ta σ H fun x H1 => x = .ref C ∧ t σ H1 fun vs H2 => sp vs H2 Q E) : tSMeth C sp E ta t σ H Q := h
theorem go_refC {P : Prop} (h : P) : V.ref C = V.ref C ∧ P := ⟨rfl, h⟩
end
end
/-! ### dicts whose values are data, compared: equal ones -/
theorem hits_dp {X : Cx} {pins : List (Addr × Obj)} {σ : L2.St} {H : Hp} {s : Shared} (I : Inv X pins σ H s) {A : Around} (hu : A.in1.units + 64 < cLine) {ls : List (Key × V)} {vb : List (Key × Value)} (rb : KV ls vb) {ks : List (Key × V)} {va : List (Key × Value)}
    (ra : KV ks va) : (∀ p ∈ ks, ∃ u d, valV ls p.1 = some u ∧ Dp X.K H p.2 d ∧ Dp X.K H u d ∧ SeqAt.shaped d = true) → PySem.W.KeqHits A.in1 s vb va true := by
  unfold KV at ra
  induction ra with
  | nil => intro _; exact .nil
  | @cons p q ps qs h t k =>
    intro hp
    obtain ⟨h1, h2⟩ := h
    obtain ⟨u, d, e, d1, d2, sd⟩ := hp p List.mem_cons_self
    have rr : RelO (some u) (valueAt vb p.1) := by rw [← e]; exact rb.val p.1
    obtain ⟨y, hy, ry⟩ := rr.some_of
    obtain ⟨key, v⟩ := q
    have h1' : p.1 = key := h1
    rw [h1'] at hy
    obtain ⟨as, r1⟩ := Dp.reads I d _ _ d1 h2
    obtain ⟨bs, r2⟩ := Dp.reads I d _ _ d2 ry
    have eq := PySem.W.keq_at (A := A) r1 r2 sd sd hu
    rw [SeqAt.eqv_refl d (SeqAt.canLay_of_shaped sd)] at eq
    show PySem.W.KeqHits A.in1 s vb ((key, v) :: qs) (true && true)
    exact .hit hy eq (k fun p' hm => hp p' (List.mem_cons_of_mem _ hm))
def rDD (K : PySem.W.Frag) (b : Bool) : R2 := fun x y H Q => ∃ a c ks ls, x = .ref a ∧ y = .ref c ∧ H a = some (.dK ks) ∧ H c = some (.dK ls) ∧ ks.length = ls.length ∧ (∀ p ∈ ks, ∃ u d, valV ls p.1 = some u ∧ Dp K H p.2 d ∧ Dp K H u d ∧ SeqAt.shaped d = true) ∧ Q (.bl b) H
theorem op_eqDD {X : Cx} (hu : X.A.units + 66 < cLine) : OpR X (compareOp .Eq) (rDD X.K true) := by
  intro pins s σ H x y v u Q I rx ry h
  obtain ⟨a, b, ks, ls, rfl, rfl, ea, eb, hlen, hp, q⟩ := h
  obtain rfl : v = Value.ref a := rx
  obtain rfl : u = Value.ref b := ry
  obtain ⟨_, ya, va, ra, da⟩ := (show ObjOk X.prog X.w H s.heap a (.dK ks) from I.hok a _ ea)
  obtain ⟨_, yb, vb, rb, db⟩ := (show ObjOk X.prog X.w H s.heap b (.dK ls) from I.hok b _ eb)
  have hl : va.length = vb.length := by rw [← ra.length, ← rb.length]; exact hlen
  exact PySem.W.keq_eq (knd := mixKind X.prog X.w) (r := true) ya yb da db (by omega) (fun _ => hits_dp I (by show X.A.units + 1 + 64 < cLine; omega) rb ra hp) (fin_bl I q (by simp [hl]))
theorem op_neDD {X : Cx} (hu : X.A.units + 66 < cLine) : OpR X (compareOp .NotEq) (rDD X.K false) := by
  intro pins s σ H x y v u Q I rx ry h
  obtain ⟨a, b, ks, ls, rfl, rfl, ea, eb, hlen, hp, q⟩ := h
  obtain rfl : v = Value.ref a := rx
  obtain rfl : u = Value.ref b := ry
  obtain ⟨_, ya, va, ra, da⟩ := (show ObjOk X.prog X.w H s.heap a (.dK ks) from I.hok a _ ea)
  obtain ⟨_, yb, vb, rb, db⟩ := (show ObjOk X.prog X.w H s.heap b (.dK ls) from I.hok b _ eb)
  have hl : va.length = vb.length := by rw [← ra.length, ← rb.length]; exact hlen
  exact PySem.W.keq_ne (knd := mixKind X.prog X.w) (r := true) ya yb da db (by omega) (fun _ => hits_dp I (by show X.A.units + 1 + 64 < cLine; omega) rb ra hp) (fin_bl I q (by simp [hl]))
theorem room66 {k : Nat} {A : Around} (r : Room k A) : A.units + 66 < cLine := by have := r.un; omega
/-! ### d.pop(k), there -/
def rDPop : V → List V → Hp → VK → Prop := fun x xs H Q => ∃ (a : Addr) (kvs : List (Key × V)) (k : Key) (v : V), x = .ref a ∧ xs = [kV k] ∧ H a = some (.dK kvs) ∧ valV kvs k = some v ∧ Q v (upd H a (.dK (dropK kvs k)))
theorem mt_dpop {X : Cx} : MtR X "dict.pop" rDPop := by
  intro pins s σ H x xs v us Q I rx rxs h
  obtain ⟨a, kvs, k, v', rfl, rfl, e, l, q⟩ := h
  cases rx
  obtain ⟨u, rfl, ru⟩ := rxs.one
  exact d_pop I e ru l (.inl rfl) fun w' s' I' r' => ⟨v', _, I', r', q⟩
section
variable {K : PySem.W.Frag} {H : Hp} {Q : VK} {σ : L2.St} {te : TE} {ts : List TE} {acc : Str}
theorem go_dpopI {a : Addr} {kvs : List (Key × V)} {k : Int} {v : V} (e : H a = some (.dK kvs)) (l : valV kvs (.inl k) = some v) (h : Q v (upd H a (.dK (dropK kvs (.inl k))))) : rDPop (.ref a) [.int k] H Q := ⟨a, kvs, .inl k, v, rfl, rfl, e, l, h⟩
theorem go_tyD {a : Addr} {kvs : List (Key × V)} {P : Prop} (e : H a = some (.dK kvs)) (h : P) : tyV K "dict" (.ref a) H ∧ P := ⟨.inr (.inr (.inl ⟨rfl, .inl ⟨kvs, e⟩⟩)), h⟩
theorem go_dclear {a : Addr} {kvs : List (Key × V)} (e : H a = some (.dK kvs)) (h : Q .non (upd H a (.dK []))) : rDClear (.ref a) [] H Q := ⟨a, kvs, rfl, rfl, e, h⟩
theorem go_lclear {a : Addr} {xs : List V} (e : H a = some (.lst xs)) (h : Q .non (upd H a (.lst []))) : rClear (.ref a) [] H Q := ⟨a, xs, rfl, rfl, e, h⟩
theorem go_revL (h : te σ H fun x H1 => ∃ a xs, x = .ref a ∧ SqL K H1 a xs ∧ ∀ p, H1 p = none → Q (.ref p) (upd H1 p (.lst xs.reverse))) : tRevL K te σ H Q := h
theorem go_revLV {a : Addr} {xs : List V} {R : List V → Prop} (e : SqL K H a xs) (h : R xs) : ∃ a' ys, V.ref a = .ref a' ∧ SqL K H a' ys ∧ R ys := ⟨a, xs, rfl, e, h⟩
theorem go_js0 {R : Str → Hp → Prop} (h : R acc H) : tJs [] acc σ H R := h
theorem go_jsS {y : Str} {R : Str → Hp → Prop} (l : (acc ++ y).length ≤ 1000) (h : tJs ts (acc ++ y) σ H R) : tJs (tC (.str y) :: ts) acc σ H R := ⟨y, rfl, Nat.le_of_lt (small1000 l), h⟩
theorem go_js {R : Str → Hp → Prop} (h : te σ H fun x H1 => ∃ y : Str, x = .str y ∧ (acc ++ y).length ≤ sizeLine ∧ tJs ts (acc ++ y) σ H1 R) : tJs (te :: ts) acc σ H R := h
theorem go_jsV {y : Str} {P : Str → Prop} (l : (acc ++ y).length ≤ 1000) (h : P y) : ∃ z : Str, V.str y = .str z ∧ (acc ++ z).length ≤ sizeLine ∧ P z := ⟨y, rfl, Nat.le_of_lt (small1000 l), h⟩
theorem go_szS {y : Str} {P : Prop} (l : y.length ≤ 1000) (h : P) : y.length ≤ sizeLine ∧ P := ⟨Nat.le_of_lt (small1000 l), h⟩
theorem go_fmt (h : te σ H fun x H1 => (∃ y : Str, x = .str y ∧ y.length ≤ sizeLine ∧ Q (.str y) H1) ∨ ∃ i : Int, x = .int i ∧ i.natAbs.log2 < 1920 ∧ Q (.str (toString i)) H1) : tFmt te σ H Q := h
theorem go_fmtS {y : Str} {P : Str → Prop} {P' : Int → Prop} (l : y.length ≤ 1000) (h : P y) : (∃ z : Str, V.str y = .str z ∧ z.length ≤ sizeLine ∧ P z) ∨ ∃ i : Int, V.str y = .int i ∧ i.natAbs.log2 < 1920 ∧ P' i := .inl ⟨y, rfl, Nat.le_of_lt (small1000 l), h⟩
theorem go_fmtI {i : Int} {P : Str → Prop} {P' : Int → Prop} (l : i.natAbs.log2 < 1920) (h : P' i) : (∃ z : Str, V.int i = .str z ∧ z.length ≤ sizeLine ∧ P z) ∨ ∃ j : Int, V.int i = .int j ∧ j.natAbs.log2 < 1920 ∧ P' j := .inr ⟨i, rfl, l, h⟩
theorem go_strI {i : Int} {P : Int → Prop} (l : i.natAbs.log2 < 1920) (h : P i) : ∃ j, [V.int i] = [.int j] ∧ j.natAbs.log2 < 1920 ∧ P j := ⟨i, rfl, l, h⟩
end
end Vc

local macro_rules | `(tactic| walk_at "go1") => `(tactic| first
  | with_reducible refine Vc.go_seq ?_
  | with_reducible refine Vc.go_asg ?_
  | with_reducible refine Vc.go_name ?_
  | ((with_reducible refine' Vc.go_var ?hv ?_); (case hv => rfl))
  | with_reducible refine Vc.go_c ?_
  | with_reducible refine Vc.go_op ?_
  | with_reducible refine Vc.go_un ?_
  | with_reducible refine Vc.go_cb ?_
  | with_reducible refine Vc.go_cons ?_
  | with_reducible refine Vc.go_nil ?_
  | with_reducible refine Vc.go_dget ?_
  | with_reducible refine Vc.go_drop ?_
  | with_reducible refine Vc.go_chain ?_
  | with_reducible refine Vc.go_cvalR ?_
  | with_reducible refine Vc.go_fld ?_
  | with_reducible refine Vc.go_sfld ?_
  | with_reducible refine Vc.go_make ?_
  | with_reducible refine Vc.go_meth ?_
  | with_reducible refine Vc.go_dc ?_
  | with_reducible refine Vc.go_lenSet ?_
  | ((with_reducible refine' Vc.go_aug ?hv ?_); (case hv => rfl))
  | with_reducible refine Vc.go_ipI ?_
  | ((with_reducible refine' Vc.go_addS ?l ?_); (case l => walk_at "ln"))
  | with_reducible refine Vc.go_M1 ?_
  | with_reducible refine Vc.go_M0 ?_
  | with_reducible refine Vc.go_isS ?_
  | with_reducible refine Vc.go_sub ?_
  | ((with_reducible refine' Vc.go_tupD ?e ?_); (case e => walk_at "hs"))
  | ((with_reducible refine' Vc.go_tupDT ?e ?_); (case e => walk_at "hs"))
  | ((with_reducible refine' Vc.go_lstDO ?e ?_); (case e => assumption))
  | ((with_reducible refine' Vc.go_lstD ?e ?_); (case e => walk_at "hs"))
  | ((with_reducible refine' Vc.go_lstDT ?e ?_); (case e => walk_at "hs"))
  | with_reducible refine Vc.go_strE ?_
  | with_reducible refine Vc.go_sign ?_
  | with_reducible refine Vc.go_for ?_
  | with_reducible refine Vc.go_iList ?_
  | with_reducible refine Vc.go_iTup ?_
  | with_reducible refine Vc.go_iRng1 ?_
  | with_reducible refine Vc.go_iRng2 ?_
  | with_reducible refine Vc.go_iStr ?_
  | with_reducible refine Vc.go_lc ?_
  | with_reducible refine Vc.go_disp ?_
  | with_reducible refine Vc.go_pairs ?_
  | with_reducible refine Vc.go_pairs0 ?_
  | with_reducible refine' L2.iteT ?_
  | with_reducible refine' L2.iteF ?_
  | with_reducible refine' Vc.go_neL ?_
  | with_reducible refine' Vc.go_nNone ?_
  | with_reducible refine' Vc.go_nSome ?_
  | with_reducible refine' Vc.go_None ?_
  | with_reducible refine' Vc.go_Some ?_
  | with_reducible refine' Vc.go_eqL ?_
  | with_reducible refine' Vc.go_nT ?_
  | with_reducible refine' Vc.go_nF ?_
  | with_reducible refine Vc.go_ret ?_
  | with_reducible refine Vc.go_retN ?_
  | with_reducible refine Vc.go_next ?_
  | with_reducible refine Vc.go_ifS ?_
  | with_reducible refine Vc.go_test ?_
  | with_reducible refine Vc.go_B ?_
  | with_reducible refine Vc.go_bl ?_
  | with_reducible refine Vc.go_blP ?_
  | with_reducible refine Vc.go_notT ?_
  | with_reducible refine Vc.go_andT ?_
  | with_reducible refine Vc.go_orT ?_
  | with_reducible refine Vc.go_yes ?_
  | with_reducible refine Vc.go_andV ?_
  | with_reducible refine Vc.go_orV ?_
  | with_reducible refine Vc.go_notV ?_
  | with_reducible refine Vc.go_if ?_
  | with_reducible refine Vc.go_I0 ?_
  | with_reducible refine Vc.go_U ?_
  | ((with_reducible refine' Vc.go_I ?hc ?_); (case hc => walk_at "side"))
  | with_reducible refine Vc.go_eqI ?_
  | with_reducible refine Vc.go_neI ?_
  | with_reducible refine Vc.go_eqS ?_
  | with_reducible refine Vc.go_neS ?_
  | with_reducible refine Vc.go_eqB ?_
  | with_reducible refine Vc.go_neB ?_
  | ((with_reducible refine' Vc.go_isi ?ht ?hk ?_); (case ht => walk_at "ty"); (case hk => walk_at "kit"))
  | ((with_reducible refine' Vc.go_isiT2 ?ht ?e ?hk ?hk2 ?hc ?_); (case ht => walk_at "ty"); (case e => walk_at "hs"); (case hk => walk_at "kit"); (case hk2 => walk_at "kit"); (case hc => first | exact Vc.or_t | exact Vc.or_f))
  | with_reducible refine Vc.go_isN ?_
  | with_reducible refine' Vc.go_iteNT ?_
  | ((with_reducible refine' Vc.go_iteN ?h ?_); (case h => (intro z; cases z)))
  | ((with_reducible refine' Vc.go_cval ?hr ?hv ?_); (case hr => assumption); (case hv => assumption))
  | ((with_reducible refine' Vc.go_fldV ?e ?hl ?c ?n ?_); (case e => walk_at "hs"); (case hl => walk_at "fl"); (case c => assumption); (case n => assumption))
  | ((with_reducible refine' Vc.go_sfldV ?e ?l ?c ?n ?_); (case e => walk_at "hs"); (case l => walk_at "fn"); (case c => assumption); (case n => assumption))
  | ((with_reducible refine' Vc.go_methV ?e ?l ?_); (case e => walk_at "hs"); (case l => walk_at "fl"))
  | ((with_reducible refine' Vc.go_lenD ?e ?_); (case e => walk_at "hs"))
  | ((with_reducible refine' Vc.go_listD ?e ?_); (case e => walk_at "hs"))
  | ((with_reducible refine' Vc.go_lenS ?l ?_); (case l => walk_at "ln"))
  | ((with_reducible refine' Vc.go_dgetIF ?he ?hv ?_); (case he => walk_at "fz"); (case hv => walk_at "dv"))
  | ((with_reducible refine' Vc.go_inL ?e ?hx ?hf ?_); (case e => walk_at "hs"); (case hx => rfl); (case hf => walk_at "flat"))
  | ((with_reducible refine' Vc.go_inT ?e ?hx ?hf ?_); (case e => walk_at "hs"); (case hx => rfl); (case hf => walk_at "flat"))
  | ((with_reducible refine' Vc.go_niL ?e ?hx ?hf ?_); (case e => walk_at "hs"); (case hx => rfl); (case hf => walk_at "flat"))
  | ((with_reducible refine' Vc.go_niT ?e ?hx ?hf ?_); (case e => walk_at "hs"); (case hx => rfl); (case hf => walk_at "flat"))
  | with_reducible refine Vc.go_call ?_
  | with_reducible refine Vc.go_raiseT ?_
  | with_reducible refine Vc.go_mkO ?_
  | with_reducible refine Vc.go_err1 ?_
  | with_reducible refine Vc.go_err2 ?_
  | with_reducible refine Vc.go_callS ?_
  | with_reducible refine Vc.go_callI ?_
  | with_reducible refine Vc.go_methS ?_
  | with_reducible refine Vc.go_makeS ?_
  | with_reducible refine Vc.go_callIK ?_
  | with_reducible refine Vc.go_refE ?_
  | ((with_reducible refine' Vc.go_insD ?e ?_); (case e => walk_at "hs"))
  | with_reducible refine Vc.go_xfX ?_
  | ((with_reducible refine' Vc.go_xfXV ?T ?n ?e ?l ?_); (case T => assumption); (case n => assumption); (case e => walk_at "hs"); (case l => walk_at "fl"))
  | ((with_reducible refine' Vc.go_isXC ?C ?d ?k ?_); (case C => assumption); (case d => ((with_reducible refine' Vc.xdAt ?e); (case e => walk_at "hs"))); (case k => assumption))
  | ((with_reducible refine' Vc.go_isXT ?C ?d ?k ?_); (case C => assumption); (case d => ((with_reducible refine' Vc.xdAt ?e); (case e => walk_at "hs"))); (case k => assumption))
  | with_reducible refine Vc.go_ixO ?_
  | ((with_reducible refine' Vc.go_cntS ?e ?_); (case e => walk_at "hs"))
  | ((with_reducible refine' Vc.go_insF ?e ?_); (case e => walk_at "hs"))
  | ((with_reducible refine' Vc.go_lenO ?e ?_); (case e => walk_at "hs"))
  | ((with_reducible refine' Vc.go_strO ?e ?_); (case e => walk_at "hs"))
  | with_reducible refine Vc.go_smeth ?_
  | with_reducible refine Vc.go_refC ?_
  | ((with_reducible refine' Vc.go_tyD ?e ?_); (case e => walk_at "hs"))
  | ((with_reducible refine' Vc.go_dclear ?e ?_); (case e => walk_at "hs"))
  | ((with_reducible refine' Vc.go_lclear ?e ?_); (case e => walk_at "hs"))
  | ((with_reducible refine' Vc.go_dpopI ?e ?v ?_); (case e => walk_at "hs"); (case v => walk_at "dv"))
  | with_reducible refine Vc.go_revL ?_
  | ((with_reducible refine' Vc.go_revLV ?e ?_); (case e => walk_at "hs"))
  | with_reducible refine Vc.go_js0 ?_
  | with_reducible refine Vc.go_js ?_
  | ((with_reducible refine' Vc.go_jsV ?l ?_); (case l => walk_at "ln"))
  | ((with_reducible refine' Vc.go_szS ?l ?_); (case l => walk_at "ln"))
  | with_reducible refine Vc.go_fmt ?_
  | ((with_reducible refine' Vc.go_fmtS ?l ?_); (case l => walk_at "ln"))
  | ((with_reducible refine' Vc.go_fmtI ?l ?_); (case l => assumption))
  | ((with_reducible refine' Vc.go_strI ?l ?_); (case l => assumption))
  | ((with_reducible refine' Vc.go_inO ?e ?_); (case e => walk_at "hs"))
  | with_reducible refine Vc.go_iRngL ?_
  | with_reducible refine Vc.go_iRngLV ?_
  | with_reducible refine Vc.go_lstRg ?_
  | with_reducible refine Vc.go_lstRgV ?_
  | with_reducible refine Vc.go_tryX ?_
  | with_reducible refine Vc.go_setP ?_
  | ((with_reducible refine' Vc.go_setPV ?e ?_); (case e => walk_at "hs"))
  | with_reducible refine Vc.go_prop ?_
  | with_reducible refine Vc.go_makeK ?_
  | with_reducible refine Vc.go_make0 ?_
  | with_reducible refine Vc.go_xfT ?_
  | ((with_reducible refine' Vc.go_xfTV ?E ?T ?n ?l ?_); (case E => walk_at "bd"); (case T => assumption); (case n => assumption); (case l => walk_at "fl"))
  | ((with_reducible refine' Vc.go_isTC ?E ?C ?k ?_); (case E => walk_at "bd"); (case C => assumption); (case k => assumption))
  | ((with_reducible refine' Vc.go_isTT ?E ?C ?k ?_); (case E => walk_at "bd"); (case C => assumption); (case k => assumption))
  | with_reducible refine Vc.go_tryAs ?_
  | with_reducible refine Vc.go_tryOnly ?_
  | with_reducible refine Vc.go_tup ?_
  | with_reducible refine Vc.go_lst ?_
  | with_reducible refine Vc.go_dnew ?_
  | with_reducible refine Vc.go_din ?_
  | with_reducible refine Vc.go_dnotin ?_
  | with_reducible refine Vc.go_dput ?_
  | with_reducible refine Vc.go_sl ?_
  | with_reducible refine Vc.go_nopart ?_
  | with_reducible refine Vc.go_part ?_
  | with_reducible refine Vc.go_partI ?_
  | with_reducible refine Vc.go_bm ?_
  | with_reducible refine Vc.go_bm0 ?_
  | with_reducible refine Vc.go_abs ?_
  | with_reducible refine Vc.go_int1 ?_
  | with_reducible refine Vc.go_int1b ?_
  | ((with_reducible refine' Vc.go_dgetS ?he ?hv ?_); (case he => walk_at "hs"); (case hv => walk_at "dv"))
  | ((with_reducible refine' Vc.go_dgetI ?he ?hv ?_); (case he => walk_at "hs"); (case hv => walk_at "dv"))
  | ((with_reducible refine' Vc.go_dputS ?he ?hl ?_); (case he => walk_at "hs"); (case hl => walk_at "ln"))
  | ((with_reducible refine' Vc.go_dputI ?he ?hl ?_); (case he => walk_at "hs"); (case hl => walk_at "ln"))
  | ((with_reducible refine' Vc.go_dinI ?he ?_); (case he => walk_at "hs"))
  | with_reducible refine Vc.go_methK ?_
  | with_reducible refine Vc.go_callK ?_
  | ((with_reducible refine' Vc.go_lenL ?he ?_); (case he => walk_at "hs"))
  | ((with_reducible refine' Vc.go_lenT ?he ?_); (case he => walk_at "hs"))
  | ((with_reducible refine' Vc.go_slS ?hz ?_); (case hz => walk_at "ln"))
  | ((with_reducible refine' Vc.go_slL ?he ?_); (case he => walk_at "hs"))
  | ((with_reducible refine' Vc.go_tyL ?he ?_); (case he => walk_at "hs"))
  | ((with_reducible refine' Vc.go_len ?hl ?_); (case hl => walk_at "ln"))
  | ((with_reducible refine' Vc.go_append ?he ?hl ?_); (case he => walk_at "hs"); (case hl => walk_at "ln"))
  | ((with_reducible refine' Vc.go_ixL ?he ?hv ?_); (case he => walk_at "hs"); (case hv => walk_at "ix"))
  | ((with_reducible refine' Vc.go_ixT ?he ?hv ?_); (case he => walk_at "hs"); (case hv => walk_at "ix"))
  | ((with_reducible refine' Vc.go_ixS ?he ?hv ?_); (case he => walk_at "ln"); (case hv => walk_at "ix")))
local macro_rules | `(tactic| walk_at "kit") => `(tactic| first
  | with_reducible exact Vc.kit_int_int
  | with_reducible exact Vc.kit_int_bool
  | with_reducible exact Vc.kit_int_str
  | with_reducible exact Vc.kit_int_tuple
  | with_reducible exact Vc.kit_int_list
  | with_reducible exact Vc.kit_int_dict
  | with_reducible exact Vc.kit_bool_int
  | with_reducible exact Vc.kit_bool_bool
  | with_reducible exact Vc.kit_bool_str
  | with_reducible exact Vc.kit_bool_tuple
  | with_reducible exact Vc.kit_bool_list
  | with_reducible exact Vc.kit_bool_dict
  | with_reducible exact Vc.kit_str_int
  | with_reducible exact Vc.kit_str_bool
  | with_reducible exact Vc.kit_str_str
  | with_reducible exact Vc.kit_str_tuple
  | with_reducible exact Vc.kit_str_list
  | with_reducible exact Vc.kit_str_dict
  | with_reducible exact Vc.kit_NoneType_int
  | with_reducible exact Vc.kit_NoneType_bool
  | with_reducible exact Vc.kit_NoneType_str
  | with_reducible exact Vc.kit_NoneType_tuple
  | with_reducible exact Vc.kit_NoneType_list
  | with_reducible exact Vc.kit_NoneType_dict
  | with_reducible exact Vc.kit_list_int
  | with_reducible exact Vc.kit_list_bool
  | with_reducible exact Vc.kit_list_str
  | with_reducible exact Vc.kit_list_tuple
  | with_reducible exact Vc.kit_list_list
  | with_reducible exact Vc.kit_list_dict
  | with_reducible exact Vc.kit_tuple_int
  | with_reducible exact Vc.kit_tuple_bool
  | with_reducible exact Vc.kit_tuple_str
  | with_reducible exact Vc.kit_tuple_tuple
  | with_reducible exact Vc.kit_tuple_list
  | with_reducible exact Vc.kit_tuple_dict
  | with_reducible exact Vc.kit_dict_int
  | with_reducible exact Vc.kit_dict_bool
  | with_reducible exact Vc.kit_dict_str
  | with_reducible exact Vc.kit_dict_tuple
  | with_reducible exact Vc.kit_dict_list
  | with_reducible exact Vc.kit_dict_dict)
local macro_rules | `(tactic| walk_at "ty") => `(tactic| first
  | with_reducible exact .base (.int _)
  | with_reducible exact .base (.bl _)
  | with_reducible exact .base (.str _)
  | with_reducible exact .base .non
  | ((with_reducible refine' Vc.tyL ?h); (case h => walk_at "hs"))
  | ((with_reducible refine' Vc.tyT ?h); (case h => walk_at "hs")))
local macro_rules | `(tactic| walk_at "fl") => `(tactic| first | assumption | rfl)
local macro_rules | `(tactic| walk_at "fn") => `(tactic| first | assumption | exact (show 0 < 1000 by decide) | exact (show 1 < 1000 by decide) | exact (show 2 < 1000 by decide) | exact (show 3 < 1000 by decide) | exact (show 4 < 1000 by decide) | exact (show 5 < 1000 by decide) | exact (show 6 < 1000 by decide))
local macro_rules | `(tactic| walk_at "goo") => `(tactic| repeat (first
  | walk_at "go1"
  | ((with_reducible refine' Vc.go_iteT' ?h ?_); (case h => omega))
  | ((with_reducible refine' Vc.go_iteF' ?h ?_); (case h => omega))
  | ((with_reducible refine' Vc.go_itenT' ?h ?_); (case h => omega))
  | ((with_reducible refine' Vc.go_itenF' ?h ?_); (case h => omega))
  | ((with_reducible refine' Vc.go_iteT' ?h ?_); (case h => decide))
  | ((with_reducible refine' Vc.go_iteF' ?h ?_); (case h => decide))))
local macro_rules | `(tactic| walk_at "flat") => `(tactic| first | assumption | rfl)
local macro_rules | `(tactic| walk_at "ix") => `(tactic| first | assumption | rfl)
local macro_rules | `(tactic| walk_at "dv") => `(tactic| first | assumption | rfl)
local macro_rules | `(tactic| walk_at "ln") => `(tactic| first | assumption | (simp only [List.length_cons, List.length_nil, List.length_append, List.length_map]; omega) | decide)
local macro_rules | `(tactic| walk_at "go") => `(tactic| repeat walk_at "go1")
local macro_rules | `(tactic| walk_at "side") => `(tactic| first
  | omega
  | (dsimp only; omega)
  | exact ⟨by omega, by omega, by omega⟩
  | exact Vc.mulw (by omega) (by omega)
  | exact Vc.divw (by omega) (by omega))
local macro_rules | `(tactic| walk_at "hs") => `(tactic| first
  | assumption
  | ((with_reducible refine' Vc.Ed.at0 ?e ?h); (case e => assumption); (case h => walk_at "hs"))
  | ((with_reducible refine' Vc.Ed.at1 ?e ?n ?h); (case e => assumption); (case n => walk_at "ne"); (case h => walk_at "hs"))
  | ((with_reducible refine' Vc.Ed.at2 ?e ?n ?m ?h); (case e => assumption); (case n => walk_at "ne"); (case m => walk_at "ne"); (case h => walk_at "hs"))
  | ((with_reducible refine' Vc.frz' ?e ?h); (case e => assumption); (case h => walk_at "hs"))
  | ((with_reducible refine' L2.SqL.of ?h); (case h => walk_at "hs"))
  | ((with_reducible refine' Vc.all_sqt ?h _); (case h => assumption))
  | ((with_reducible refine' Vc.sqt_of ?h); (case h => walk_at "hs"))
  | ((with_reducible refine' Vc.Ed.sqt ?e ?h); (case e => assumption); (case h => walk_at "hs"))
  | ((with_reducible refine' Vc.Ed.sql0 ?e ?h); (case e => assumption); (case h => walk_at "hs"))
  | ((with_reducible refine' Vc.Ed.sql1 ?e ?n ?h); (case e => assumption); (case n => walk_at "ne"); (case h => walk_at "hs")))
local macro_rules | `(tactic| walk_at "fz") => `(tactic| first
  | assumption
  | ((with_reducible refine' Vc.frz' ?e ?h); (case e => assumption); (case h => walk_at "fz")))
local macro_rules | `(tactic| walk_at "ne") => `(tactic| first
  | assumption
  | ((with_reducible refine' Ne.symm ?h); (case h => assumption))
  | ((with_reducible refine' Vc.ne1 ?e ?h); (case e => assumption); (case h => walk_at "hs"))
  | ((with_reducible refine' Vc.ne2 ?e ?h); (case e => assumption); (case h => walk_at "hs"))
  | ((with_reducible refine' Vc.nek ?e ?h ?d); (case e => assumption); (case h => assumption); (case d => intro z; cases z)))
local macro_rules | `(tactic| walk_at "free") => `(tactic| first
  | assumption
  | ((with_reducible refine' Vc.Ed.back ?e ?h); (case e => assumption); (case h => walk_at "free")))
local macro_rules | `(tactic| walk_at "in") => `(tactic| first
  | ((with_reducible refine' Or.inl ?h); (case h => (simp only [List.mem_cons, List.not_mem_nil, or_false, true_or, or_true]; done)))
  | ((with_reducible refine' Or.inr ?h); (case h => walk_at "free")))
local macro_rules | `(tactic| walk_at "ed") => `(tactic| first
  | assumption
  | with_reducible exact Vc.Ed.refl
  | ((with_reducible refine' Vc.Ed.ex' ?b ?a); (case b => assumption); (case a => walk_at "ed"))
  | ((with_reducible refine' Vc.Ed.one' ?b ?a ?h); (case b => assumption); (case a => walk_at "ed"); (case h => walk_at "in"))
  | ((with_reducible refine' Vc.Ed.two' ?b ?a ?h ?g); (case b => assumption); (case a => walk_at "ed"); (case h => walk_at "in"); (case g => walk_at "in")))
local macro_rules | `(tactic| walk_at "bd") => `(tactic| first
  | assumption
  | ((with_reducible refine' Vc.ErrAt.ed0 ?e ?h); (case e => assumption); (case h => walk_at "bd")))

namespace My
open PySem PySem.Spec PyProof.Rows L2
abbrev PG : Program := PySem.Challenge.pw_codestitch_k03_code_sets
def topS (i : Nat) : Stmt := PySem.Challenge.pw_codestitch_k03_code_sets.main.body.getD i (.Pass ⟨0, 0, 0, 0⟩)
abbrev s_is_byte : Stmt := topS 10
theorem sc_is_byte : FnScope ["value"] ["value"] (defScope s_is_byte) := ⟨rfl, rfl, rfl, by decide +kernel, rfl, by decide +kernel, by decide +kernel⟩
abbrev s_is_name : Stmt := topS 11
theorem sc_is_name : FnScope ["value", "sign"] ["value"] (defScope s_is_name) := ⟨rfl, rfl, rfl, by decide +kernel, rfl, by decide +kernel, by decide +kernel⟩
abbrev s_Formu_initu : Stmt := inClass (topS 12) 1
theorem sc_Formu_initu : FnScope ["self", "name", "length", "flow", "least"] ["self", "name", "length", "flow"] (defScope s_Formu_initu) := ⟨rfl, rfl, rfl, by decide +kernel, rfl, by decide +kernel, by decide +kernel⟩
abbrev s_check_forms : Stmt := topS 13
theorem sc_check_forms : FnScope ["stop", "forms", "names", "byte"] ["stop", "forms"] (defScope s_check_forms) := ⟨rfl, rfl, rfl, by decide +kernel, rfl, by decide +kernel, by decide +kernel⟩
abbrev s_CodeSetu_initu : Stmt := inClass (topS 14) 2
theorem sc_CodeSetu_initu : FnScope ["self", "stop", "forms", "byte"] ["self", "stop", "forms"] (defScope s_CodeSetu_initu) := ⟨rfl, rfl, rfl, by decide +kernel, rfl, by decide +kernel, by decide +kernel⟩
abbrev s_Formu_equ : Stmt := inClass (topS 12) 2
theorem sc_Formu_equ : FnScope ["self", "other"] ["self", "other"] (defScope s_Formu_equ) := ⟨rfl, rfl, rfl, by decide +kernel, rfl, by decide +kernel, by decide +kernel⟩
abbrev s_Formu_stru : Stmt := inClass (topS 12) 3
theorem sc_Formu_stru : FnScope ["self"] ["self"] (defScope s_Formu_stru) := ⟨rfl, rfl, rfl, by decide +kernel, rfl, by decide +kernel, by decide +kernel⟩
abbrev s_CodeSetu_containsu : Stmt := inClass (topS 14) 4
theorem sc_CodeSetu_containsu : FnScope ["self", "byte"] ["self", "byte"] (defScope s_CodeSetu_containsu) := ⟨rfl, rfl, rfl, by decide +kernel, rfl, by decide +kernel, by decide +kernel⟩
abbrev s_CodeSetu_getitemu : Stmt := inClass (topS 14) 5
theorem sc_CodeSetu_getitemu : FnScope ["self", "byte"] ["self", "byte"] (defScope s_CodeSetu_getitemu) := ⟨rfl, rfl, rfl, by decide +kernel, rfl, by decide +kernel, by decide +kernel⟩
abbrev s_CodeSetu_lenu : Stmt := inClass (topS 14) 6
theorem sc_CodeSetu_lenu : FnScope ["self"] ["self"] (defScope s_CodeSetu_lenu) := ⟨rfl, rfl, rfl, by decide +kernel, rfl, by decide +kernel, by decide +kernel⟩
abbrev s_CodeSet_firsts : Stmt := inClass (topS 14) 8
theorem sc_CodeSet_firsts : FnScope ["self"] ["self"] (defScope s_CodeSet_firsts) := ⟨rfl, rfl, rfl, by decide +kernel, rfl, by decide +kernel, by decide +kernel⟩
abbrev s_CodeSetu_equ : Stmt := inClass (topS 14) 9
theorem sc_CodeSetu_equ : FnScope ["self", "other", "byte"] ["self", "other"] (defScope s_CodeSetu_equ) := ⟨rfl, rfl, rfl, by decide +kernel, rfl, by decide +kernel, by decide +kernel⟩
abbrev s_CodeSet_sample : Stmt := inClass (topS 14) 3
theorem sc_CodeSet_sample : FnScope [] [] (defScope s_CodeSet_sample) := ⟨rfl, rfl, rfl, by decide +kernel, rfl, by decide +kernel, by decide +kernel⟩
abbrev s__law_bag : Stmt := topS 16
theorem sc__law_bag : FnScope ["_law_script", "_law_state", "_law_cell"] ["_law_script"] (defScope s__law_bag) := ⟨rfl, rfl, rfl, by decide +kernel, rfl, by decide +kernel, by decide +kernel⟩
abbrev s__law_draw : Stmt := topS 17
theorem sc__law_draw : FnScope ["_law_bag_here", "_law_limit", "_law_cell", "_law_mixed", "_law_found"] ["_law_bag_here", "_law_limit"] (defScope s__law_draw) := ⟨rfl, rfl, rfl, by decide +kernel, rfl, by decide +kernel, by decide +kernel⟩
abbrev s__law_same : Stmt := topS 20
theorem sc__law_same : FnScope ["_law_actual", "_law_expected", "_law_k"] ["_law_actual", "_law_expected"] (defScope s__law_same) := ⟨rfl, rfl, rfl, by decide +kernel, rfl, by decide +kernel, by decide +kernel⟩
abbrev s__law_forms : Stmt := topS 18
theorem sc__law_forms : FnScope ["_law_bag_here", "_law_halt", "_law_letters", "_law_rest", "_law_place", "_law_table", "_law_k", "_law_byte", "_law_after", "_law_many"] ["_law_bag_here", "_law_halt"] (defScope s__law_forms) := ⟨rfl, rfl, rfl, by decide +kernel, rfl, by decide +kernel, by decide +kernel⟩
abbrev s__law_codes : Stmt := topS 19
theorem sc__law_codes : FnScope ["_law_halt", "_law_table", "_law_made", "_law_byte"] ["_law_halt", "_law_table"] (defScope s__law_codes) := ⟨rfl, rfl, rfl, by decide +kernel, rfl, by decide +kernel, by decide +kernel⟩
abbrev s__law_form_same : Stmt := topS 21
theorem sc__law_form_same : FnScope ["_law_form", "_law_told", "_law_text", "_law_other_here"] ["_law_form", "_law_told"] (defScope s__law_form_same) := ⟨rfl, rfl, rfl, by decide +kernel, rfl, by decide +kernel, by decide +kernel⟩
abbrev s__law_holds : Stmt := topS 22
theorem sc__law_holds : FnScope ["_law_codes_here", "_law_halt", "_law_table", "_law_beyond", "_law_byte", "_law_value"] ["_law_codes_here", "_law_halt", "_law_table", "_law_beyond"] (defScope s__law_holds) := ⟨rfl, rfl, rfl, by decide +kernel, rfl, by decide +kernel, by decide +kernel⟩
abbrev s__law_refused : Stmt := topS 23
theorem sc__law_refused : FnScope ["_law_codes_here", "_law_byte", "error"] ["_law_codes_here", "_law_byte"] (defScope s__law_refused) := ⟨rfl, rfl, rfl, by decide +kernel, rfl, by decide +kernel, by decide +kernel⟩
abbrev s__law_other : Stmt := topS 24
theorem sc__law_other : FnScope ["_law_bag_here", "_law_halt", "_law_table", "_law_other_here", "_law_byte", "_law_firsts", "_law_told", "_law_kind"] ["_law_bag_here", "_law_halt", "_law_table"] (defScope s__law_other) := ⟨rfl, rfl, rfl, by decide +kernel, rfl, by decide +kernel, by decide +kernel⟩
abbrev s_law : Stmt := topS 25
theorem sc_law : FnScope ["_law_script", "_law_bag_here", "_law_halt", "_law_table", "_law_beyond", "_law_made", "_law_byte", "_law_codes_here", "_law_turned", "_law_other_here", "_law_sample"] ["_law_script"] (defScope s_law) := ⟨rfl, rfl, rfl, by decide +kernel, rfl, by decide +kernel, by decide +kernel⟩
abbrev s_BadByteu_initu : Stmt := inClass (topS 6) 0
theorem sc_BadByteu_initu : Vc.SupScope ["self", "at"] ["self", "at"] (defScope s_BadByteu_initu) := ⟨rfl, rfl, rfl, by decide +kernel, rfl, by decide +kernel, by decide +kernel, by decide +kernel, rfl, rfl⟩
structure Ad where
  C_Form : Addr
  C_CodeSet : Addr
  f_is_byte : Addr
  d_is_byte : FuncData
  f_is_name : Addr
  d_is_name : FuncData
  f_Formu_initu : Addr
  d_Formu_initu : FuncData
  f_check_forms : Addr
  d_check_forms : FuncData
  f_CodeSetu_initu : Addr
  d_CodeSetu_initu : FuncData
  f_Formu_equ : Addr
  d_Formu_equ : FuncData
  f_Formu_stru : Addr
  d_Formu_stru : FuncData
  f_CodeSetu_containsu : Addr
  d_CodeSetu_containsu : FuncData
  f_CodeSetu_getitemu : Addr
  d_CodeSetu_getitemu : FuncData
  f_CodeSetu_lenu : Addr
  d_CodeSetu_lenu : FuncData
  f_CodeSet_firsts : Addr
  d_CodeSet_firsts : FuncData
  f_CodeSetu_equ : Addr
  d_CodeSetu_equ : FuncData
  f_CodeSet_sample : Addr
  d_CodeSet_sample : FuncData
  sm_CodeSet_sample : Addr
  f__law_bag : Addr
  d__law_bag : FuncData
  f__law_draw : Addr
  d__law_draw : FuncData
  f__law_same : Addr
  d__law_same : FuncData
  f__law_forms : Addr
  d__law_forms : FuncData
  f__law_codes : Addr
  d__law_codes : FuncData
  f__law_form_same : Addr
  d__law_form_same : FuncData
  f__law_holds : Addr
  d__law_holds : FuncData
  f__law_refused : Addr
  d__law_refused : FuncData
  f__law_other : Addr
  d__law_other : FuncData
  f_law : Addr
  d_law : FuncData
  C_CodeError : Addr
  C_BadInput : Addr
  C_NotRight : Addr
  C_BadByte : Addr
  f_BadByteu_initu : Addr
  d_BadByteu_initu : FuncData
  a_FLOWS : Addr
structure Txt (K : PySem.W.Frag) (mg : Str → Option Value) (A : Ad) : Prop where
  g_Form : mg "Form" = some (.ref A.C_Form)
  g_CodeSet : mg "CodeSet" = some (.ref A.C_CodeSet)
  g_is_byte : mg "is_byte" = some (.ref A.f_is_byte)
  F_is_byte : Fun K "is_byte" "is_byte" s_is_byte A.f_is_byte A.d_is_byte
  b_is_byte : Binds K A.d_is_byte ["value"] []
  g_is_name : mg "is_name" = some (.ref A.f_is_name)
  F_is_name : Fun K "is_name" "is_name" s_is_name A.f_is_name A.d_is_name
  b_is_name : Binds K A.d_is_name ["value"] []
  F_Formu_initu : Fun K "__init__" "Form.__init__" s_Formu_initu A.f_Formu_initu A.d_Formu_initu
  b_Formu_initu : Binds K A.d_Formu_initu ["self", "name", "length", "flow"] []
  g_check_forms : mg "check_forms" = some (.ref A.f_check_forms)
  F_check_forms : Fun K "check_forms" "check_forms" s_check_forms A.f_check_forms A.d_check_forms
  b_check_forms : Binds K A.d_check_forms ["stop", "forms"] []
  F_CodeSetu_initu : Fun K "__init__" "CodeSet.__init__" s_CodeSetu_initu A.f_CodeSetu_initu A.d_CodeSetu_initu
  b_CodeSetu_initu : Binds K A.d_CodeSetu_initu ["self", "stop", "forms"] []
  F_Formu_equ : Fun K "__eq__" "Form.__eq__" s_Formu_equ A.f_Formu_equ A.d_Formu_equ
  b_Formu_equ : Binds K A.d_Formu_equ ["self", "other"] []
  F_Formu_stru : Fun K "__str__" "Form.__str__" s_Formu_stru A.f_Formu_stru A.d_Formu_stru
  b_Formu_stru : Binds K A.d_Formu_stru ["self"] []
  F_CodeSetu_containsu : Fun K "__contains__" "CodeSet.__contains__" s_CodeSetu_containsu A.f_CodeSetu_containsu A.d_CodeSetu_containsu
  b_CodeSetu_containsu : Binds K A.d_CodeSetu_containsu ["self", "byte"] []
  F_CodeSetu_getitemu : Fun K "__getitem__" "CodeSet.__getitem__" s_CodeSetu_getitemu A.f_CodeSetu_getitemu A.d_CodeSetu_getitemu
  b_CodeSetu_getitemu : Binds K A.d_CodeSetu_getitemu ["self", "byte"] []
  F_CodeSetu_lenu : Fun K "__len__" "CodeSet.__len__" s_CodeSetu_lenu A.f_CodeSetu_lenu A.d_CodeSetu_lenu
  b_CodeSetu_lenu : Binds K A.d_CodeSetu_lenu ["self"] []
  F_CodeSet_firsts : Fun K "firsts" "CodeSet.firsts" s_CodeSet_firsts A.f_CodeSet_firsts A.d_CodeSet_firsts
  b_CodeSet_firsts : Binds K A.d_CodeSet_firsts ["self"] []
  F_CodeSetu_equ : Fun K "__eq__" "CodeSet.__eq__" s_CodeSetu_equ A.f_CodeSetu_equ A.d_CodeSetu_equ
  b_CodeSetu_equ : Binds K A.d_CodeSetu_equ ["self", "other"] []
  sm_CodeSet_sample : Vc.SMet K A.C_CodeSet (.type "type") "sample" A.sm_CodeSet_sample A.f_CodeSet_sample
  F_CodeSet_sample : Fun K "sample" "CodeSet.sample" s_CodeSet_sample A.f_CodeSet_sample A.d_CodeSet_sample
  b_CodeSet_sample : Binds K A.d_CodeSet_sample [] []
  g__law_bag : mg "_law_bag" = some (.ref A.f__law_bag)
  F__law_bag : Fun K "_law_bag" "_law_bag" s__law_bag A.f__law_bag A.d__law_bag
  b__law_bag : Binds K A.d__law_bag ["_law_script"] []
  g__law_draw : mg "_law_draw" = some (.ref A.f__law_draw)
  F__law_draw : Fun K "_law_draw" "_law_draw" s__law_draw A.f__law_draw A.d__law_draw
  b__law_draw : Binds K A.d__law_draw ["_law_bag_here", "_law_limit"] []
  g__law_same : mg "_law_same" = some (.ref A.f__law_same)
  F__law_same : Fun K "_law_same" "_law_same" s__law_same A.f__law_same A.d__law_same
  b__law_same : Binds K A.d__law_same ["_law_actual", "_law_expected"] []
  g__law_forms : mg "_law_forms" = some (.ref A.f__law_forms)
  F__law_forms : Fun K "_law_forms" "_law_forms" s__law_forms A.f__law_forms A.d__law_forms
  b__law_forms : Binds K A.d__law_forms ["_law_bag_here", "_law_halt"] []
  g__law_codes : mg "_law_codes" = some (.ref A.f__law_codes)
  F__law_codes : Fun K "_law_codes" "_law_codes" s__law_codes A.f__law_codes A.d__law_codes
  b__law_codes : Binds K A.d__law_codes ["_law_halt", "_law_table"] []
  g__law_form_same : mg "_law_form_same" = some (.ref A.f__law_form_same)
  F__law_form_same : Fun K "_law_form_same" "_law_form_same" s__law_form_same A.f__law_form_same A.d__law_form_same
  b__law_form_same : Binds K A.d__law_form_same ["_law_form", "_law_told"] []
  g__law_holds : mg "_law_holds" = some (.ref A.f__law_holds)
  F__law_holds : Fun K "_law_holds" "_law_holds" s__law_holds A.f__law_holds A.d__law_holds
  b__law_holds : Binds K A.d__law_holds ["_law_codes_here", "_law_halt", "_law_table", "_law_beyond"] []
  g__law_refused : mg "_law_refused" = some (.ref A.f__law_refused)
  F__law_refused : Fun K "_law_refused" "_law_refused" s__law_refused A.f__law_refused A.d__law_refused
  b__law_refused : Binds K A.d__law_refused ["_law_codes_here", "_law_byte"] []
  g__law_other : mg "_law_other" = some (.ref A.f__law_other)
  F__law_other : Fun K "_law_other" "_law_other" s__law_other A.f__law_other A.d__law_other
  b__law_other : Binds K A.d__law_other ["_law_bag_here", "_law_halt", "_law_table"] []
  g_law : mg "law" = some (.ref A.f_law)
  F_law : Fun K "law" "law" s_law A.f_law A.d_law
  b_law : Binds K A.d_law ["_law_script"] []
  cl_Form : Cls K A.C_Form
  mk_Form : Mk K A.C_Form A.f_Formu_initu
  no_Form_name : NoAttr K A.C_Form "name"
  no_Form_length : NoAttr K A.C_Form "length"
  no_Form_flow : NoAttr K A.C_Form "flow"
  cl_CodeSet : Cls K A.C_CodeSet
  mk_CodeSet : Mk K A.C_CodeSet A.f_CodeSetu_initu
  m_CodeSet_firsts : Meth K A.C_CodeSet "firsts" A.f_CodeSet_firsts
  no_CodeSet_stop : NoAttr K A.C_CodeSet "stop"
  no_CodeSet_order : NoAttr K A.C_CodeSet "order"
  no_CodeSet_table : NoAttr K A.C_CodeSet "table"
  n_len : mg "len" = none
  n_abs : mg "abs" = none
  n_int : mg "int" = none
  n_list : mg "list" = none
  n_range : mg "range" = none
  n_isinstance : mg "isinstance" = none
  n_bool : mg "bool" = none
  n_str : mg "str" = none
  n_tuple : mg "tuple" = none
  n_all : mg "all" = none
  n_set : mg "set" = none
  n_sorted : mg "sorted" = none
  n_ValueError : mg "ValueError" = none
  g_LETTERS : ∃ t, mg "LETTERS" = some (.str "abcdefghijklmnopqrstuvwxyz" t)
  g_CodeError : mg "CodeError" = some (.ref A.C_CodeError)
  g_BadInput : mg "BadInput" = some (.ref A.C_BadInput)
  g_NotRight : mg "NotRight" = some (.ref A.C_NotRight)
  g_BadByte : mg "BadByte" = some (.ref A.C_BadByte)
  ox_BadByte : OexC K A.C_BadByte
  i_BadByte : PySem.W.findIn K (.ref A.C_BadByte) "__init__" = some (some (.ref A.f_BadByteu_initu))
  ti_BadByte : PySem.W.typeIn K (.ref A.f_BadByteu_initu) = some (.type "function")
  no_BadByte_at : PySem.W.findIn K (.ref A.C_BadByte) "at" = some none
  xf_BadByte : XfC K A.C_BadByte
  ec_BadByte : ExcC K A.C_BadByte
  F_BadByteu_initu : Vc.FunS PySem.Challenge.pw_codestitch_k03_code_sets K mg "__init__" "BadByte.__init__" s_BadByteu_initu A.f_BadByteu_initu A.d_BadByteu_initu A.C_BadByte "self"
  b_BadByteu_initu : Binds K A.d_BadByteu_initu ["self", "at"] []
  kit_BadByte_BadByte : PySem.W.kitOne K (.ref A.C_BadByte) (.ref A.C_BadByte) = some true
  kit_BadByte_BadInput : PySem.W.kitOne K (.ref A.C_BadByte) (.ref A.C_BadInput) = some true
  kit_BadByte_NotRight : PySem.W.kitOne K (.ref A.C_BadByte) (.ref A.C_NotRight) = some false
  exm_BadByte_CodeError : PySem.W.exmOne K (.ref A.C_BadByte) (.ref A.C_CodeError) = some true
  ic_Form : C8.InsC K A.C_Form
  ic_CodeSet : C8.InsC K A.C_CodeSet
  eq_Form : Vc.EqM K A.C_Form A.f_Formu_equ
  eq_CodeSet : Vc.EqM K A.C_CodeSet A.f_CodeSetu_equ
  kt_NoneType_Form : PySem.W.kitOne K (.type "NoneType") (.ref A.C_Form) = some false
  kt_str_Form : PySem.W.kitOne K (.type "str") (.ref A.C_Form) = some false
  kt_tuple_Form : PySem.W.kitOne K (.type "tuple") (.ref A.C_Form) = some false
  kt_list_Form : PySem.W.kitOne K (.type "list") (.ref A.C_Form) = some false
  kt_int_Form : PySem.W.kitOne K (.type "int") (.ref A.C_Form) = some false
  kt_int_CodeSet : PySem.W.kitOne K (.type "int") (.ref A.C_CodeSet) = some false
  nf_Form_Form : PySem.W.notFirst K A.C_Form (.ref A.C_Form) = true
  nf_NoneType_Form : PySem.W.notFirst K A.C_Form (.type "NoneType") = true
  nf_str_Form : PySem.W.notFirst K A.C_Form (.type "str") = true
  nf_tuple_Form : PySem.W.notFirst K A.C_Form (.type "tuple") = true
  nf_list_Form : PySem.W.notFirst K A.C_Form (.type "list") = true
  nf_int_Form : PySem.W.notFirst K A.C_Form (.type "int") = true
  nf_CodeSet_CodeSet : PySem.W.notFirst K A.C_CodeSet (.ref A.C_CodeSet) = true
  nf_int_CodeSet : PySem.W.notFirst K A.C_CodeSet (.type "int") = true
  sp_CodeSet_CodeSetu_lenu : Vc.SpM K A.C_CodeSet A.f_CodeSetu_lenu "__len__"
  sp_CodeSet_CodeSetu_containsu : Vc.SpM K A.C_CodeSet A.f_CodeSetu_containsu "__contains__"
  sp_CodeSet_CodeSetu_getitemu : Vc.SpM K A.C_CodeSet A.f_CodeSetu_getitemu "__getitem__"
  spf_CodeSetu_getitemu : PySem.W.fnIn K A.f_CodeSetu_getitemu = true
  sp_Form_Formu_stru : Vc.SpM K A.C_Form A.f_Formu_stru "__str__"
  cr_Form : ClX.CRead K A.C_Form (.type "type")
  cr_CodeSet : ClX.CRead K A.C_CodeSet (.type "type")
  cv_FLOWS : ClX.CVal K A.C_Form (.type "type") "FLOWS" (.ref A.a_FLOWS) (.ref A.a_FLOWS)
  q_FLOWS : ∀ H, SqT K H A.a_FLOWS [.str "next", .str "jump", .str "test", .str "end"]
  cv_MOST : ∃ u, ClX.CVal K A.C_CodeSet (.type "type") "MOST_FORMS" (.int 16) u
  cv_MOSTL : ∃ u, ClX.CVal K A.C_CodeSet (.type "type") "MOST_LENGTH" (.int 4) u
end My
namespace My
open PySem PySem.Spec PyProof.Rows L2
theorem ok_BadByteu_initu {w : World} {K : PySem.W.Frag} {mg : Str → Option Value} {base : Heap} {A : Ad} (T : Txt K mg A) : FnOk PySem.Challenge.pw_codestitch_k03_code_sets w K mg base CX0 1 A.f_BadByteu_initu A.d_BadByteu_initu ["self", "at"] (Vc.spErr1 A.C_BadByte "at") := by
  refine T.F_BadByteu_initu.ok sc_BadByteu_initu T.ox_BadByte rfl rfl rfl (fun vs H Q E h => ?_) (fun X => pe_str) (fun _ _ _ => rfl) (fun _ _ _ => rfl) (fun _ _ _ => rfl) (fun _ _ _ => rfl) (fun cda cc Ar outer s H vs Q E h => ?_)
  · obtain ⟨_, _, rfl, _⟩ := h
    rfl
  · obtain ⟨a, h1, h2, h3⟩ := Vc.err_ends1 T.ox_BadByte T.no_BadByte_at h
    exact ⟨a, h1, h2, _, pss_one (ps_ost (pv 0) (pv 1)), h3⟩
end My
namespace My
open PySem PySem.Spec PyProof.Rows L2
/-! ### the bag: what a script's draws come from -/
def bagK (c : Addr) (a r s : Int) : List (Key × V) := [(.inr "cells", .ref c), (.inr "at", .int a), (.inr "rest", .int r), (.inr "state", .int s)]
theorem bag_cells {c a r s} : valV (bagK c a r s) (.inr "cells") = some (.ref c) := by rfl
theorem bag_at {c a r s} : valV (bagK c a r s) (.inr "at") = some (.int a) := by rfl
theorem bag_rest {c a r s} : valV (bagK c a r s) (.inr "rest") = some (.int r) := by rfl
theorem bag_state {c a r s} : valV (bagK c a r s) (.inr "state") = some (.int s) := by rfl
theorem bag_put_at {c a r s x} : putK (bagK c a r s) (.inr "at") (.int x) = bagK c x r s := by rfl
theorem bag_put_rest {c a r s x} : putK (bagK c a r s) (.inr "rest") (.int x) = bagK c a x s := by rfl
theorem bag_put_state {c a r s x} : putK (bagK c a r s) (.inr "state") (.int x) = bagK c a r x := by rfl
local macro_rules | `(tactic| walk_at "dv") => `(tactic| first | exact bag_cells | exact bag_at | exact bag_rest | exact bag_state | assumption | rfl)
theorem bag_n {c a r s} : (bagK c a r s).length ≤ 1000 := by show 4 ≤ 1000; decide
local macro_rules | `(tactic| walk_at "ln") => `(tactic| first | exact bag_n | assumption | (simp only [List.length_cons, List.length_nil, List.length_append, List.length_map]; omega) | decide)
structure BagS (H : Hp) (b c : Addr) (ns : List Int) (a r s : Int) : Prop where
  ob : H b = some (.dK (bagK c a r s))
  cl : H c = some (.lst (ns.map V.int))
  len : ns.length ≤ 63
  a0 : 0 ≤ a
  a1 : a ≤ ns.length
  r0 : 0 ≤ r
  s0 : 0 ≤ s
  s1 : s < 2147483647
def Bag (H : Hp) (b c : Addr) : Prop := ∃ ns a r s, BagS H b c ns a r s
theorem Bag.ed {H H' : Hp} {b c : Addr} {S : List Addr} (h : Bag H b c) (e : Vc.Ed S H H') (hb : b ∉ S) (hc : c ∉ S) : Bag H' b c := by
  obtain ⟨ns, a, r, s, B⟩ := h
  exact ⟨ns, a, r, s, e.keep _ _ hb B.ob, e.keep _ _ hc B.cl, B.len, B.a0, B.a1, B.r0, B.s0, B.s1⟩
theorem Bag.ed0 {H H' : Hp} {b c : Addr} (e : Vc.Ed [] H H') (h : Bag H b c) : Bag H' b c := h.ed e (fun z => nomatch z) (fun z => nomatch z)
theorem Bag.ed1 {H H' : Hp} {b c p : Addr} (e : Vc.Ed [p] H H') (hb : b ≠ p) (hc : c ≠ p) (h : Bag H b c) : Bag H' b c :=
  h.ed e (fun z => hb (List.mem_singleton.mp z)) (fun z => hc (List.mem_singleton.mp z))
theorem Bag.ne {H : Hp} {b c : Addr} (h : Bag H b c) : b ≠ c := by
  obtain ⟨ns, a, r, s, B⟩ := h
  exact ne_of B.ob B.cl (by intro z; cases z)
theorem Bag.fb {H : Hp} {b c p : Addr} (h : Bag H b c) (n : H p = none) : b ≠ p ∧ c ≠ p := by
  obtain ⟨ns, a, r, s, B⟩ := h
  exact ⟨ne_of_none B.ob n, ne_of_none B.cl n⟩
theorem cut_ns {ns : List Int} (h : ns.length ≤ 63) : cutV (ns.map V.int) none (some 63) = ns.map V.int := by
  have e := Vc.cut_take (ns.map V.int) 63
  rw [List.take_of_length_le (by rw [List.length_map]; exact h)] at e
  exact e
def spBag (K : PySem.W.Frag) : Sp := fun vs H Q _ => ∃ (p : Addr) (ns : List Int), vs = [.ref p] ∧ SqL K H p (ns.map V.int) ∧ ns.length ≤ 63 ∧
  ∀ b c H', Vc.Ed [] H H' → Bag H' b c → H b = none → H c = none → Q (.ref b) H'
def spDraw : Sp := fun vs H Q _ => ∃ (b c : Addr) (n : Int), vs = [.ref b, .int n] ∧ Bag H b c ∧ 1 ≤ n ∧ n < 2 ^ 190 ∧
  ∀ i H', 0 ≤ i → i < n → Vc.Ed [b] H H' → Bag H' b c → Q (.int i) H'
section
variable {P : Program} {w : World} {K : PySem.W.Frag} {mg : Str → Option Value} {base : Heap} {A : Ad}
theorem ok__law_draw (T : Txt K mg A) : FnOk P w K mg base CX0 1 A.f__law_draw A.d__law_draw ["_law_bag_here", "_law_limit"] spDraw := by
  refine T.F__law_draw.ok sc__law_draw (fun vs H Q E h => ?_) (fun cdv Ar outer s H vs Q E hr h => ?_)
  · obtain ⟨b, c, n, rfl, _⟩ := h
    rfl
  · obtain ⟨b, c, n, rfl, hB, n1, n2, k⟩ := h
    have hu := hu_of hr
    refine ⟨_, (Evl.pss_cut (ps_while PassesOwn.never (PW.pt (pw_and (pt_cmpR op_lt (pe_dget (by exact hu) (pv 0) pe_str (fun _ _ => rfl)) pe_int (nomark _)) (pw_and1 (pt_cmpR op_lt (pe_dget (by exact hu) (pv 0) pe_str (fun _ _ => rfl)) (pe_callB call_len_seq (by rfl) T.n_len (by decide +kernel) (pa_cons (pe_dget (by exact hu) (pv 0) pe_str (fun _ _ => rfl)) pa_nil)) (nomark _))))) (pss_cons (ps_set (i := 2) sc__law_draw.nd rfl (Or.inl rfl) (pe_callB call_abs (by rfl) T.n_abs (by decide +kernel) (pa_cons (pe_ix ix_list (pe_dget (by exact hu) (pv 0) pe_str (fun _ _ => rfl)) (pe_dget (by exact hu) (pv 0) pe_str (fun _ _ => rfl)) (fun _ _ => rfl)) pa_nil))) (pss_cons (ps_dput (by exact hu) (pv 0) pe_str (pe_op op_add (pe_dget (by exact hu) (pv 0) pe_str (fun _ _ => rfl)) pe_int) rfl) (pss_cons (ps_if (pt_cmpR op_lt (pv 2) (pe_op op_pow pe_int pe_int) (nomark _)) (pss_cons (ps_set (i := 3) sc__law_draw.nd rfl (Or.inl rfl) (pe_op op_mod (pe_callTy call_int1 (by rfl) T.n_int (by decide +kernel) (pa_cons (pe_op op_add (pe_op op_pow (pe_op op_add (pv 2) pe_int) pe_int) (pe_op op_mulW (pe_dget (by exact hu) (pv 0) pe_str (fun _ _ => rfl)) (pe_op op_add (pe_dget (by exact hu) (pv 0) pe_str (fun _ _ => rfl)) pe_int))) pa_nil)) pe_int)) (pss_one (ps_ret (pe_op op_mod (pv 3) (pv 1))))) pss_nil) (pss_one (ps_dput (by exact hu) (pv 0) pe_str (pv 2) rfl)))))) (pss_cons (ps_if (pt_cmpR op_ge (pe_dget (by exact hu) (pv 0) pe_str (fun _ _ => rfl)) pe_int (nomark _)) (pss_cons (ps_set (i := 4) sc__law_draw.nd rfl (Or.inl rfl) (pe_op op_mod (pe_callTy call_int1 (by rfl) T.n_int (by decide +kernel) (pa_cons (pe_dget (by exact hu) (pv 0) pe_str (fun _ _ => rfl)) pa_nil)) (pv 1))) (pss_cons (ps_dput (by exact hu) (pv 0) pe_str (pe_op op_fdivW (pe_dget (by exact hu) (pv 0) pe_str (fun _ _ => rfl)) (pv 1)) rfl) (pss_one (ps_ret (pv 4))))) pss_nil) (pss_cons (ps_dput (by exact hu) (pv 0) pe_str (pe_op op_mod (pe_callTy call_int1 (by rfl) T.n_int (by decide +kernel) (pa_cons (pe_op op_add (pe_op op_mulW (pe_dget (by exact hu) (pv 0) pe_str (fun _ _ => rfl)) pe_int) pe_int) pa_nil)) pe_int) rfl) (pss_one (ps_ret (pe_op op_mod (pe_op op_mod (pe_callTy call_int1 (by rfl) T.n_int (by decide +kernel) (pa_cons (pe_op op_pow (pe_dget (by exact hu) (pv 0) pe_str (fun _ _ => rfl)) pe_int) pa_nil)) pe_int) (pv 1))))))), ?_⟩
    obtain ⟨ns, a, r, s, B⟩ := hB
    refine Evl.q_cut (M := fun σ H' => ∃ y3 y4 a r s, σ = [some (.ref b), some (.int n), y3, y4, none] ∧ BagS H' b c ns a r s ∧ Vc.Ed [b] H H') ?_ ?_
    · -- the loop
      refine ⟨fun m σ H' => ∃ y3 y4 a r s, σ = [some (.ref b), some (.int n), y3, y4, none] ∧ BagS H' b c ns a r s ∧ Vc.Ed [b] H H' ∧ m = ns.length - a.toNat, ⟨_, none, none, a, r, s, rfl, B, Vc.Ed.refl, rfl⟩, ?_⟩
      rintro m σ H1 ⟨y3, y4, a, r, s, rfl, B, e1, rfl⟩
      obtain ⟨hb, hc, hl, ha, ha1, hr0, hs0, hs1⟩ := id B
      walk_at "go"
      refine Vc.go_ite (fun h1 => ?_) (fun h1 => ?_)
      · walk_at "go"
        refine Vc.go_ite (fun h2 => ?_) (fun h2 => ?_)
        · rw [List.length_map] at h2
          refine ⟨fun σ' H' => ∃ y3 y4 a' r s, σ' = [some (.ref b), some (.int n), y3, y4, none] ∧ BagS H' b c ns a' r s ∧ Vc.Ed [b] H H' ∧ ns.length - a'.toNat < ns.length - a.toNat, ?_, ?_⟩
          · rintro σ' H' ⟨y3, y4, a', r, s, e, B', e', l⟩
            exact ⟨_, l, y3, y4, a', r, s, e, B', e', rfl⟩
          have hi : (ns.map V.int)[a.toNat]? = some (.int (ns.getD a.toNat 0)) := by
            rw [List.getElem?_map, List.getElem?_eq_getElem (by omega)]
            simp [List.getD, List.getElem?_eq_getElem (show a.toNat < ns.length by omega)]
          have hx : atI (ns.map V.int) a = some (.int (ns.getD a.toNat 0)) := at_of (by omega) hi
          generalize ns.getD a.toNat 0 = cell at hx
          walk_at "go"
          rw [bag_put_at]
          generalize hu2 : upd _ b _ = H2
          obtain ⟨e2, hb2⟩ := Vc.chg hu2 hb
          generalize hce : (if cell < 0 then -cell else cell) = cl
          have hc0 : 0 ≤ cl := by rw [← hce]; split <;> omega
          walk_at "go"
          refine Vc.go_ite (fun h3 => ?_) (fun h3 => ?_)
          · simp only [Int.reduceToNat, Int.reducePow] at h3
            walk_at "go"
            exact k _ _ (Int.emod_nonneg _ (by omega)) (Int.emod_lt_of_pos _ (by omega)) (by walk_at "ed") ⟨ns, a + 1, r, s, hb2, by walk_at "hs", hl, by omega, by omega, hr0, hs0, hs1⟩
          · walk_at "go"
            rw [bag_put_rest]
            generalize hu3 : upd _ b _ = H3
            obtain ⟨e3, hb3⟩ := Vc.chg hu3 hb2
            exact ⟨_, _, _, _, _, rfl, ⟨hb3, by walk_at "hs", hl, by omega, by omega, hc0, hs0, hs1⟩, by walk_at "ed", by omega⟩
        · exact ⟨_, _, _, _, _, rfl, B, e1⟩
      · walk_at "go"
        exact ⟨_, _, _, _, _, rfl, B, e1⟩
    · rintro σ H1 ⟨y3, y4, a, r, s, rfl, B, e1⟩
      obtain ⟨hb, hc, hl, ha, ha1, hr0, hs0, hs1⟩ := id B
      walk_at "go"
      refine Vc.go_ite (fun h1 => ?_) (fun h1 => ?_)
      · walk_at "go"
        rw [bag_put_rest]
        generalize hu3 : upd _ b _ = H3
        obtain ⟨e3, hb3⟩ := Vc.chg hu3 hb
        walk_at "go"
        exact k _ _ (Int.emod_nonneg _ (by omega)) (Int.emod_lt_of_pos _ (by omega)) (by walk_at "ed") ⟨ns, a, _, s, hb3, by walk_at "hs", hl, by omega, by omega, Int.ediv_nonneg hr0 (by omega), hs0, hs1⟩
      · walk_at "go"
        rw [bag_put_state]
        generalize hu3 : upd _ b _ = H3
        obtain ⟨e3, hb3⟩ := Vc.chg hu3 hb
        walk_at "go"
        exact k _ _ (Int.emod_nonneg _ (by omega)) (Int.emod_lt_of_pos _ (by omega)) (by walk_at "ed") ⟨ns, a, r, _, hb3, by walk_at "hs", hl, by omega, by omega, hr0, Int.emod_nonneg _ (by omega), Int.emod_lt_of_pos _ (by omega)⟩
end
section
variable {P : Program} {w : World} {K : PySem.W.Frag} {mg : Str → Option Value} {base : Heap} {A : Ad}
theorem ok__law_bag (T : Txt K mg A) : FnOk P w K mg base CX0 1 A.f__law_bag A.d__law_bag ["_law_script"] (spBag K) := by
  refine T.F__law_bag.ok sc__law_bag (fun vs H Q E h => ?_) (fun cdv Ar outer s H vs Q E hr h => ?_)
  · obtain ⟨p, ns, rfl, _⟩ := h
    rfl
  · obtain ⟨p, ns, rfl, hS, hl, k⟩ := h
    refine ⟨_, (pss_cons (ps_set (i := 1) sc__law_bag.nd rfl (Or.inl rfl) pe_int) (pss_cons (ps_for PassesOwn.never rfl (pi_list (pe_slice sl_list (pv 0) po_none (po_some pe_int))) (pg_name (i := 2) sc__law_bag.nd rfl (Or.inl rfl)) (pss_one (ps_set (i := 1) sc__law_bag.nd rfl (Or.inl rfl) (pe_op op_mod (pe_callTy call_int1 (by rfl) T.n_int (by decide +kernel) (pa_cons (pe_op op_add (pe_op op_add (pe_op op_mulW (pv 1) pe_int) (pe_op op_mod (pe_callB call_abs (by rfl) T.n_abs (by decide +kernel) (pa_cons (pv 2) pa_nil)) pe_int)) pe_int) pa_nil)) pe_int)))) (pss_one (ps_ret (pe_disp (pps_cons pe_str (pe_callTy Vc.call_lstD (by rfl) T.n_list (by decide +kernel) (pa_cons (pe_slice sl_list (pv 0) po_none (po_some pe_int)) pa_nil)) (pps_cons pe_str pe_int (pps_cons pe_str pe_int (pps_cons pe_str (pv 1) pps_nil)))) (by rfl) (by rfl) (fun z => by cases z) (by decide)))))), ?_⟩
    walk_at "go"
    intro q nq
    generalize hu : upd _ q _ = H2
    obtain ⟨e2, hq⟩ := Vc.alloc hu nq
    refine ⟨q, rfl, ⟨_, by walk_at "hs"⟩, for_list (xs := cutV (ns.map V.int) none (some 63)) (fun i σ H' => ∃ z y, σ = [some (.ref p), some (.int z), y] ∧ 0 ≤ z ∧ z < 2147483647 ∧ H' = H2) ⟨7, none, rfl, by omega, by omega, rfl⟩ ?_ ?_ ?_⟩
    · rintro i σ H' _ ⟨z, y, rfl, _, _, rfl⟩
      walk_at "hs"
    · rintro i x σ H' hi ⟨z, y, rfl, z0, z1, rfl⟩
      have hx : ∃ n, x = .int n := by
        have h1 : x ∈ cutV (ns.map V.int) none (some 63) := List.mem_of_getElem? hi
        unfold cutV at h1
        have h2 := List.mem_of_mem_drop (List.mem_of_mem_take h1)
        obtain ⟨n, _, rfl⟩ := List.mem_map.mp h2
        exact ⟨n, rfl⟩
      obtain ⟨n, rfl⟩ := hx
      walk_at "go"
      generalize (if n < 0 then -n else n) = m
      walk_at "go"
      exact ⟨_, _, rfl, Int.emod_nonneg _ (by omega), Int.emod_lt_of_pos _ (by omega), rfl⟩
    · rintro σ H' ⟨z, y, rfl, z0, z1, rfl⟩
      walk_at "go"
      intro b nb
      generalize hu3 : upd _ b _ = H3
      obtain ⟨e3, hb⟩ := Vc.alloc hu3 nb
      walk_at "go"
      intro q2 nq2
      generalize hu4 : upd _ q2 _ = H4
      obtain ⟨e4, hq2⟩ := Vc.alloc hu4 nq2
      walk_at "go"
      intro c nc
      generalize hu5 : upd _ c _ = H5
      obtain ⟨e5, hc⟩ := Vc.alloc hu5 nc
      walk_at "go"
      refine ⟨by walk_at "hs", bagK c 0 0 z, rfl, by show 4 ≤ 15; decide, ?_⟩
      generalize hu6 : upd _ b _ = H6
      obtain ⟨e6, hb6⟩ := Vc.chg hu6 (by walk_at "hs" : H5 b = some (.dK []))
      have hm : mergeK [] (bagK c 0 0 z) = bagK c 0 0 z := rfl
      rw [hm] at hb6
      rw [cut_ns hl] at hc
      exact k b c H6 (by walk_at "ed") ⟨ns, 0, 0, z, hb6, by walk_at "hs", hl, by omega, by omega, by omega, z0, z1⟩ (by walk_at "free") (by walk_at "free")
end

end My
namespace My
open PySem PySem.Spec PyProof.Rows L2
/-! ### _law_same: data that are the same -/
def Atom (d : PyData) : Prop := d = .none ∨ (∃ b, d = .bool b) ∨ (∃ i, d = .int i) ∨ ∃ x, d = .str x
def Shal : Nat → PyData → Prop
  | 0, d => Atom d
  | n + 1, d => Atom d ∨ ∃ ds, (d = .list ds ∨ d = .tuple ds) ∧ ds.length ≤ 1000 ∧ ∀ x ∈ ds, Shal n x
def spSame (K : PySem.W.Frag) : Nat → Sp
  | 0 => fun _ _ _ _ => False
  | n + 1 => fun vs H Q _ => ∃ (x y : V) (d : PyData), vs = [x, y] ∧ Shal n d ∧ Dp K H x d ∧ Dp K H y d ∧ ∀ H', Vc.Ed [] H H' → Q (.bl true) H'
theorem dpAll_len {K : PySem.W.Frag} {H : Hp} : ∀ {xs : List V} {ds : List PyData}, DpAll K H xs ds → xs.length = ds.length
  | _, _, .nil => rfl
  | _, _, .cons _ t => congrArg (· + 1) (dpAll_len t)
theorem dpAll_get {K : PySem.W.Frag} {H : Hp} : ∀ {xs : List V} {ds : List PyData} {i : Nat} {d : PyData}, DpAll K H xs ds → ds[i]? = some d → ∃ x, xs[i]? = some x ∧ Dp K H x d
  | _, _, _, _, .nil, e => by simp at e
  | _, _, 0, _, .cons h _, e => by simp at e; subst e; exact ⟨_, rfl, h⟩
  | _, _, i + 1, d, .cons _ t, e => by
    obtain ⟨x, h1, h2⟩ := dpAll_get (i := i) (d := d) t (by simpa using e)
    exact ⟨x, by simpa using h1, h2⟩
section
variable {P : Program} {w : World} {K : PySem.W.Frag} {mg : Str → Option Value} {base : Heap} {A : Ad}
theorem ok__law_same (T : Txt K mg A) : ∀ n, FnOk P w K mg base CX0 n A.f__law_same A.d__law_same ["_law_actual", "_law_expected"] (spSame K n)
  | 0 => ⟨fun _ _ _ _ h => h.elim, fun _ _ _ _ _ _ _ _ _ _ _ _ _ h => h.elim⟩
  | n + 1 => by
    have G__law_same := ok__law_same T n
    refine T.F__law_same.ok sc__law_same (fun vs H Q E h => ?_) (fun cdv Ar outer s H vs Q E hr h => ?_)
    · obtain ⟨x, y, d, rfl, _⟩ := h
      rfl
    · obtain ⟨x, y, d, rfl, hd, hx, hy, k⟩ := h
      refine ⟨_, (pss_cons (ps_if (pt_val (pe_callB call_isiT (by rfl) T.n_isinstance (by decide +kernel) (pa_cons (pv 1) (pa_cons (pe_tup (pa_cons (pe_bltn (v := .ty "tuple") (by rfl) T.n_tuple (by decide +kernel) rfl) (pa_cons (pe_bltn (v := .ty "list") (by rfl) T.n_list (by decide +kernel) rfl) pa_nil))) pa_nil)))) (pss_cons (ps_if (PW.pt (pw_or (pt_cmpR op_ne (pe_callB call_isi (by rfl) T.n_isinstance (by decide +kernel) (pa_cons (pv 1) (pa_cons (pe_bltn (v := .ty "tuple") (by rfl) T.n_tuple (by decide +kernel) rfl) pa_nil))) (pe_callB call_isi (by rfl) T.n_isinstance (by decide +kernel) (pa_cons (pv 0) (pa_cons (pe_bltn (v := .ty "tuple") (by rfl) T.n_tuple (by decide +kernel) rfl) pa_nil))) (nomark _)) (pw_or1 (pt_not (pt_val (pe_callB call_isiT (by rfl) T.n_isinstance (by decide +kernel) (pa_cons (pv 0) (pa_cons (pe_tup (pa_cons (pe_bltn (v := .ty "tuple") (by rfl) T.n_tuple (by decide +kernel) rfl) (pa_cons (pe_bltn (v := .ty "list") (by rfl) T.n_list (by decide +kernel) rfl) pa_nil))) pa_nil)))))))) (pss_one (ps_ret pe_bl)) pss_nil) (pss_cons (ps_if (pt_cmpR op_ne (pe_callB call_len_seq (by rfl) T.n_len (by decide +kernel) (pa_cons (pv 0) pa_nil)) (pe_callB call_len_seq (by rfl) T.n_len (by decide +kernel) (pa_cons (pv 1) pa_nil)) (nomark _)) (pss_one (ps_ret pe_bl)) pss_nil) (pss_cons (ps_for PassesOwn.never rfl (pi_range1 (by rfl) T.n_range (pa_cons (pe_callB call_len_seq (by rfl) T.n_len (by decide +kernel) (pa_cons (pv 1) pa_nil)) pa_nil)) (pg_name (i := 2) sc__law_same.nd rfl (Or.inl rfl)) (pss_one (ps_if (pt_not (pt_val (pe_call G__law_same hr (by rfl) T.g__law_same T.F__law_same.kp T.b__law_same .nil pass0 (pa_cons (pe_ix ix_seq (pv 0) (pv 2) (fun _ _ => rfl)) (pa_cons (pe_ix ix_seq (pv 1) (pv 2) (fun _ _ => rfl)) pa_nil))))) (pss_one (ps_ret pe_bl)) pss_nil))) (pss_one (ps_ret pe_bl))))) pss_nil) (pss_cons (ps_if (pt_cmpR op_isN (pv 1) pe_non (nomark _)) (pss_one (ps_ret (pe_cmpR op_isN (pv 0) pe_non (nomark _)))) pss_nil) (pss_cons (ps_if (pt_val (pe_callB call_isi (by rfl) T.n_isinstance (by decide +kernel) (pa_cons (pv 1) (pa_cons (pe_bltn (v := .ty "bool") (by rfl) T.n_bool (by decide +kernel) rfl) pa_nil)))) (pss_one (ps_ret (pe_and (pe_callB call_isi (by rfl) T.n_isinstance (by decide +kernel) (pa_cons (pv 0) (pa_cons (pe_bltn (v := .ty "bool") (by rfl) T.n_bool (by decide +kernel) rfl) pa_nil))) (pe_one (pe_cmpR op_eq (pv 0) (pv 1) (nomark _)))))) pss_nil) (pss_cons (ps_if (pt_val (pe_callB call_isi (by rfl) T.n_isinstance (by decide +kernel) (pa_cons (pv 1) (pa_cons (pe_bltn (v := .ty "int") (by rfl) T.n_int (by decide +kernel) rfl) pa_nil)))) (pss_one (ps_ret (pe_and (pe_callB call_isi (by rfl) T.n_isinstance (by decide +kernel) (pa_cons (pv 0) (pa_cons (pe_bltn (v := .ty "int") (by rfl) T.n_int (by decide +kernel) rfl) pa_nil))) (pe_and (pe_not (pe_callB call_isi (by rfl) T.n_isinstance (by decide +kernel) (pa_cons (pv 0) (pa_cons (pe_bltn (v := .ty "bool") (by rfl) T.n_bool (by decide +kernel) rfl) pa_nil)))) (pe_one (pe_cmpR op_eq (pv 0) (pv 1) (nomark _))))))) pss_nil) (pss_one (ps_ret (pe_and (pe_callB call_isi (by rfl) T.n_isinstance (by decide +kernel) (pa_cons (pv 0) (pa_cons (pe_bltn (v := .ty "str") (by rfl) T.n_str (by decide +kernel) rfl) pa_nil))) (pe_one (pe_cmpR op_eq (pv 0) (pv 1) (nomark _)))))))))), ?_⟩
      cases hy with
      | non =>
        cases hx
        walk_at "go"
        intro p np
        generalize hu : upd _ p _ = H1
        obtain ⟨e1, hp⟩ := Vc.alloc hu np
        walk_at "go"
        exact k _ (by walk_at "ed")
      | bl b =>
        cases hx
        walk_at "go"
        intro p np
        generalize hu : upd _ p _ = H1
        obtain ⟨e1, hp⟩ := Vc.alloc hu np
        walk_at "go"
        show Q (.bl (decide _)) H1
        rw [decide_eq_true rfl]
        exact k _ (by walk_at "ed")
      | int i =>
        cases hx
        walk_at "go"
        intro p np
        generalize hu : upd _ p _ = H1
        obtain ⟨e1, hp⟩ := Vc.alloc hu np
        walk_at "go"
        show Q (.bl (decide _)) H1
        rw [decide_eq_true rfl]
        exact k _ (by walk_at "ed")
      | str z =>
        cases hx
        walk_at "go"
        intro p np
        generalize hu : upd _ p _ = H1
        obtain ⟨e1, hp⟩ := Vc.alloc hu np
        walk_at "go"
        show Q (.bl (decide _)) H1
        rw [decide_eq_true rfl]
        exact k _ (by walk_at "ed")
      | @lst a1 xs1 ds ha ea =>
        cases hx with
        | @lst a2 xs2 _ hb eb =>
        have l1 := dpAll_len ea
        have l2 := dpAll_len eb
        obtain ⟨m, rfl, hn, hds⟩ : ∃ m, n = m + 1 ∧ ds.length ≤ 1000 ∧ ∀ x ∈ ds, Shal m x := by
          cases n with
          | zero => rcases hd with h | ⟨_, h⟩ | ⟨_, h⟩ | ⟨_, h⟩ <;> cases h
          | succ m =>
            rcases hd with (h | ⟨_, h⟩ | ⟨_, h⟩ | ⟨_, h⟩) | ⟨ds', h | h, h1, h2⟩
            all_goals first | (cases h; exact ⟨m, rfl, h1, h2⟩) | cases h
        walk_at "go"
        intro p np
        generalize hu : upd _ p _ = H1
        obtain ⟨e1, hp⟩ := Vc.alloc hu np
        walk_at "go"
        intro p2 np2
        generalize hu2 : upd _ p2 _ = H2
        obtain ⟨e2, hp2⟩ := Vc.alloc hu2 np2
        walk_at "go"
        refine Vc.go_iten (fun h => (h (by omega)).elim) (fun _ => ?_)
        walk_at "go"
        refine ⟨by omega, by omega, for_range (lo := 0) (fun i σ H' => ∃ y3, σ = [some (.ref a2), some (.ref a1), y3] ∧ Vc.Ed [] H2 H') ⟨none, rfl, Vc.Ed.refl⟩ ?_ ?_⟩
        · rintro i σ H3 hi ⟨y3, rfl, e3⟩
          obtain ⟨d, hd⟩ : ∃ d, ds[i]? = some d := ⟨ds[i]'(by omega), List.getElem?_eq_getElem (by omega)⟩
          obtain ⟨v1, g1, q1⟩ := dpAll_get ea hd
          obtain ⟨v2, g2, q2⟩ := dpAll_get eb hd
          have x1 : atI xs1 (0 + (i : Int)) = some v1 := at_of (by omega) g1
          have x2 : atI xs2 (0 + (i : Int)) = some v2 := at_of (by omega) g2
          walk_at "go"
          refine Or.inl ?_
          walk_at "go"
          refine Or.inl ?_
          walk_at "go"
          refine ⟨v2, v1, d, rfl, hds d (List.mem_of_getElem? hd), ?_, ?_, fun H4 e4 => ?_⟩
          · exact Vc.Dp.ed0 e3 (Vc.Dp.ed0 e2 (Vc.Dp.ed0 e1 q2))
          · exact Vc.Dp.ed0 e3 (Vc.Dp.ed0 e2 (Vc.Dp.ed0 e1 q1))
          walk_at "go"
          exact ⟨_, rfl, by walk_at "ed"⟩
        · rintro σ H3 ⟨y3, rfl, e3⟩
          walk_at "go"
          exact k _ (by walk_at "ed")
      | @tup a1 xs1 ds ha ea =>
        cases hx with
        | @tup a2 xs2 _ hb eb =>
        have l1 := dpAll_len ea
        have l2 := dpAll_len eb
        obtain ⟨m, rfl, hn, hds⟩ : ∃ m, n = m + 1 ∧ ds.length ≤ 1000 ∧ ∀ x ∈ ds, Shal m x := by
          cases n with
          | zero => rcases hd with h | ⟨_, h⟩ | ⟨_, h⟩ | ⟨_, h⟩ <;> cases h
          | succ m =>
            rcases hd with (h | ⟨_, h⟩ | ⟨_, h⟩ | ⟨_, h⟩) | ⟨ds', h | h, h1, h2⟩
            all_goals first | (cases h; exact ⟨m, rfl, h1, h2⟩) | cases h
        walk_at "go"
        intro p np
        generalize hu : upd _ p _ = H1
        obtain ⟨e1, hp⟩ := Vc.alloc hu np
        walk_at "go"
        intro p2 np2
        generalize hu2 : upd _ p2 _ = H2
        obtain ⟨e2, hp2⟩ := Vc.alloc hu2 np2
        walk_at "go"
        refine Vc.go_iten (fun h => (h (by omega)).elim) (fun _ => ?_)
        walk_at "go"
        refine ⟨by omega, by omega, for_range (lo := 0) (fun i σ H' => ∃ y3, σ = [some (.ref a2), some (.ref a1), y3] ∧ Vc.Ed [] H2 H') ⟨none, rfl, Vc.Ed.refl⟩ ?_ ?_⟩
        · rintro i σ H3 hi ⟨y3, rfl, e3⟩
          obtain ⟨d, hd⟩ : ∃ d, ds[i]? = some d := ⟨ds[i]'(by omega), List.getElem?_eq_getElem (by omega)⟩
          obtain ⟨v1, g1, q1⟩ := dpAll_get ea hd
          obtain ⟨v2, g2, q2⟩ := dpAll_get eb hd
          have x1 : atI xs1 (0 + (i : Int)) = some v1 := at_of (by omega) g1
          have x2 : atI xs2 (0 + (i : Int)) = some v2 := at_of (by omega) g2
          walk_at "go"
          refine Or.inr <| Or.inl ?_
          walk_at "go"
          refine Or.inr <| Or.inl ?_
          walk_at "go"
          refine ⟨v2, v1, d, rfl, hds d (List.mem_of_getElem? hd), ?_, ?_, fun H4 e4 => ?_⟩
          · exact Vc.Dp.ed0 e3 (Vc.Dp.ed0 e2 (Vc.Dp.ed0 e1 q2))
          · exact Vc.Dp.ed0 e3 (Vc.Dp.ed0 e2 (Vc.Dp.ed0 e1 q1))
          walk_at "go"
          exact ⟨_, rfl, by walk_at "ed"⟩
        · rintro σ H3 ⟨y3, rfl, e3⟩
          walk_at "go"
          exact k _ (by walk_at "ed")
end

end My
namespace My
open PySem PySem.Spec PyProof.Rows L2
/-! ### _law_same of flat values, also while an error is being handled -/
def spSameAt (K : PySem.W.Frag) : Sp := fun vs H Q _ => ∃ (x y : V) (d : PyData), vs = [x, y] ∧ Atom d ∧ Dp K H x d ∧ Dp K H y d ∧ ∀ H', Vc.Ed [] H H' → Q (.bl true) H'
section
variable {P : Program} {w : World} {K : PySem.W.Frag} {mg : Str → Option Value} {base : Heap} {A : Ad}
theorem oh__law_same (T : Txt K mg A) : Vc.FnHt P w K mg base 1 A.f__law_same A.d__law_same ["_law_actual", "_law_expected"] (spSameAt K) := by
  refine Vc.Fun.okH T.F__law_same sc__law_same (fun vs H Q E h => ?_) (fun cdv Ar outer s H vs Q E hr h => ?_)
  · obtain ⟨x, y, d, rfl, _⟩ := h
    rfl
  · obtain ⟨x, y, d, rfl, hd, hx, hy, k⟩ := h
    refine ⟨_, (pss_cons (ps_if (pt_val (pe_callB call_isiT (by rfl) T.n_isinstance (by decide +kernel) (pa_cons (pv 1) (pa_cons (pe_tup (pa_cons (pe_bltn (v := .ty "tuple") (by rfl) T.n_tuple (by decide +kernel) rfl) (pa_cons (pe_bltn (v := .ty "list") (by rfl) T.n_list (by decide +kernel) rfl) pa_nil))) pa_nil)))) (pss_cons (ps_if (PW.pt (pw_or (pt_cmpR op_ne (pe_callB call_isi (by rfl) T.n_isinstance (by decide +kernel) (pa_cons (pv 1) (pa_cons (pe_bltn (v := .ty "tuple") (by rfl) T.n_tuple (by decide +kernel) rfl) pa_nil))) (pe_callB call_isi (by rfl) T.n_isinstance (by decide +kernel) (pa_cons (pv 0) (pa_cons (pe_bltn (v := .ty "tuple") (by rfl) T.n_tuple (by decide +kernel) rfl) pa_nil))) (nomark _)) (pw_or1 (pt_not (pt_val (pe_callB call_isiT (by rfl) T.n_isinstance (by decide +kernel) (pa_cons (pv 0) (pa_cons (pe_tup (pa_cons (pe_bltn (v := .ty "tuple") (by rfl) T.n_tuple (by decide +kernel) rfl) (pa_cons (pe_bltn (v := .ty "list") (by rfl) T.n_list (by decide +kernel) rfl) pa_nil))) pa_nil)))))))) (pss_one (ps_ret pe_bl)) pss_nil) (pss_cons (ps_if (pt_cmpR op_ne (pe_callB call_len_seq (by rfl) T.n_len (by decide +kernel) (pa_cons (pv 0) pa_nil)) (pe_callB call_len_seq (by rfl) T.n_len (by decide +kernel) (pa_cons (pv 1) pa_nil)) (nomark _)) (pss_one (ps_ret pe_bl)) pss_nil) (pss_cons ps_never (pss_one (ps_ret pe_bl))))) pss_nil) (pss_cons (ps_if (pt_cmpR op_isN (pv 1) pe_non (nomark _)) (pss_one (ps_ret (pe_cmpR op_isN (pv 0) pe_non (nomark _)))) pss_nil) (pss_cons (ps_if (pt_val (pe_callB call_isi (by rfl) T.n_isinstance (by decide +kernel) (pa_cons (pv 1) (pa_cons (pe_bltn (v := .ty "bool") (by rfl) T.n_bool (by decide +kernel) rfl) pa_nil)))) (pss_one (ps_ret (pe_and (pe_callB call_isi (by rfl) T.n_isinstance (by decide +kernel) (pa_cons (pv 0) (pa_cons (pe_bltn (v := .ty "bool") (by rfl) T.n_bool (by decide +kernel) rfl) pa_nil))) (pe_one (pe_cmpR op_eq (pv 0) (pv 1) (nomark _)))))) pss_nil) (pss_cons (ps_if (pt_val (pe_callB call_isi (by rfl) T.n_isinstance (by decide +kernel) (pa_cons (pv 1) (pa_cons (pe_bltn (v := .ty "int") (by rfl) T.n_int (by decide +kernel) rfl) pa_nil)))) (pss_one (ps_ret (pe_and (pe_callB call_isi (by rfl) T.n_isinstance (by decide +kernel) (pa_cons (pv 0) (pa_cons (pe_bltn (v := .ty "int") (by rfl) T.n_int (by decide +kernel) rfl) pa_nil))) (pe_and (pe_not (pe_callB call_isi (by rfl) T.n_isinstance (by decide +kernel) (pa_cons (pv 0) (pa_cons (pe_bltn (v := .ty "bool") (by rfl) T.n_bool (by decide +kernel) rfl) pa_nil)))) (pe_one (pe_cmpR op_eq (pv 0) (pv 1) (nomark _))))))) pss_nil) (pss_one (ps_ret (pe_and (pe_callB call_isi (by rfl) T.n_isinstance (by decide +kernel) (pa_cons (pv 0) (pa_cons (pe_bltn (v := .ty "str") (by rfl) T.n_str (by decide +kernel) rfl) pa_nil))) (pe_one (pe_cmpR op_eq (pv 0) (pv 1) (nomark _)))))))))), ?_⟩
    rcases hd with rfl | ⟨b, rfl⟩ | ⟨i, rfl⟩ | ⟨z, rfl⟩
    · cases hy
      cases hx
      walk_at "go"
      intro p np
      generalize hu : upd _ p _ = H1
      obtain ⟨e1, hp⟩ := Vc.alloc hu np
      walk_at "go"
      exact k _ (by walk_at "ed")
    · cases hy
      cases hx
      walk_at "go"
      intro p np
      generalize hu : upd _ p _ = H1
      obtain ⟨e1, hp⟩ := Vc.alloc hu np
      walk_at "go"
      show Q (.bl (decide _)) H1
      rw [decide_eq_true rfl]
      exact k _ (by walk_at "ed")
    · cases hy
      cases hx
      walk_at "go"
      intro p np
      generalize hu : upd _ p _ = H1
      obtain ⟨e1, hp⟩ := Vc.alloc hu np
      walk_at "go"
      show Q (.bl (decide _)) H1
      rw [decide_eq_true rfl]
      exact k _ (by walk_at "ed")
    · cases hy
      cases hx
      walk_at "go"
      intro p np
      generalize hu : upd _ p _ = H1
      obtain ⟨e1, hp⟩ := Vc.alloc hu np
      walk_at "go"
      show Q (.bl (decide _)) H1
      rw [decide_eq_true rfl]
      exact k _ (by walk_at "ed")
end

end My
namespace My
open PySem PySem.Spec PyProof.Rows L2
/-! ### bytes, names, forms, code sets -/
def LET : List Nat := [97, 98, 99, 100, 101, 102, 103, 104, 105, 106, 107, 108, 109, 110, 111, 112, 113, 114, 115, 116, 117, 118, 119, 120, 121, 122]
theorem letters_eq : ("abcdefghijklmnopqrstuvwxyz" : Str).cps.toList = LET := by decide +kernel
def spIsByte : Sp := fun vs H Q _ => ∃ n : Int, vs = [.int n] ∧ ∀ H', Vc.Ed [] H H' → Q (.bl (decide (0 ≤ n ∧ n ≤ 255))) H'
def spIsName : Sp := fun vs H Q _ => ∃ z : Str, vs = [.str z] ∧ 1 ≤ z.length ∧ z.length ≤ 8 ∧ (∀ c ∈ z.cps.toList, c ∈ LET) ∧ ∀ H', Vc.Ed [] H H' → Q (.bl true) H'
section
variable {P : Program} {w : World} {K : PySem.W.Frag} {mg : Str → Option Value} {base : Heap} {A : Ad}
theorem ok_is_byte (T : Txt K mg A) : FnOk P w K mg base CX0 1 A.f_is_byte A.d_is_byte ["value"] spIsByte := by
  refine T.F_is_byte.ok sc_is_byte (fun vs H Q E h => ?_) (fun cdv Ar outer s H vs Q E hr h => ?_)
  · obtain ⟨n, rfl, _⟩ := h
    rfl
  · obtain ⟨n, rfl, k⟩ := h
    refine ⟨_, (pss_one (ps_ret (pe_and (pe_callB call_isi (by rfl) T.n_isinstance (by decide +kernel) (pa_cons (pv 0) (pa_cons (pe_bltn (v := .ty "int") (by rfl) T.n_int (by decide +kernel) rfl) pa_nil))) (pe_and (pe_not (pe_callB call_isi (by rfl) T.n_isinstance (by decide +kernel) (pa_cons (pv 0) (pa_cons (pe_bltn (v := .ty "bool") (by rfl) T.n_bool (by decide +kernel) rfl) pa_nil)))) (pe_one (pe_chain op_le op_le pe_int (pv 0) pe_int)))))), ?_⟩
    walk_at "go"
    refine Vc.go_ite (fun h1 => ?_) (fun h1 => ?_)
    · walk_at "go"
      have e : decide (0 ≤ n ∧ n ≤ 255) = decide (n ≤ 255) := by rw [Bool.eq_iff_iff]; simp [h1]
      have := k H Vc.Ed.refl
      rw [e] at this
      exact this
    · have e : decide (0 ≤ n ∧ n ≤ 255) = false := decide_eq_false (by omega)
      have := k H Vc.Ed.refl
      rw [e] at this
      exact this
theorem ok_is_name (T : Txt K mg A) : FnOk P w K mg base CX0 1 A.f_is_name A.d_is_name ["value"] spIsName := by
  refine T.F_is_name.ok sc_is_name (fun vs H Q E h => ?_) (fun cdv Ar outer s H vs Q E hr h => ?_)
  · obtain ⟨n, rfl, _⟩ := h
    rfl
  · obtain ⟨z, rfl, z1, z2, zl, k⟩ := h
    obtain ⟨_, gc_LETTERS⟩ := T.g_LETTERS
    have lz : z.length ≤ 1000 := by omega
    refine ⟨_, (pss_one (ps_ret (pe_and (pe_callB call_isi (by rfl) T.n_isinstance (by decide +kernel) (pa_cons (pv 0) (pa_cons (pe_bltn (v := .ty "str") (by rfl) T.n_str (by decide +kernel) rfl) pa_nil))) (pe_and (pe_chain op_le op_le pe_int (pe_callB call_len_str (by rfl) T.n_len (by decide +kernel) (pa_cons (pv 0) pa_nil)) pe_int) (pe_one (pe_callB (cr_all rfl) (by rfl) T.n_all (by decide +kernel) (pa_cons (pe_lc (own := [("sign", 1)]) (g := gName 1) rfl sc_is_name.nd (pi_str (pv 0)) (blkOk_by (own := [("sign", 1)]) (N := ["value", "sign"]) (sc := defScope s_is_name) (by decide +kernel)) (fun _ _ _ _ _ => by exact (pg_name (i := 1) sc_is_name.nd rfl (Or.inl rfl))) (fun _ _ _ _ _ => by exact pts_nil) (fun _ _ _ _ _ => by (refine' Vc.blkE ?h ?q; (case h => exact (pe_cmpR op_in_sign (pv 1) (pe_glob (v := .str "abcdefghijklmnopqrstuvwxyz") (by rfl) gc_LETTERS ⟨_, rfl⟩) rfl)); (case q => first | exact rfl | (dsimp only; done) | (dsimp only; exact rfl))))) pa_nil))))))), ?_⟩
    walk_at "goo"
    refine Vc.lc_by walk_str (fun L i H' => Vc.Ed [] H H' ∧ H' L = some (.lst (List.replicate i (.bl true)))) (fun L H2 nL e hL => ⟨e, hL⟩) (fun _ _ _ _ _ _ => trivial) ?_ ?_
    · rintro L i x H1 H' nL hi ⟨e1, hL⟩ ⟨rfl, c, hc, rfl⟩
      have hcl : c ∈ z.cps.toList := by
        rw [Array.mem_toList_iff]
        exact Array.mem_of_getElem? hc
      walk_at "go"
      refine ⟨rfl, ?_⟩
      walk_at "go"
      refine ⟨_, hL, by rw [List.length_replicate]; exact small1000 (by have : z.cps.size = z.length := rfl; omega), ?_⟩
      rw [letters_eq, decide_eq_true (zl c hcl)]
      generalize hu : upd _ L _ = H2
      obtain ⟨e2, hL2⟩ := Vc.chg hu hL
      refine ⟨by walk_at "ed", ?_⟩
      rw [hL2, List.replicate_succ']
    · rintro L H' nL ⟨e1, hL⟩
      walk_at "go"
      refine ⟨L, List.replicate z.cps.size true, rfl, ?_, ?_⟩
      · rw [List.map_replicate]
        exact SqL.of hL
      · have : (List.replicate z.cps.size true).all id = true := by simp
        rw [this]
        exact k _ e1
end
theorem nodup_inl {l : List Int} (h : l.Nodup) : (l.map (fun b => (Sum.inl b : Key))).Nodup := by
  induction l with
  | nil => exact List.nodup_nil
  | cons a r ih =>
    rw [List.nodup_cons] at h
    rw [List.map_cons, List.nodup_cons]
    refine ⟨fun z => ?_, ih h.2⟩
    obtain ⟨b, hb, e⟩ := List.mem_map.mp z
    cases e
    exact h.1 hb
/-! ### a form -/
structure FD where
  byte : Int
  name : Str
  len : Int
  flow : Str
def Flow (x : Str) : Prop := x = "next" ∨ x = "jump" ∨ x = "test" ∨ x = "end"
structure FD.Ok (f : FD) : Prop where
  n1 : 1 ≤ f.name.length
  n8 : f.name.length ≤ 8
  nl : ∀ c ∈ f.name.cps.toList, c ∈ LET
  l1 : 1 ≤ f.len
  l4 : f.len ≤ 4
  fl : Flow f.flow
  two : f.flow = "jump" ∨ f.flow = "test" → 2 ≤ f.len
def formF (n : Str) (l : Int) (f : Str) : List (Str × V) := [("name", .str n), ("length", .int l), ("flow", .str f)]
def FormAt (A : Ad) (H : Hp) (p : Addr) (f : FD) : Prop := ∃ dx, H p = some (.ins A.C_Form dx (formF f.name f.len f.flow))
theorem form_name {n l f} : (formF n l f).lookup ("name" : Str) = some (.str n) := rfl
theorem form_length {n l f} : (formF n l f).lookup ("length" : Str) = some (.int l) := rfl
theorem form_flow {n l f} : (formF n l f).lookup ("flow" : Str) = some (.str f) := rfl
theorem form_put {n l f} : putF "flow" (.str f) (putF "length" (.int l) (putF "name" (.str n) [])) = formF n l f := rfl
theorem inV2 (x a b : Str) : inV (.str x) [.str a, .str b] = decide (x = a ∨ x = b) := by
  rw [Bool.eq_iff_iff, decide_eq_true_eq]
  show (List.any [V.str a, V.str b] fun y => eqV y (V.str x)) = true ↔ _
  simp only [List.any_cons, List.any_nil, Bool.or_false, Bool.or_eq_true, eqV, beq_iff_eq]
  constructor
  · rintro (e | e)
    · exact .inl e.symm
    · exact .inr e.symm
  · rintro (e | e)
    · exact .inl e.symm
    · exact .inr e.symm
def spForm (A : Ad) : Sp := fun vs H Q _ => ∃ (p dx : Addr) (f : FD), vs = [.ref p, .str f.name, .int f.len, .str f.flow] ∧ f.Ok ∧ H p = some (.ins A.C_Form dx []) ∧
  ∀ H', Vc.Ed [p] H H' → FormAt A H' p f → Q .non H'
section
variable {P : Program} {w : World} {K : PySem.W.Frag} {mg : Str → Option Value} {base : Heap} {A : Ad}
theorem ok_Formu_initu (T : Txt K mg A) : FnOk P w K mg base CX0 2 A.f_Formu_initu A.d_Formu_initu ["self", "name", "length", "flow"] (spForm A) := by
  have G_is_name := ok_is_name (P := P) (w := w) (base := base) T
  refine T.F_Formu_initu.ok sc_Formu_initu (fun vs H Q E h => ?_) (fun cdv Ar outer s H vs Q E hr h => ?_)
  · obtain ⟨p, dx, f, rfl, _⟩ := h
    rfl
  · obtain ⟨p, dx, f, rfl, ok, hp, k⟩ := h
    have cr := T.cr_Form
    have cv := T.cv_FLOWS
    have cl := T.cl_Form
    have no1 := T.no_Form_name
    have no2 := T.no_Form_length
    have no3 := T.no_Form_flow
    refine ⟨_, (pss_cons (ps_if (pt_not (pt_val (pe_call G_is_name (by exact hr.mono (by decide)) (by rfl) T.g_is_name T.F_is_name.kp T.b_is_name .nil pass0 (pa_cons (pv 1) pa_nil)))) (pss_one ps_never) pss_nil) (pss_cons (ps_set (i := 4) sc_Formu_initu.nd rfl (Or.inl rfl) (pe_op op_add pe_int (pe_callTy call_int1 (by rfl) T.n_int (by decide +kernel) (pa_cons (pe_cmpR op_in_seq (pv 3) (pe_tup (pa_cons pe_str (pa_cons pe_str pa_nil))) (by rfl)) pa_nil)))) (pss_cons (ps_if (PW.pt (pw_or (pt_not (pt_val (pe_callB call_isi (by rfl) T.n_isinstance (by decide +kernel) (pa_cons (pv 2) (pa_cons (pe_bltn (v := .ty "int") (by rfl) T.n_int (by decide +kernel) rfl) pa_nil))))) (pw_or (pt_val (pe_callB call_isi (by rfl) T.n_isinstance (by decide +kernel) (pa_cons (pv 2) (pa_cons (pe_bltn (v := .ty "bool") (by rfl) T.n_bool (by decide +kernel) rfl) pa_nil)))) (pw_or (pt_cmpR op_lt (pv 2) (pv 4) (nomark _)) (pw_or1 (pt_cmpR op_gt (pv 2) pe_int (nomark _))))))) (pss_one ps_never) pss_nil) (pss_cons (ps_if (pt_cmpR op_notIn_seq (pv 3) (ClX.pe_cval (pe_glob (v := .ref A.C_Form) (by rfl) T.g_Form rfl)) (by rfl)) (pss_one ps_never) pss_nil) (pss_cons (ps_fld (pv 0) (pv 1) rfl) (pss_cons (ps_fld (pv 0) (pv 2) rfl) (pss_one (ps_fld (pv 0) (pv 3) rfl)))))))), ?_⟩
    have qF := T.q_FLOWS
    walk_at "go"
    refine ⟨f.name, rfl, ok.n1, ok.n8, ok.nl, fun H1 e1 => ?_⟩
    walk_at "go"
    intro t nt
    generalize hu : upd _ t _ = H2
    obtain ⟨e2, ht⟩ := Vc.alloc hu nt
    walk_at "go"
    have hb : inV (.str f.flow) [.str "jump", .str "test"] = decide (f.flow = "jump" ∨ f.flow = "test") := inV2 _ _ _
    rw [hb]
    have lb : 1 + (if decide (f.flow = "jump" ∨ f.flow = "test") = true then (1 : Int) else 0) ≤ f.len := by
      split
      · next h => have := ok.two (of_decide_eq_true h); omega
      · have := ok.l1; omega
    generalize 1 + (if decide (f.flow = "jump" ∨ f.flow = "test") = true then (1 : Int) else 0) = m at lb
    have l4 := ok.l4
    walk_at "goo"
    have hf : inV (.str f.flow) [.str "next", .str "jump", .str "test", .str "end"] = true := by
      rcases ok.fl with e | e | e | e <;> rw [e] <;> decide
    rw [hf]
    walk_at "go"
    generalize hu3 : upd _ p _ = H3
    obtain ⟨e3, h3⟩ := Vc.chg hu3 (show H2 p = some (.ins A.C_Form dx []) by walk_at "hs")
    walk_at "go"
    generalize hu4 : upd _ p _ = H4
    obtain ⟨e4, h4⟩ := Vc.chg hu4 h3
    walk_at "go"
    generalize hu5 : upd _ p _ = H5
    obtain ⟨e5, h5⟩ := Vc.chg hu5 h4
    rw [form_put] at h5
    exact k H5 (by walk_at "ed") ⟨dx, h5⟩
end
/-! ### a code set -/
structure Valid (stop : Int) (fs : List FD) : Prop where
  n1 : 1 ≤ fs.length
  n16 : fs.length ≤ 16
  ok : ∀ f ∈ fs, f.Ok
  byt : ∀ f ∈ fs, 0 ≤ f.byte ∧ f.byte ≤ 255 ∧ f.byte ≠ stop
  ndb : (fs.map (·.byte)).Nodup
  ndn : (fs.map (·.name)).Nodup
  s0 : 0 ≤ stop
  s1 : stop ≤ 255
def kvsOf (items : List (FD × Addr)) : List (Key × V) := items.map fun p => (.inl p.1.byte, .ref p.2)
theorem kvsOf_len (items : List (FD × Addr)) : (kvsOf items).length = items.length := List.length_map _
theorem kvsOf_get {items : List (FD × Addr)} {i : Nat} {k : Key} {v : V} (h : (kvsOf items)[i]? = some (k, v)) : ∃ p, items[i]? = some p ∧ k = .inl p.1.byte ∧ v = .ref p.2 := by
  unfold kvsOf at h
  rw [List.getElem?_map] at h
  cases e : items[i]? with
  | none => rw [e] at h; cases h
  | some p => rw [e] at h; cases h; exact ⟨p, rfl, rfl, rfl⟩
/-- what a dict of different first bytes holds at one of them -/
theorem valV_mem {κ : Type} [DecidableEq κ] : ∀ {kvs : List (κ × V)} {k : κ} {v : V}, (kvs.map (·.1)).Nodup → (k, v) ∈ kvs → valV kvs k = some v
  | [], _, _, _, h => by cases h
  | (k', v') :: r, k, v, nd, h => by
    rw [List.map_cons, List.nodup_cons] at nd
    unfold valV
    rw [List.find?_cons]
    rcases List.mem_cons.mp h with e | h
    · cases e
      simp
    · have ne : k' ≠ k := fun e => nd.1 (by rw [e]; exact List.mem_map.mpr ⟨(k, v), h, rfl⟩)
      rw [decide_eq_false ne]
      exact valV_mem nd.2 h
theorem kvsOf_nd {items : List (FD × Addr)} (h : ((items.map (·.1)).map (·.byte)).Nodup) : ((kvsOf items).map (·.1)).Nodup := by
  have e : (kvsOf items).map (·.1) = ((items.map (·.1)).map (·.byte)).map (fun b => (Sum.inl b : Key)) := by
    unfold kvsOf
    simp [List.map_map, Function.comp_def]
  rw [e]
  exact nodup_inl h
theorem kvsOf_val {items : List (FD × Addr)} {p : FD × Addr} (h : ((items.map (·.1)).map (·.byte)).Nodup) (hp : p ∈ items) : valV (kvsOf items) (.inl p.1.byte) = some (.ref p.2) :=
  valV_mem (kvsOf_nd h) (List.mem_map.mpr ⟨p, hp, rfl⟩)
structure MadeAt (A : Ad) (H : Hp) (d : Addr) (items : List (FD × Addr)) : Prop where
  ob : H d = some (.dK (kvsOf items))
  fm : ∀ p ∈ items, FormAt A H p.2 p.1
theorem FormAt.ed {A : Ad} {H H' : Hp} {p : Addr} {f : FD} {S : List Addr} (h : FormAt A H p f) (e : Vc.Ed S H H') (n : p ∉ S) : FormAt A H' p f := by
  obtain ⟨dx, h⟩ := h
  exact ⟨dx, e.keep _ _ n h⟩
theorem FormAt.ed1 {A : Ad} {H H' : Hp} {p q : Addr} {f : FD} (h : FormAt A H p f) (e : Vc.Ed [q] H H') {o : HO} (hq : H q = some o) (k : ∀ C dx fs, o ≠ .ins C dx fs) : FormAt A H' p f := by
  obtain ⟨dx, h⟩ := h
  exact ⟨dx, e.at1 (ne_of h hq fun z => k _ _ _ z.symm) h⟩
theorem FormAt.ed0 {A : Ad} {H H' : Hp} {p : Addr} {f : FD} (e : Vc.Ed [] H H') (h : FormAt A H p f) : FormAt A H' p f := h.ed e (fun z => nomatch z)
def spCheck (A : Ad) : Sp := fun vs H Q _ => ∃ (d : Addr) (stop : Int) (items : List (FD × Addr)), vs = [.int stop, .ref d] ∧ MadeAt A H d items ∧ Valid stop (items.map (·.1)) ∧ ∀ H', Vc.Ed [] H H' → Q .non H'
section
variable {P : Program} {w : World} {K : PySem.W.Frag} {mg : Str → Option Value} {base : Heap} {A : Ad}
theorem ok_check_forms (T : Txt K mg A) : FnOk P w K mg base CX0 2 A.f_check_forms A.d_check_forms ["stop", "forms"] (spCheck A) := by
  have G_is_byte := ok_is_byte (P := P) (w := w) (base := base) T
  refine T.F_check_forms.ok sc_check_forms (fun vs H Q E h => ?_) (fun cdv Ar outer s H vs Q E hr h => ?_)
  · obtain ⟨d, stop, items, rfl, _⟩ := h
    rfl
  · obtain ⟨d, stop, items, rfl, M, Va, k⟩ := h
    have hu := hu_of hr
    have cr := T.cr_CodeSet
    obtain ⟨uM, cv⟩ := T.cv_MOST
    have cl := T.cl_Form
    have no1 := T.no_Form_name
    have hd := M.ob
    have v1 := Va.n1
    have v16 := Va.n16
    rw [List.length_map] at v1 v16
    have kl := kvsOf_len items
    refine ⟨_, (pss_cons (ps_if (PW.pt (pw_or (pt_cmpR op_lt (pe_callB call_lenD (by rfl) T.n_len (by decide +kernel) (pa_cons (pv 1) pa_nil)) pe_int (nomark _)) (pw_or1 (pt_cmpR op_gt (pe_callB call_lenD (by rfl) T.n_len (by decide +kernel) (pa_cons (pv 1) pa_nil)) (ClX.pe_cval (pe_glob (v := .ref A.C_CodeSet) (by rfl) T.g_CodeSet rfl)) (nomark _))))) (pss_one ps_never) pss_nil) (pss_cons (ps_lock (ps_setLc (i := 2) (own := [("byte", 3)]) (g := gName 3) rfl sc_check_forms.nd rfl rfl (sw_true rfl rfl rfl (by decide +kernel)) (pi_keys (pv 1)) (blkOk_by (own := [("byte", 3)]) (N := ["stop", "forms", "names", "byte"]) (sc := defScope s_check_forms) (by decide +kernel)) (fun _ _ _ _ _ => by exact (pg_name (i := 3) sc_check_forms.nd rfl (Or.inl rfl))) (fun _ _ _ _ _ => by exact pts_nil) (fun _ _ _ _ _ => by (refine' Vc.blkE ?h ?q; (case h => exact (pe_fld (pe_dget (by exact hu) (pv 1) (pv 3) (fun _ _ => rfl)) rfl)); (case q => first | exact rfl | (dsimp only; done) | (dsimp only; exact rfl)))))) (pss_cons (ps_if (pt_cmpR op_lt (Setn.pe_lenSetN rfl (by rfl) T.n_len (by rfl) T.n_set (pv 2)) (pe_callB call_len_seq (by rfl) T.n_len (by decide +kernel) (pa_cons (pv 2) pa_nil)) (nomark _)) (pss_one ps_never) pss_nil) (pss_one (ps_lock (ps_for PassesOwn.never rfl (pi_keys (pv 1)) (pg_name (i := 3) sc_check_forms.nd rfl (Or.inl rfl)) (pss_one (ps_if (PW.pt (pw_or (pt_not (pt_val (pe_call G_is_byte (by exact hr.mono (by decide)) (by rfl) T.g_is_byte T.F_is_byte.kp T.b_is_byte .nil pass0 (pa_cons (pv 3) pa_nil)))) (pw_or1 (pt_cmpR op_eq (pv 3) (pv 0) (nomark _))))) (pss_one ps_never) pss_nil)))))))), ?_⟩
    walk_at "goo"
    refine Vc.lockA_keys rfl hd [] (fun H1 L i H' => Vc.Ed [] H1 H' ∧ H' L = some (.lst ((items.take i).map fun p => .str p.1.name))) (fun _ _ _ _ h => h.1) (fun H1 od L H2 e1 h1 nL e2 hL => ⟨e2, hL⟩) ?_ ?_
    · rintro H1 od L i k' v H' e1 nL h1 hk ⟨e2, hL⟩
      obtain ⟨p, hp, rfl, rfl⟩ := kvsOf_get hk
      have hm := List.mem_of_getElem? hp
      have hi : i < items.length := (List.getElem?_eq_some_iff.mp hp).1
      have hv := kvsOf_val Va.ndb hm
      have hF := ((M.fm p hm).ed1 e1 hd (fun _ _ _ => by intro z; cases z)).ed e2 (fun z => nomatch z)
      obtain ⟨dx, hF⟩ := hF
      change gName 3 (V.int p.1.byte) _ _ _
      walk_at "go"
      refine ⟨rfl, ?_⟩
      walk_at "go"
      refine ⟨_, hL, by rw [List.length_map, List.length_take]; exact small1000 (by omega), ?_⟩
      generalize hu2 : upd _ L _ = H3
      obtain ⟨e3, hL3⟩ := Vc.chg hu2 hL
      refine ⟨e2.one e3 (.inr nL), ?_⟩
      rw [List.take_add_one, hp, List.map_append]
      exact hL3
    · rintro H1 L H' H2 nL ⟨e2, hL⟩ e hd2 k2
      have hLd : L ≠ d := fun z => by rw [z, hd] at nL; cases nL
      have hL2 := k2 L _ hLd hL
      have eq : List.map (fun p : FD × Addr => V.str p.1.name) (List.take (kvsOf items).length items) = ((items.map (·.1)).map (·.name)).map V.str := by
        rw [kvsOf_len, List.take_of_length_le (Nat.le_refl _)]
        simp [List.map_map, Function.comp_def]
      rw [eq] at hL2
      have hSq : SqL K H2 L (((items.map (·.1)).map (·.name)).map V.str) := .of hL2
      walk_at "go"
      refine Vc.go_lenSetC hSq (by rw [List.length_map, List.length_map]; omega) ?_
      rw [Setn.cn_nd Va.ndn]
      walk_at "go"
      simp only [List.length_map]
      walk_at "goo"
      refine Vc.lock_keys rfl hd2 [] (fun H1 i σ H' => ∃ y, σ = [some (.int stop), some (.ref d), some (.ref L), y] ∧ Vc.Ed [] H1 H') (fun _ _ _ _ h => h.choose_spec.2) (fun H1 od _ _ => ⟨none, rfl, .refl⟩) ?_ ?_
      · rintro H1 od i k' v σ' H' _ _ h1 hk ⟨y, rfl, e2⟩
        obtain ⟨p, hp, rfl, rfl⟩ := kvsOf_get hk
        have hm := List.mem_of_getElem? hp
        obtain ⟨b0, b1, b2⟩ := Va.byt p.1 (List.mem_map.mpr ⟨p, hm, rfl⟩)
        change gName 3 (V.int p.1.byte) _ _ _
        walk_at "go"
        refine ⟨p.1.byte, rfl, fun H4 e4 => ?_⟩
        rw [decide_eq_true ⟨b0, b1⟩]
        walk_at "goo"
        exact ⟨_, rfl, by walk_at "ed"⟩
      · rintro H1 σ' H' H3 _ ⟨y, rfl, e2⟩ e3 _ _
        exact k _ (by walk_at "ed")
end

end My
namespace My
open PySem PySem.Spec PyProof.Rows L2
/-! ### forms drawn -/
structure TupsAt (H : Hp) (f : Addr) (its : List (FD × Addr)) : Prop where
  ob : H f = some (.dK (kvsOf its))
  tp : ∀ p ∈ its, H p.2 = some (.tup [.str p.1.name, .int p.1.len, .str p.1.flow])
theorem TupsAt.ed {H H' : Hp} {f : Addr} {its : List (FD × Addr)} {S : List Addr} (h : TupsAt H f its) (e : Vc.Ed S H H') (n : f ∉ S) : TupsAt H' f its :=
  ⟨e.keep _ _ n h.ob, fun p hp => e.tup _ _ (h.tp p hp)⟩
theorem TupsAt.ed0 {H H' : Hp} {f : Addr} {its : List (FD × Addr)} (e : Vc.Ed [] H H') (h : TupsAt H f its) : TupsAt H' f its := h.ed e (fun z => nomatch z)
theorem TupsAt.ed1 {H H' : Hp} {f q : Addr} {its : List (FD × Addr)} (e : Vc.Ed [q] H H') (n : f ≠ q) (h : TupsAt H f its) : TupsAt H' f its := h.ed e (fun z => n (List.mem_singleton.mp z))
theorem at_ints {ns : List Int} {i : Int} (h0 : 0 ≤ i) (h1 : i < ns.length) : ∃ n, n ∈ ns ∧ atI (ns.map V.int) i = some (.int n) := by
  refine ⟨ns[i.toNat]'(by omega), List.getElem_mem _, at_of (j := i.toNat) (by omega) ?_⟩
  rw [List.getElem?_map, List.getElem?_eq_getElem (by omega)]; rfl
/-! ### the forms drawn -/
theorem kvs_some {its : List (FD × Addr)} {x : Int} (h : (valV (kvsOf its) (.inl x)).isSome = true) : ∃ p ∈ its, p.1.byte = x := by
  unfold valV at h
  rw [Option.isSome_map] at h
  obtain ⟨kv, e⟩ := Option.isSome_iff_exists.mp h
  have h1 := List.mem_of_find?_eq_some e
  have h2 := List.find?_some e
  have h2 : kv.1 = Sum.inl x := of_decide_eq_true h2
  obtain ⟨p, hp, rfl⟩ := List.mem_map.mp h1
  exact ⟨p, hp, Sum.inl.inj h2⟩
theorem kvs_none {its : List (FD × Addr)} {x : Int} (h : valV (kvsOf its) (.inl x) = none) : ∀ p ∈ its, p.1.byte ≠ x := by
  intro p hp e
  unfold valV at h
  rw [Option.map_eq_none_iff, List.find?_eq_none] at h
  exact h (.inl p.1.byte, .ref p.2) (List.mem_map.mpr ⟨p, hp, rfl⟩) (decide_eq_true (congrArg Sum.inl e))
theorem free_nat : ∀ (n : Nat) (l : List Int), l.length < n → ∃ v : Nat, v < n ∧ (v : Int) ∉ l
  | 0, _, h => absurd h (Nat.not_lt_zero _)
  | n + 1, l, h => by
    by_cases hn : (n : Int) ∈ l
    · obtain ⟨v, hv, hm⟩ := free_nat n (l.filter fun x => !decide (x = n)) (by
        have := List.length_filter_lt_length_iff_exists (l := l) (p := fun x => !decide (x = (n : Int)))
        have := this.mpr ⟨n, hn, by simp⟩
        omega)
      refine ⟨v, by omega, fun z => hm (List.mem_filter.mpr ⟨z, by simp; omega⟩)⟩
    · exact ⟨n, by omega, hn⟩
theorem cutS_take (z : Str) (k : Nat) : cutS z none (some (k : Int)) = ⟨(z.cps.toList.take k).toArray⟩ := by
  unfold cutS
  have e : z.length = z.cps.toList.length := rfl
  rw [e, HT.sIx_nat, HT.sIx_none, List.drop_zero, Nat.sub_zero]
  rcases Nat.le_total k z.cps.toList.length with h | h
  · rw [Nat.min_eq_left h]
  · rw [Nat.min_eq_right h, List.take_length, List.take_of_length_le h]
theorem cutS_drop (z : Str) (k : Nat) : cutS z (some (k : Int)) none = ⟨(z.cps.toList.drop k).toArray⟩ := by
  unfold cutS
  have e : z.length = z.cps.toList.length := rfl
  rw [e, HT.sIx_nat, HT.sIx_none]
  rcases Nat.le_total k z.cps.toList.length with h | h
  · rw [Nat.min_eq_left h, List.take_of_length_le (by rw [List.length_drop]; omega)]
  · rw [Nat.min_eq_right h, List.drop_of_length_le h, List.drop_length, List.take_nil]
def nmOf (cs : List Nat) (s : Nat) (j : Nat) : Str := ⟨(cs.take s ++ (LET.getD j 0 :: cs.drop s)).toArray⟩
theorem nm_eq {cs : List Nat} {s j : Nat} : cutS ⟨cs.toArray⟩ none (some (s : Int)) ++ ⟨#[LET.getD j 0]⟩ ++ cutS ⟨cs.toArray⟩ (some (s : Int)) none = nmOf cs s j := by
  rw [cutS_take, cutS_drop]
  show Str.mk ((_ ++ _) ++ _) = Str.mk _
  refine congrArg Str.mk ?_
  simp
theorem nm_inj {cs : List Nat} {s i j : Nat} (h : nmOf cs s i = nmOf cs s j) : LET.getD i 0 = LET.getD j 0 := by
  unfold nmOf at h
  have h1 := congrArg Array.toList (Str.mk.inj h)
  have h2 := List.append_cancel_left h1
  exact (List.cons.inj h2).1
theorem let_inj {i j : Nat} (hi : i < 26) (hj : j < 26) (h : LET.getD i 0 = LET.getD j 0) : i = j := by
  have a : ∀ i : Fin 26, ∀ j : Fin 26, LET.getD i.1 0 = LET.getD j.1 0 → i = j := by decide +kernel
  exact congrArg Fin.val (a ⟨i, hi⟩ ⟨j, hj⟩ h)
theorem let_mem {j : Nat} (hj : j < 26) : LET.getD j 0 ∈ LET := by
  have a : ∀ i : Fin 26, LET.getD i.1 0 ∈ LET := by decide +kernel
  exact a ⟨j, hj⟩
theorem nm_nodup {cs : List Nat} {s n : Nat} (hn : n ≤ 26) : ((List.range n).map (nmOf cs s)).Nodup := by
  refine List.Pairwise.map _ ?_ (List.Pairwise.and_mem.mp List.nodup_range)
  intro a b ⟨ha, hb, ne⟩ e
  rw [List.mem_range] at ha hb
  exact ne (let_inj (by omega) (by omega) (nm_inj e))
theorem nm_len {cs : List Nat} {s j : Nat} : (nmOf cs s j).length = cs.length + 1 := by
  show (Str.cps _).size = _
  unfold nmOf
  simp only [List.size_toArray, List.length_append, List.length_cons, List.length_take, List.length_drop]
  omega
theorem nm_let {cs : List Nat} {s j : Nat} (hc : ∀ c ∈ cs, c ∈ LET) (hj : j < 26) : ∀ c ∈ (nmOf cs s j).cps.toList, c ∈ LET := by
  intro c hm
  unfold nmOf at hm
  rcases List.mem_append.mp hm with h | h
  · exact hc c (List.mem_of_mem_take h)
  · rcases List.mem_cons.mp h with h | h
    · rw [h]; exact let_mem hj
    · exact hc c (List.mem_of_mem_drop h)
theorem let_at {i : Int} (h0 : 0 ≤ i) (h1 : i < 26) : atI ("abcdefghijklmnopqrstuvwxyz" : Str).cps.toList i = some (LET.getD i.toNat 0) := by
  rw [letters_eq]
  have a : ∀ i : Fin 26, atI LET (i.1 : Int) = some (LET.getD i.1 0) := by decide +kernel
  have := a ⟨i.toNat, by omega⟩
  rwa [show ((⟨i.toNat, by omega⟩ : Fin 26).1 : Int) = i by show (i.toNat : Int) = i; omega] at this
theorem joinL_nil : ∀ (ps : List (List Nat)), TL.joinL [] ps = ps.flatten
  | [] => rfl
  | [p] => by show p = _; simp
  | p :: q :: r => by
    show p ++ ([] ++ TL.joinL [] (q :: r)) = _
    rw [joinL_nil (q :: r)]; simp
theorem join_one (cs : List Nat) : Txt.join "" (cs.map fun c => (⟨#[c]⟩ : Str)) = ⟨cs.toArray⟩ := by
  refine TL.ext_tl ?_
  rw [congrArg TL.tl (TL.join_eq _ _), TL.tl_join]
  have e : TL.tl ("" : Str) = [] := by decide +kernel
  rw [e, joinL_nil, List.map_map]
  show (cs.map fun c => [c]).flatten = cs
  induction cs with
  | nil => rfl
  | cons c r ih => rw [List.map_cons, List.flatten_cons, ih]; rfl
/-- the names drawn -/
def Nms (its : List (FD × Addr)) : Prop := ∃ (cs : List Nat) (s : Nat), cs.length ≤ 7 ∧ (its.map (·.1)).map (·.name) = (List.range its.length).map (nmOf cs s)
def spForms : Sp := fun vs H Q _ => ∃ (b c : Addr) (stop : Int), vs = [.ref b, .int stop] ∧ Bag H b c ∧ 0 ≤ stop ∧ stop ≤ 255 ∧
  ∀ f its H', Vc.Ed [b] H H' → Bag H' b c → H f = none → TupsAt H' f its → Valid stop (its.map (·.1)) → Nms its → Q (.ref f) H'
/-- what is drawn so far -/
structure Drawn (stop : Int) (cs : List Nat) (s : Nat) (its : List (FD × Addr)) : Prop where
  ok : ∀ p ∈ its, p.1.Ok
  byt : ∀ p ∈ its, 0 ≤ p.1.byte ∧ p.1.byte ≤ 255 ∧ p.1.byte ≠ stop
  ndb : ((its.map (·.1)).map (·.byte)).Nodup
  nms : (its.map (·.1)).map (·.name) = (List.range its.length).map (nmOf cs s)
theorem kvsOf_put {its : List (FD × Addr)} {f : FD} {a : Addr} (h : valV (kvsOf its) (.inl f.byte) = none) : putK (kvsOf its) (.inl f.byte) (.ref a) = kvsOf (its ++ [(f, a)]) := by
  rw [putK_new _ h]
  unfold kvsOf
  rw [List.map_append]; rfl
theorem Drawn.put {stop : Int} {cs : List Nat} {s : Nat} {its : List (FD × Addr)} {f : FD} {a : Addr} (h : Drawn stop cs s its) (ok : f.Ok) (b : 0 ≤ f.byte ∧ f.byte ≤ 255 ∧ f.byte ≠ stop) (hn : valV (kvsOf its) (.inl f.byte) = none) (hm : f.name = nmOf cs s its.length) : Drawn stop cs s (its ++ [(f, a)]) where
  ok := fun p hp => by
    rcases List.mem_append.mp hp with hp | hp
    · exact h.ok p hp
    · rw [List.mem_singleton.mp hp]; exact ok
  byt := fun p hp => by
    rcases List.mem_append.mp hp with hp | hp
    · exact h.byt p hp
    · rw [List.mem_singleton.mp hp]; exact b
  ndb := by
    rw [List.map_append, List.map_append, List.nodup_append]
    refine ⟨h.ndb, by simp, fun x hx y hy e => ?_⟩
    obtain ⟨f', hf', rfl⟩ := List.mem_map.mp hx
    obtain ⟨p, hp, rfl⟩ := List.mem_map.mp hf'
    have hy : y = f.byte := by simpa using hy
    exact kvs_none hn p hp (e.trans hy)
  nms := by
    rw [List.map_append, List.map_append, h.nms, List.length_append, List.length_singleton, List.range_succ, List.map_append]
    simp [hm]
section
variable {P : Program} {w : World} {K : PySem.W.Frag} {mg : Str → Option Value} {base : Heap} {A : Ad}
theorem ok__law_forms (T : Txt K mg A) : FnOk P w K mg base CX0 2 A.f__law_forms A.d__law_forms ["_law_bag_here", "_law_halt"] spForms := by
  have G__law_draw := ok__law_draw (P := P) (w := w) (base := base) T
  refine T.F__law_forms.ok sc__law_forms (fun vs H Q E h => ?_) (fun cdv Ar outer s H vs Q E hr h => ?_)
  · obtain ⟨b, c, stop, rfl, _⟩ := h
    rfl
  · obtain ⟨b, c, stop, rfl, hB, s0, s1, k⟩ := h
    have hu := hu_of hr
    have l26 : ("abcdefghijklmnopqrstuvwxyz" : Str).length ≤ 1000 := by decide +kernel
    refine ⟨_, (pss_cons (ps_set (i := 2) sc__law_forms.nd rfl (Or.inr rfl) pe_str) (pss_cons (ps_set (i := 3) sc__law_forms.nd rfl (Or.inl rfl) (pe_join pe_str (pe_lc (own := [("_law_k", 6)]) (g := gName 6) rfl sc__law_forms.nd (pi_range1 (by rfl) T.n_range (pa_cons (pe_call G__law_draw (by exact hr.mono (by decide)) (by rfl) T.g__law_draw T.F__law_draw.kp T.b__law_draw .nil pass0 (pa_cons (pv 0) (pa_cons pe_int pa_nil))) pa_nil)) (blkOk_by (own := [("_law_k", 6)]) (N := ["_law_bag_here", "_law_halt", "_law_letters", "_law_rest", "_law_place", "_law_table", "_law_k", "_law_byte", "_law_after", "_law_many"]) (sc := defScope s__law_forms) (by decide +kernel)) (fun _ _ _ _ _ => by exact (pg_name (i := 6) sc__law_forms.nd rfl (Or.inl rfl))) (fun _ _ _ _ _ => by exact pts_nil) (fun _ _ _ _ _ => by (refine' Vc.blkE ?h ?q; (case h => exact (pe_ix ix_str (pv 2) (pe_call G__law_draw (by exact hr.mono (by decide)) (by rfl) T.g__law_draw T.F__law_draw.kp T.b__law_draw .nil pass0 (pa_cons (pv 0) (pa_cons pe_int pa_nil))) (fun _ _ => rfl))); (case q => first | exact rfl | (dsimp only; done) | (dsimp only; exact rfl))))))) (pss_cons (ps_set (i := 4) sc__law_forms.nd rfl (Or.inl rfl) (pe_call G__law_draw (by exact hr.mono (by decide)) (by rfl) T.g__law_draw T.F__law_draw.kp T.b__law_draw .nil pass0 (pa_cons (pv 0) (pa_cons (pe_op op_add (pe_callB call_len_str (by rfl) T.n_len (by decide +kernel) (pa_cons (pv 3) pa_nil)) pe_int) pa_nil)))) (pss_cons (ps_set (i := 5) sc__law_forms.nd rfl (Or.inl rfl) pe_dnewK) (pss_cons (ps_for PassesOwn.never rfl (pi_range1 (by rfl) T.n_range (pa_cons (pe_op op_add pe_int (pe_call G__law_draw (by exact hr.mono (by decide)) (by rfl) T.g__law_draw T.F__law_draw.kp T.b__law_draw .nil pass0 (pa_cons (pv 0) (pa_cons pe_int pa_nil)))) pa_nil)) (pg_name (i := 6) sc__law_forms.nd rfl (Or.inl rfl)) (pss_cons (ps_set (i := 7) sc__law_forms.nd rfl (Or.inl rfl) (pe_call G__law_draw (by exact hr.mono (by decide)) (by rfl) T.g__law_draw T.F__law_draw.kp T.b__law_draw .nil pass0 (pa_cons (pv 0) (pa_cons pe_int pa_nil)))) (pss_cons (ps_while PassesOwn.never (PW.pt (pw_or (pt_cmpR op_eq (pv 7) (pv 1) (nomark _)) (pw_or1 (pt_cmp (pc_din (by exact hu) (pv 7) (pv 5)))))) (pss_one (ps_set (i := 7) sc__law_forms.nd rfl (Or.inl rfl) (pe_op op_mod (pe_op op_add (pv 7) pe_int) pe_int)))) (pss_cons (ps_set (i := 8) sc__law_forms.nd rfl (Or.inl rfl) (pe_ix ix_list (pe_lst (pa_cons pe_str (pa_cons pe_str (pa_cons pe_str (pa_cons pe_str pa_nil))))) (pe_call G__law_draw (by exact hr.mono (by decide)) (by rfl) T.g__law_draw T.F__law_draw.kp T.b__law_draw .nil pass0 (pa_cons (pv 0) (pa_cons pe_int pa_nil))) (fun _ _ => rfl))) (pss_cons (ps_set (i := 9) sc__law_forms.nd rfl (Or.inl rfl) (pe_op op_add pe_int (pe_call G__law_draw (by exact hr.mono (by decide)) (by rfl) T.g__law_draw T.F__law_draw.kp T.b__law_draw .nil pass0 (pa_cons (pv 0) (pa_cons pe_int pa_nil))))) (pss_cons (ps_if (PW.pt (pw_and (pt_cmpR op_eq (pv 9) pe_int (nomark _)) (pw_and1 (pt_cmpR op_in_seq (pv 8) (pe_lst (pa_cons pe_str (pa_cons pe_str pa_nil))) (by rfl))))) (pss_one (ps_set (i := 9) sc__law_forms.nd rfl (Or.inl rfl) pe_int)) pss_nil) (pss_one (ps_dput (by exact hu) (pv 5) (pv 7) (pe_tup (pa_cons (pe_op op_add_str (pe_op op_add_str (pe_slice sl_str (pv 3) po_none (po_some (pv 4))) (pe_ix ix_str (pv 2) (pv 6) (fun _ _ => rfl))) (pe_slice sl_str (pv 3) (po_some (pv 4)) po_none)) (pa_cons (pv 9) (pa_cons (pv 8) pa_nil)))) rfl)))))))) (pss_one (ps_ret (pv 5)))))))), ?_⟩
    walk_at "go"
    refine ⟨b, c, 8, rfl, hB, by omega, by omega, fun r H1 r0 r1 e1 hB1 => ?_⟩
    walk_at "go"
    refine ⟨by omega, by omega, Vc.lc_by walk_range (fun L i H' => Vc.Ed [b] H H' ∧ Bag H' b c ∧ ∃ cs : List Nat, cs.length = i ∧ (∀ c ∈ cs, c ∈ LET) ∧ H' L = some (.lst (cs.map fun c => .str ⟨#[c]⟩))) (fun L H2 nL e2 hL => ⟨by walk_at "ed", hB1.ed0 e2, [], rfl, (by intro c h; cases h), hL⟩) (fun _ _ _ _ _ _ => trivial) ?_ ?_⟩
    · rintro L i x H2 H3 nL hi ⟨e2, hB2, cs, lc, hc, hL⟩ ⟨rfl, rfl⟩
      walk_at "go"
      refine ⟨rfl, ?_⟩
      walk_at "go"
      refine ⟨b, c, 26, rfl, hB2, by omega, by omega, fun v H4 v0 v1 e4 hB4 => ?_⟩
      have hv := let_at v0 v1
      walk_at "go"
      have nb := hB1.fb nL
      have nL0 := e1.dom _ nL
      have hL4 := e4.at1 nb.1.symm hL
      refine ⟨_, hL4, by rw [List.length_map]; exact small1000 (by omega), ?_⟩
      generalize hu5 : upd _ L _ = H5
      obtain ⟨e5, hL5⟩ := Vc.chg hu5 hL4
      refine ⟨by walk_at "ed", hB4.ed1 e5 nb.1 nb.2, cs ++ [LET.getD v.toNat 0], by rw [List.length_append, lc]; rfl, fun c' hc' => ?_, by rw [List.map_append]; exact hL5⟩
      rcases List.mem_append.mp hc' with h | h
      · exact hc c' h
      · rw [List.mem_singleton.mp h]; exact let_mem (by omega)
    · rintro L H2 nL ⟨e2, hB2, cs, lc, hc, hL⟩
      walk_at "go"
      have hL' : SqL K H2 L ((cs.map fun c => (⟨#[c]⟩ : Str)).map V.str) := by rw [List.map_map]; exact .of hL
      refine Vc.go_join hL' ?_ ?_
      · have e0 : ("" : Str).length = 0 := by decide +kernel
        have e1 : (List.map (fun x : Str => x.length) (List.map (fun c => { cps := #[c] }) cs)).sum = cs.length := by
          clear hL hc lc hL'
          induction cs with
          | nil => rfl
          | cons c r ih =>
            rw [List.map_cons, List.map_cons, List.sum_cons, ih, List.length_cons]
            show 1 + r.length = r.length + 1
            omega
        rw [e0, e1]
        omega
      rw [join_one]
      have zl : (⟨cs.toArray⟩ : Str).length = cs.length := by show cs.toArray.size = _; simp
      have zl1 : (⟨cs.toArray⟩ : Str).length ≤ 1000 := by omega
      walk_at "go"
      rw [zl]
      refine ⟨b, c, _, rfl, hB2, by omega, by omega, fun sp H3 p0 p1 e3 hB3 => ?_⟩
      walk_at "go"
      intro f nf
      generalize hu4 : upd _ f _ = H4
      obtain ⟨e4, hf4⟩ := Vc.alloc hu4 nf
      walk_at "go"
      refine ⟨b, c, 16, rfl, hB3.ed0 e4, by omega, by omega, fun n H5 n0 n1 e5 hB5 => ?_⟩
      have nfb := (hB3.fb nf).1.symm
      have nf0 : H f = none := by walk_at "free"
      have ee : Vc.Ed [b] H H5 := by walk_at "ed"
      have hf5 := e5.at1 nfb hf4
      walk_at "go"
      obtain ⟨s, rfl⟩ : ∃ s : Nat, sp = (s : Int) := ⟨sp.toNat, by omega⟩
      have cl7 : cs.length ≤ 7 := by omega
      have fin : ∀ (its : List (FD × Addr)) (H' : Hp), Vc.Ed [b] H H' → Bag H' b c → TupsAt H' f its → Drawn stop cs s its → 1 ≤ its.length → its.length ≤ 16 → Q (.ref f) H' := by
        intro its H' e hB hT hD l1 l16
        refine k f its H' e hB nf0 hT ⟨by rw [List.length_map]; exact l1, by rw [List.length_map]; exact l16, ?_, ?_, hD.ndb, ?_, s0, s1⟩ ⟨cs, s, cl7, hD.nms⟩
        · intro f' hf'
          obtain ⟨p, hp, rfl⟩ := List.mem_map.mp hf'
          exact hD.ok p hp
        · intro f' hf'
          obtain ⟨p, hp, rfl⟩ := List.mem_map.mp hf'
          exact hD.byt p hp
        · rw [hD.nms]; exact nm_nodup (by omega)
      refine ⟨by omega, by omega, for_range (lo := 0) (fun i σ H' => ∃ y6 y7 y8 y9 its, σ = [some (.ref b), some (.int stop), some (.str "abcdefghijklmnopqrstuvwxyz"), some (.str ⟨cs.toArray⟩), some (.int (s : Int)), some (.ref f), y6, y7, y8, y9] ∧ Vc.Ed [b] H H' ∧ Bag H' b c ∧ TupsAt H' f its ∧ Drawn stop cs s its ∧ its.length = i) ⟨none, none, none, none, [], rfl, ee, hB5, ⟨hf5, (by intro p h; cases h)⟩, ⟨(by intro p h; cases h), (by intro p h; cases h), (by simp), rfl⟩, rfl⟩ ?_ ?_⟩
      · rintro i σ H6 hi ⟨y6, y7, y8, y9, its, rfl, e6, hB6, hT6, hD, li⟩
        have hi : i < 16 := by omega
        walk_at "go"
        refine ⟨b, c, 256, rfl, hB6, by omega, by omega, fun byte H7 b0 b1 e7 hB7 => ?_⟩
        have hT7 := hT6.ed1 e7 nfb
        walk_at "go"
        obtain ⟨v, v256, hv⟩ := free_nat 256 (stop :: (its.map (·.1)).map (·.byte)) (by simp; omega)
        refine ⟨fun m σ H' => ∃ byte : Int, σ = [some (.ref b), some (.int stop), some (.str "abcdefghijklmnopqrstuvwxyz"), some (.str ⟨cs.toArray⟩), some (.int (s : Int)), some (.ref f), some (.int (0 + (i : Int))), some (.int byte), y8, y9] ∧ 0 ≤ byte ∧ byte < 256 ∧ H' = H7 ∧ m = (((v : Int) - byte) % 256).toNat, ⟨_, byte, rfl, b0, b1, rfl, rfl⟩, ?_⟩
        rintro m σ H' ⟨byte, rfl, b0, b1, rfl, rfl⟩
        have hd7 := hT7.ob
        walk_at "go"
        refine Vc.go_ite (fun h1 => ?_) (fun h1 => ?_)
        · have ne : byte ≠ v := fun z => hv (List.mem_cons.mpr (.inl (z.symm.trans h1)))
          walk_at "go"
          refine ⟨fun σ' H'' => ∃ byte' : Int, σ' = [some (.ref b), some (.int stop), some (.str "abcdefghijklmnopqrstuvwxyz"), some (.str ⟨cs.toArray⟩), some (.int (s : Int)), some (.ref f), some (.int (0 + (i : Int))), some (.int byte'), y8, y9] ∧ 0 ≤ byte' ∧ byte' < 256 ∧ H'' = H' ∧ (((v : Int) - byte') % 256).toNat < (((v : Int) - byte) % 256).toNat, ?_, ?_⟩
          · rintro σ' H'' ⟨byte', e1, e2, e3, e4, e5⟩
            exact ⟨_, e5, byte', e1, e2, e3, e4, rfl⟩
          · walk_at "go"
            exact ⟨_, rfl, by omega, by omega, rfl, by omega⟩
        · walk_at "go"
          refine Vc.go_iteb (fun h2 => ?_) (fun h2 => ?_)
          · have ne : byte ≠ v := fun z => hv (List.mem_cons_of_mem _ (by
              obtain ⟨p, hp, e⟩ := kvs_some h2
              exact List.mem_map.mpr ⟨p.1, List.mem_map.mpr ⟨p, hp, rfl⟩, e.trans z⟩))
            walk_at "go"
            refine ⟨fun σ' H'' => ∃ byte' : Int, σ' = [some (.ref b), some (.int stop), some (.str "abcdefghijklmnopqrstuvwxyz"), some (.str ⟨cs.toArray⟩), some (.int (s : Int)), some (.ref f), some (.int (0 + (i : Int))), some (.int byte'), y8, y9] ∧ 0 ≤ byte' ∧ byte' < 256 ∧ H'' = H' ∧ (((v : Int) - byte') % 256).toNat < (((v : Int) - byte) % 256).toNat, ?_, ?_⟩
            · rintro σ' H'' ⟨byte', e1, e2, e3, e4, e5⟩
              exact ⟨_, e5, byte', e1, e2, e3, e4, rfl⟩
            · walk_at "go"
              exact ⟨_, rfl, by omega, by omega, rfl, by omega⟩
          · have hn : valV (kvsOf its) (.inl byte) = none := Option.not_isSome_iff_eq_none.mp (by rw [h2]; decide)
            walk_at "go"
            intro M nM
            generalize hu8 : upd _ M _ = H8
            obtain ⟨e8, hM⟩ := Vc.alloc hu8 nM
            walk_at "go"
            refine ⟨b, c, 4, rfl, hB7.ed0 e8, by omega, by omega, fun fi H9 f0 f1 e9 hB9 => ?_⟩
            obtain ⟨fl, hfl, hfa⟩ : ∃ fl, Flow fl ∧ atI [V.str "next", .str "jump", .str "test", .str "end"] fi = some (.str fl) := by
              have : fi = 0 ∨ fi = 1 ∨ fi = 2 ∨ fi = 3 := by omega
              rcases this with e | e | e | e <;> subst e
              · exact ⟨"next", .inl rfl, rfl⟩
              · exact ⟨"jump", .inr (.inl rfl), rfl⟩
              · exact ⟨"test", .inr (.inr (.inl rfl)), rfl⟩
              · exact ⟨"end", .inr (.inr (.inr rfl)), rfl⟩
            have hM9 := e9.at1 (hB7.fb nM).1.symm hM
            walk_at "go"
            refine ⟨b, c, 4, rfl, hB9, by omega, by omega, fun li0 H10 l0 l1 e10 hB10 => ?_⟩
            have zt : (cutS ⟨cs.toArray⟩ none (some (s : Int))).length ≤ 7 := Nat.le_trans (cutS_length _ _ _) (by omega)
            have zd : (cutS ⟨cs.toArray⟩ (some (s : Int)) none).length ≤ 7 := Nat.le_trans (cutS_length _ _ _) (by omega)
            have ha : atI ("abcdefghijklmnopqrstuvwxyz" : Str).cps.toList (0 + (i : Int)) = some (LET.getD i 0) := by
              have := let_at (i := 0 + (i : Int)) (by omega) (by omega)
              rwa [show (0 + (i : Int)).toNat = i by omega] at this
            have z1 : (cutS ⟨cs.toArray⟩ none (some (s : Int))).length + (⟨#[LET.getD i 0]⟩ : Str).length ≤ 1000 := by
              have : (⟨#[LET.getD i 0]⟩ : Str).length = 1 := rfl
              omega
            have z2 : (cutS ⟨cs.toArray⟩ none (some (s : Int)) ++ (⟨#[LET.getD i 0]⟩ : Str)).length + (cutS ⟨cs.toArray⟩ (some (s : Int)) none).length ≤ 1000 := by
              have : (cutS ⟨cs.toArray⟩ none (some (s : Int)) ++ (⟨#[LET.getD i 0]⟩ : Str)).length = (cutS ⟨cs.toArray⟩ none (some (s : Int))).length + 1 := by
                show (_ ++ _ : Array Nat).size = _
                rw [Array.size_append]; rfl
              omega
            have kl : (kvsOf its).length ≤ 1000 := by rw [kvsOf_len]; omega
            have enm := nm_eq (cs := cs) (s := s) (j := i)
            have hT8 := (hT7.ed0 e8).ed1 e9 nfb
            have hT10 := hT8.ed1 e10 nfb
            have hfl_H10 := hT10.ob
            have tps_H10 := hT10.tp
            have hB_H10 := hB10
            walk_at "go"
            refine Vc.go_ite (fun h3 => ?_) (fun h3 => ?_)
            · walk_at "go"
              intro M2 nM2
              generalize hu11 : upd _ M2 _ = H11
              obtain ⟨e11, hM2⟩ := Vc.alloc hu11 nM2
              have hfl_H11 := e11.at0 hfl_H10
              have tps_H11 := (hT10.ed0 e11).tp
              have hB_H11 := hB10.ed0 e11
              walk_at "go"
              rw [inV2]
              refine Vc.go_ite (fun h4 => ?_) (fun h4 => ?_)
              · walk_at "go"
                intro tp ntp
                generalize hu12 : upd _ tp _ = H12
                obtain ⟨e12, ht12⟩ := Vc.alloc hu12 ntp
                have hf12 : H12 f = some (.dK (kvsOf its)) := e12.at0 (hfl_H11)
                walk_at "go"
                generalize hu13 : upd _ f _ = H13
                obtain ⟨e13, hf13⟩ := Vc.chg hu13 hf12
                rw [enm] at ht12
                rw [kvsOf_put (f := ⟨byte, nmOf cs s i, 2, fl⟩) hn] at hf13
                have hB12 : Bag H12 b c := hB_H11.ed0 e12
                refine ⟨_, _, _, _, its ++ [(⟨byte, nmOf cs s i, 2, fl⟩, tp)], rfl, (by walk_at "ed"), hB12.ed1 e13 nfb.symm (fun z => ?_), ⟨hf13, fun p hp => ?_⟩, hD.put ⟨by rw [nm_len]; omega, by rw [nm_len]; omega, nm_let hc (by omega), by show (1 : Int) ≤ 2; omega, by show 2 ≤ (4 : Int); omega, hfl, fun _ => by show (2 : Int) ≤ 2; omega⟩ ⟨b0, by show byte ≤ 255; omega, h1⟩ hn (by rw [li]), by rw [List.length_append, li]; rfl⟩
                · obtain ⟨_, _, _, _, B⟩ := hB12
                  have := B.cl
                  rw [z, hf12] at this
                  cases this
                · refine e13.tup _ _ ?_
                  rcases List.mem_append.mp hp with hp | hp
                  · exact e12.tup _ _ (tps_H11 p hp)
                  · rw [List.mem_singleton.mp hp]; exact ht12
              · walk_at "go"
                intro tp ntp
                generalize hu12 : upd _ tp _ = H12
                obtain ⟨e12, ht12⟩ := Vc.alloc hu12 ntp
                have hf12 : H12 f = some (.dK (kvsOf its)) := e12.at0 (hfl_H11)
                walk_at "go"
                generalize hu13 : upd _ f _ = H13
                obtain ⟨e13, hf13⟩ := Vc.chg hu13 hf12
                rw [enm] at ht12
                rw [kvsOf_put (f := ⟨byte, nmOf cs s i, 1 + li0, fl⟩) hn] at hf13
                have hB12 : Bag H12 b c := hB_H11.ed0 e12
                refine ⟨_, _, _, _, its ++ [(⟨byte, nmOf cs s i, 1 + li0, fl⟩, tp)], rfl, (by walk_at "ed"), hB12.ed1 e13 nfb.symm (fun z => ?_), ⟨hf13, fun p hp => ?_⟩, hD.put ⟨by rw [nm_len]; omega, by rw [nm_len]; omega, nm_let hc (by omega), by show (1 : Int) ≤ 1 + li0; omega, by show 1 + li0 ≤ (4 : Int); omega, hfl, fun h => (h4 h).elim⟩ ⟨b0, by show byte ≤ 255; omega, h1⟩ hn (by rw [li]), by rw [List.length_append, li]; rfl⟩
                · obtain ⟨_, _, _, _, B⟩ := hB12
                  have := B.cl
                  rw [z, hf12] at this
                  cases this
                · refine e13.tup _ _ ?_
                  rcases List.mem_append.mp hp with hp | hp
                  · exact e12.tup _ _ (tps_H11 p hp)
                  · rw [List.mem_singleton.mp hp]; exact ht12
            · walk_at "go"
              intro tp ntp
              generalize hu12 : upd _ tp _ = H12
              obtain ⟨e12, ht12⟩ := Vc.alloc hu12 ntp
              have hf12 : H12 f = some (.dK (kvsOf its)) := e12.at0 (hfl_H10)
              walk_at "go"
              generalize hu13 : upd _ f _ = H13
              obtain ⟨e13, hf13⟩ := Vc.chg hu13 hf12
              rw [enm] at ht12
              rw [kvsOf_put (f := ⟨byte, nmOf cs s i, 1 + li0, fl⟩) hn] at hf13
              have hB12 : Bag H12 b c := hB_H10.ed0 e12
              refine ⟨_, _, _, _, its ++ [(⟨byte, nmOf cs s i, 1 + li0, fl⟩, tp)], rfl, (by walk_at "ed"), hB12.ed1 e13 nfb.symm (fun z => ?_), ⟨hf13, fun p hp => ?_⟩, hD.put ⟨by rw [nm_len]; omega, by rw [nm_len]; omega, nm_let hc (by omega), by show (1 : Int) ≤ 1 + li0; omega, by show 1 + li0 ≤ (4 : Int); omega, hfl, fun _ => by show (2 : Int) ≤ 1 + li0; omega⟩ ⟨b0, by show byte ≤ 255; omega, h1⟩ hn (by rw [li]), by rw [List.length_append, li]; rfl⟩
              · obtain ⟨_, _, _, _, B⟩ := hB12
                have := B.cl
                rw [z, hf12] at this
                cases this
              · refine e13.tup _ _ ?_
                rcases List.mem_append.mp hp with hp | hp
                · exact e12.tup _ _ (tps_H10 p hp)
                · rw [List.mem_singleton.mp hp]; exact ht12
      · rintro σ H6 ⟨y6, y7, y8, y9, its, rfl, e6, hB6, hT6, hD, li⟩
        walk_at "go"
        exact fin its H6 e6 hB6 hT6 hD (by omega) (by omega)
end

end My
namespace My
open PySem PySem.Spec PyProof.Rows L2
/-! ### a code set as it stands: its stop, its order, its table; the forms ascending by their bytes -/
theorem lift_perm {α β : Type} {f : α → β} : ∀ {l : List β} {items : List α}, l.Perm (items.map f) → ∃ sel : List α, sel.Perm items ∧ sel.map f = l
  | [], items, h => by
    have := h.length_eq
    rw [List.length_nil, List.length_map] at this
    exact ⟨[], by rw [List.eq_nil_of_length_eq_zero this.symm], rfl⟩
  | b :: l, items, h => by
    obtain ⟨a, ha, rfl⟩ := List.mem_map.mp ((h.mem_iff).mp List.mem_cons_self)
    obtain ⟨s, t, rfl⟩ := List.append_of_mem ha
    have h1 : (f a :: l).Perm (f a :: (s ++ t).map f) := h.trans ((List.perm_middle (a := a) (l₁ := s) (l₂ := t)).map f)
    obtain ⟨sel, p, e⟩ := lift_perm (h1.cons_inv)
    exact ⟨a :: sel, (p.cons a).trans List.perm_middle.symm, by rw [List.map_cons, e]⟩
def codesF (stop : Int) (o t : Addr) : List (Str × V) := [("stop", .int stop), ("order", .ref o), ("table", .ref t)]
theorem codes_put {s o t} : putF "table" (.ref t) (putF "order" (.ref o) (putF "stop" (.int s) [])) = codesF s o t := rfl
theorem codes_table {s o t} : (codesF s o t).lookup ("table" : Str) = some (.ref t) := rfl
theorem codes_order {s o t} : (codesF s o t).lookup ("order" : Str) = some (.ref o) := rfl
theorem codes_stop {s o t} : (codesF s o t).lookup ("stop" : Str) = some (.int s) := rfl
structure CodeO where
  c : Addr
  dx : Addr
  o : Addr
  t : Addr
  stop : Int
  items : List (FD × Addr)
def CodeO.fs (x : CodeO) : List FD := x.items.map (·.1)
structure CodeO.At (A : Ad) (H : Hp) (x : CodeO) : Prop where
  ob : H x.c = some (.ins A.C_CodeSet x.dx (codesF x.stop x.o x.t))
  od : H x.o = some (.lst ((x.items.map fun p => p.1.byte).map V.int))
  tb : H x.t = some (.dK (kvsOf x.items))
  fm : ∀ p ∈ x.items, FormAt A H p.2 p.1
theorem kvOOf_put {items : List (FD × Addr)} {p : FD × Addr} (h : valV (kvsOf items) (.inl p.1.byte) = none) : putK (kvsOf items) (.inl p.1.byte) (.ref p.2) = kvsOf (items ++ [p]) := kvsOf_put (f := p.1) (a := p.2) h
theorem kvO_some {its : List (FD × Addr)} {x : Int} (h : (valV (kvsOf its) (.inl x)).isSome = true) : ∃ p ∈ its, p.1.byte = x := kvs_some h
theorem kvO_none {its : List (FD × Addr)} {x : Int} (h : ∀ p ∈ its, p.1.byte ≠ x) : valV (kvsOf its) (.inl x) = none := by
  cases e : valV (kvsOf its) (.inl x) with
  | none => rfl
  | some v =>
    obtain ⟨p, hp, hx⟩ := kvO_some (its := its) (x := x) (by rw [e]; rfl)
    exact (h p hp hx).elim
theorem nd_take {its : List (FD × Addr)} {i : Nat} {p : FD × Addr} (nd : ((its.map (·.1)).map (·.byte)).Nodup) (hp : its[i]? = some p) : ∀ q ∈ its.take i, q.1.byte ≠ p.1.byte := by
  intro q hq e
  have h1 : (((its.take (i + 1)).map (·.1)).map (·.byte)).Nodup := nd.sublist (((List.take_sublist (i + 1) its).map _).map _)
  rw [List.take_add_one, hp, List.map_append, List.map_append, List.nodup_append] at h1
  exact h1.2.2 q.1.byte (List.mem_map.mpr ⟨q.1, List.mem_map.mpr ⟨q, hq, rfl⟩, rfl⟩) p.1.byte (by simp) e
theorem Valid.perm {s : Int} {fs gs : List FD} (h : Valid s fs) (p : gs.Perm fs) : Valid s gs :=
  ⟨by rw [p.length_eq]; exact h.n1, by rw [p.length_eq]; exact h.n16, fun f hf => h.ok f (p.mem_iff.mp hf), fun f hf => h.byt f (p.mem_iff.mp hf), (p.map _).nodup_iff.mpr h.ndb, (p.map _).nodup_iff.mpr h.ndn, h.s0, h.s1⟩
theorem CodeO.At.ed {A : Ad} {H H' : Hp} {x : CodeO} {S : List Addr} (h : x.At A H) (e : Vc.Ed S H H') (n1 : x.c ∉ S) (n2 : x.o ∉ S) (n3 : x.t ∉ S) (n4 : ∀ p ∈ x.items, p.2 ∉ S) : x.At A H' :=
  ⟨e.keep _ _ n1 h.ob, e.keep _ _ n2 h.od, e.keep _ _ n3 h.tb, fun p hp => (h.fm p hp).ed e (n4 p hp)⟩
theorem CodeO.At.ed0 {A : Ad} {H H' : Hp} {x : CodeO} (e : Vc.Ed [] H H') (h : x.At A H) : x.At A H' := h.ed e (fun z => nomatch z) (fun z => nomatch z) (fun z => nomatch z) (fun _ _ z => nomatch z)
/-- a change of the bag -/
theorem kvs_bag {items : List (FD × Addr)} {c : Addr} {a r s : Int} : kvsOf items ≠ bagK c a r s := by
  intro z
  cases items with
  | nil => cases z
  | cons p r => injection z with z _; injection z with z _; cases z
theorem CodeO.At.bag {A : Ad} {H H' : Hp} {x : CodeO} {b c : Addr} (e : Vc.Ed [b] H H') (B : Bag H b c) (h : x.At A H) : x.At A H' := by
  obtain ⟨ns, a, r, s, B⟩ := B
  refine h.ed e (fun z => ?_) (fun z => ?_) (fun z => ?_) fun p hp z => ?_
  · have := h.ob; rw [List.mem_singleton.mp z, B.ob] at this; cases this
  · have := h.od; rw [List.mem_singleton.mp z, B.ob] at this; cases this
  · have := h.tb; rw [List.mem_singleton.mp z, B.ob] at this; injection this with this; injection this with this; exact kvs_bag this.symm
  · obtain ⟨d, h⟩ := h.fm p hp; rw [List.mem_singleton.mp z, B.ob] at h; cases h
/-- a change of what was not there -/
theorem CodeO.At.new {A : Ad} {H0 H H' : Hp} {x : CodeO} {q : Addr} (e : Vc.Ed [q] H H') (n : H0 q = none) (h0 : x.At A H0) (h : x.At A H) : x.At A H' := by
  refine h.ed e (fun z => ?_) (fun z => ?_) (fun z => ?_) fun p hp z => ?_
  · have := h0.ob; rw [List.mem_singleton.mp z, n] at this; cases this
  · have := h0.od; rw [List.mem_singleton.mp z, n] at this; cases this
  · have := h0.tb; rw [List.mem_singleton.mp z, n] at this; cases this
  · obtain ⟨d, h⟩ := h0.fm p hp; rw [List.mem_singleton.mp z, n] at h; cases h
def CodeO.Ok (x : CodeO) : Prop := Valid x.stop x.fs ∧ (x.fs.map (·.byte)).Pairwise (· ≤ ·)
def spCodes (A : Ad) : Sp := fun vs H Q _ => ∃ (p dx d : Addr) (stop : Int) (items : List (FD × Addr)), vs = [.ref p, .int stop, .ref d] ∧ MadeAt A H d items ∧ Valid stop (items.map (·.1)) ∧ H p = some (.ins A.C_CodeSet dx []) ∧
  ∀ (x : CodeO) (H' : Hp), x.c = p → x.stop = stop → x.items.Perm items → x.Ok → Vc.Ed [p] H H' → H x.t = none → H x.o = none → x.At A H' → Q .non H'
section
variable {P : Program} {w : World} {K : PySem.W.Frag} {mg : Str → Option Value} {base : Heap} {A : Ad}
theorem ok_CodeSetu_initu (T : Txt K mg A) : FnOk P w K mg base CX0 3 A.f_CodeSetu_initu A.d_CodeSetu_initu ["self", "stop", "forms"] (spCodes A) := by
  have G_is_byte := ok_is_byte (P := P) (w := w) (base := base) T
  have G_check_forms := ok_check_forms (P := P) (w := w) (base := base) T
  refine T.F_CodeSetu_initu.ok sc_CodeSetu_initu (fun vs H Q E h => ?_) (fun cdv Ar outer s H vs Q E hr h => ?_)
  · obtain ⟨p, dx, d, stop, items, rfl, _⟩ := h
    rfl
  · obtain ⟨p, dx, d, stop, items, rfl, M, Va, hp, k⟩ := h
    have hu := hu_of hr
    have cl := T.cl_CodeSet
    have no1 := T.no_CodeSet_stop
    have no2 := T.no_CodeSet_order
    have no3 := T.no_CodeSet_table
    have v16 := Va.n16
    rw [List.length_map] at v16
    refine ⟨_, (pss_cons (ps_if (pt_not (pt_val (pe_call G_is_byte (by exact hr.mono (by decide)) (by rfl) T.g_is_byte T.F_is_byte.kp T.b_is_byte .nil pass0 (pa_cons (pv 1) pa_nil)))) (pss_one ps_never) pss_nil) (pss_cons (ps_expr (pe_call G_check_forms (by exact hr.mono (by decide)) (by rfl) T.g_check_forms T.F_check_forms.kp T.b_check_forms .nil pass0 (pa_cons (pv 1) (pa_cons (pv 2) pa_nil)))) (pss_cons (ps_fld (pv 0) (pv 1) rfl) (pss_cons (ps_fld (pv 0) (pe_callB cr_sorted (by rfl) T.n_sorted (by decide +kernel) (pa_cons (pe_callTy (call_list_dK rfl) (by rfl) T.n_list (by decide +kernel) (pa_cons (pv 2) pa_nil)) pa_nil)) rfl) (pss_one (ps_fld (pv 0) (pe_dc (own := [("byte", 3)]) (g := gName 3) rfl sc_CodeSetu_initu.nd (pi_list (pe_fld (pv 0) rfl)) (blkOk_by (own := [("byte", 3)]) (N := ["self", "stop", "forms", "byte"]) (sc := defScope s_CodeSetu_initu) (by decide +kernel)) (fun _ _ _ _ _ => by exact (pg_name (i := 3) sc_CodeSetu_initu.nd rfl (Or.inl rfl))) (fun _ _ _ _ _ => by exact pts_nil) (fun _ _ _ _ _ => by (refine' Vc.blkE ?h ?q; (case h => exact (pv 3)); (case q => first | exact rfl | (dsimp only; done) | (dsimp only; exact rfl)))) (fun _ _ _ _ _ => by (refine' Vc.blkE ?h ?q; (case h => exact (pe_dget (by exact hu) (pv 2) (pv 3) (fun _ _ => rfl))); (case q => first | exact rfl | (dsimp only; done) | (dsimp only; exact rfl))))) rfl)))))), ?_⟩
    walk_at "go"
    refine ⟨stop, rfl, fun H1 e1 => ?_⟩
    rw [decide_eq_true ⟨Va.s0, Va.s1⟩]
    walk_at "go"
    refine ⟨d, stop, items, rfl, ⟨e1.at0 M.ob, fun q hq => (M.fm q hq).ed0 e1⟩, Va, fun H2 e2 => ?_⟩
    have hp2 : H2 p = some (.ins A.C_CodeSet dx []) := by walk_at "hs"
    walk_at "go"
    generalize hu3 : upd _ p _ = H3
    obtain ⟨e3, h3⟩ := Vc.chg hu3 hp2
    have hd3 : H3 d = some (.dK (kvsOf items)) := e3.at1 (ne_of M.ob hp (by intro z; cases z)) (by have := M.ob; walk_at "hs")
    walk_at "go"
    intro L nL
    generalize hu4 : upd _ L _ = H4
    obtain ⟨e4, hL⟩ := Vc.alloc hu4 nL
    have eq : (kvsOf items).map (fun kv => kV kv.1) = ((items.map (·.1)).map (·.byte)).map V.int := by
      unfold kvsOf
      simp only [List.map_map, Function.comp_def, kV]
    rw [eq] at hL
    walk_at "go"
    refine Vc.go_sorted (.of hL) (by rw [List.length_map, List.length_map]; omega) fun ns o perm srt no => ?_
    generalize hu5 : upd _ o _ = H5
    obtain ⟨e5, ho⟩ := Vc.alloc hu5 no
    have h3' : H5 p = some (.ins A.C_CodeSet dx (putF "stop" (.int stop) [])) := by walk_at "hs"
    walk_at "go"
    generalize hu6 : upd _ p _ = H6
    obtain ⟨e6, h6⟩ := Vc.chg hu6 h3'
    walk_at "go"
    have ho6 : H6 o = some (.lst (ns.map V.int)) := by walk_at "hs"
    have hd6 : H6 d = some (.dK (kvsOf items)) := by walk_at "hs"
    obtain ⟨sel, sp, se⟩ : ∃ sel : List (FD × Addr), sel.Perm items ∧ sel.map (fun p => p.1.byte) = ns := lift_perm (by rw [List.map_map] at perm; exact perm)
    have nl : ns.length = sel.length := by rw [← se, List.length_map]
    have sl : sel.length = items.length := sp.length_eq
    have Vs : Valid stop (sel.map (·.1)) := Va.perm (sp.map _)
    refine ⟨⟨_, .of ho6⟩, Vc.dc_by (walk_list (xs := ns.map V.int)) (fun t i H' => Vc.Ed [] H6 H' ∧ H' t = some (.dK (kvsOf (sel.take i)))) ?_ ?_ ?_ ?_⟩
    · intro t H7 nt e7 ht
      exact ⟨e7, ht⟩
    · rintro t i H' _ _ ⟨e7, _⟩
      exact .of (e7.at0 ho6)
    · rintro t i x H7 H8 nt hi ⟨e7, ht⟩ ⟨rfl, hx⟩
      rw [List.length_map, nl] at hi
      have hsel : sel[i]? = some sel[i] := List.getElem?_eq_getElem hi
      generalize sel[i] = q0 at hsel
      rw [← se, List.getElem?_map, List.getElem?_map, hsel] at hx
      cases hx
      have hq0 : q0 ∈ items := sp.mem_iff.mp (List.mem_of_getElem? hsel)
      have hv0 := kvsOf_val Va.ndb hq0
      walk_at "go"
      refine ⟨rfl, ?_⟩
      walk_at "go"
      refine ⟨_, .inl q0.1.byte, rfl, ht, small1000 (by rw [kvsOf_len, List.length_take]; omega), ?_⟩
      generalize hu8 : upd _ t _ = H9
      obtain ⟨e9, h9⟩ := Vc.chg hu8 ht
      refine ⟨e7.one e9 (.inr nt), ?_⟩
      rw [h9, kvOOf_put (kvO_none (nd_take Vs.ndb hsel)), List.take_add_one, hsel]; rfl
    · rintro t H7 nt ⟨e7, ht⟩
      rw [List.length_map, nl, List.take_of_length_le (Nat.le_refl _)] at ht
      have h7 : H7 p = _ := e7.at0 h6
      have nt0 : H t = none := by walk_at "free"
      have no0 : H o = none := by walk_at "free"
      walk_at "go"
      generalize hu8 : upd _ p _ = H8
      obtain ⟨e8, h8⟩ := Vc.chg hu8 h7
      rw [codes_put] at h8
      have ee : Vc.Ed [p] H H8 := by walk_at "ed"
      have ntp : t ≠ p := fun z => by rw [z, h6] at nt; cases nt
      have nop : o ≠ p := fun z => by have h4 : H4 p = _ := e4.at0 h3; rw [z, h4] at no; cases no
      have ho8 : H8 o = some (.lst (ns.map V.int)) := e8.at1 nop (e7.at0 ho6)
      rw [← se] at ho8
      refine k ⟨p, dx, o, t, stop, sel⟩ H8 rfl rfl sp ⟨Vs, ?_⟩ ee nt0 no0 ⟨h8, ho8, e8.at1 ntp ht, fun q hq => ?_⟩
      · show List.Pairwise _ (List.map _ (List.map _ sel))
        rw [List.map_map]
        rw [← se] at srt
        exact srt
      · obtain ⟨dq, hF⟩ := M.fm q (sp.mem_iff.mp hq)
        exact ⟨dq, ee.at1 (ne_of hF hp (by intro z; injection z with _ _ z; cases z)) hF⟩
end

end My
namespace My
open PySem PySem.Spec PyProof.Rows L2
/-! ### k02: code sets made, the law's own decoding, what is asked -/
theorem fresh_byte {its : List (FD × Addr)} {i : Nat} {p : FD × Addr} (nd : ((its.map (·.1)).map (·.byte)).Nodup) (hp : its[i]? = some p) : ∀ f ∈ (its.take i).map (·.1), f.byte ≠ p.1.byte := by
  intro f hf e
  obtain ⟨q, hq, rfl⟩ := List.mem_map.mp hf
  exact nd_take nd hp q hq e
def spMadeCodes (A : Ad) : Sp := fun vs H Q _ => ∃ (f : Addr) (stop : Int) (its : List (FD × Addr)), vs = [.int stop, .ref f] ∧ TupsAt H f its ∧ Valid stop (its.map (·.1)) ∧
  ∀ (x : CodeO) (H' : Hp), Vc.Ed [] H H' → x.stop = stop → x.fs.Perm (its.map (·.1)) → x.Ok → x.At A H' → Q (.ref x.c) H'
section
variable {P : Program} {w : World} {K : PySem.W.Frag} {mg : Str → Option Value} {base : Heap} {A : Ad}
theorem ok__law_codes (T : Txt K mg A) : FnOk P w K mg base CX0 5 A.f__law_codes A.d__law_codes ["_law_halt", "_law_table"] (spMadeCodes A) := by
  have G_Formu_initu := ok_Formu_initu (P := P) (w := w) (base := base) T
  have G_CodeSetu_initu := ok_CodeSetu_initu (P := P) (w := w) (base := base) T
  refine T.F__law_codes.ok sc__law_codes (fun vs H Q E h => ?_) (fun cdv Ar outer s H vs Q E hr h => ?_)
  · obtain ⟨f, stop, its, rfl, _⟩ := h
    rfl
  · obtain ⟨f, stop, its, rfl, TA, Va, k⟩ := h
    have hu := hu_of hr
    have v1 := Va.n1
    have v16 := Va.n16
    rw [List.length_map] at v1 v16
    refine ⟨_, (pss_cons (ps_set (i := 2) sc__law_codes.nd rfl (Or.inl rfl) pe_dnewK) (pss_cons (ps_lock (ps_for PassesOwn.never rfl (pi_keys (pv 1)) (pg_name (i := 3) sc__law_codes.nd rfl (Or.inl rfl)) (pss_one (ps_dput (by exact hu) (pv 2) (pv 3) (pe_make T.mk_Form G_Formu_initu (by exact hr.mono (by decide)) (by rfl) T.g_Form T.b_Formu_initu .nil pass0 (pa_cons (pe_ix ix_tup (pe_dget (by exact hu) (pv 1) (pv 3) (fun _ _ => rfl)) pe_int (fun _ _ => rfl)) (pa_cons (pe_ix ix_tup (pe_dget (by exact hu) (pv 1) (pv 3) (fun _ _ => rfl)) pe_int (fun _ _ => rfl)) (pa_cons (pe_ix ix_tup (pe_dget (by exact hu) (pv 1) (pv 3) (fun _ _ => rfl)) pe_int (fun _ _ => rfl)) pa_nil)))) rfl)))) (pss_one (ps_ret (pe_make T.mk_CodeSet G_CodeSetu_initu (by exact hr.mono (by decide)) (by rfl) T.g_CodeSet T.b_CodeSetu_initu .nil pass0 (pa_cons (pv 0) (pa_cons (pv 2) pa_nil))))))), ?_⟩
    walk_at "go"
    intro m nm
    generalize hu2 : upd _ m _ = H2
    obtain ⟨e2, hm⟩ := Vc.alloc hu2 nm
    have T2 := TA.ed0 e2
    have nfm : f ≠ m := ne_of_none TA.ob nm
    walk_at "go"
    refine Vc.lock_keys rfl T2.ob [m] (fun H1 i σ H' => ∃ y items, σ = [some (.int stop), some (.ref f), some (.ref m), y] ∧ Vc.Ed [m] H1 H' ∧ MadeAt A H' m items ∧ (∀ q ∈ items, q.2 ≠ f) ∧ items.map (·.1) = (its.take i).map (·.1)) (fun _ _ _ _ h => h.choose_spec.choose_spec.2.1) (fun H1 od e1 _ => ⟨none, [], rfl, .refl, ⟨e1.at1 nfm.symm hm, (by intro p h; cases h)⟩, (by intro p h; cases h), by simp⟩) ?_ ?_
    · rintro H1 od i k' v σ H' e1 h1 h1' hk ⟨y, items, rfl, e3, M, nf, hi⟩
      obtain ⟨p, hp, rfl, rfl⟩ := kvsOf_get hk
      have hmem := List.mem_of_getElem? hp
      have hv := kvsOf_val Va.ndb hmem
      have ok := Va.ok p.1 (List.mem_map.mpr ⟨p, hmem, rfl⟩)
      have htp : H' p.2 = some (.tup [.str p.1.name, .int p.1.len, .str p.1.flow]) := e3.tup _ _ (e1.tup _ _ (T2.tp p hmem))
      have a0 : atI [V.str p.1.name, .int p.1.len, .str p.1.flow] 0 = some (.str p.1.name) := rfl
      have a1 : atI [V.str p.1.name, .int p.1.len, .str p.1.flow] 1 = some (.int p.1.len) := rfl
      have a2 : atI [V.str p.1.name, .int p.1.len, .str p.1.flow] 2 = some (.str p.1.flow) := rfl
      have hi16 : i < its.length := (List.getElem?_eq_some_iff.mp hp).1
      change gName 3 (V.int p.1.byte) _ _ _
      walk_at "go"
      intro x dx nx ndx ne
      generalize hu4 : upd _ x _ = H4
      obtain ⟨e4, hx, hdx⟩ := Vc.allocI hu4 nx ndx ne
      refine ⟨x, dx, p.1, rfl, ok, hx, fun H5 e5 hF => ⟨rfl, ?_⟩⟩
      have nmx : m ≠ x := ne_of_none M.ob nx
      have hm5 : H5 m = some (.dK (kvsOf items)) := e5.at1 nmx (e4.at0 M.ob)
      have hil : items.length = i := by
        have := congrArg List.length hi
        rw [List.length_map, List.length_map, List.length_take] at this
        omega
      have kl : (kvsOf items).length ≤ 1000 := by rw [kvsOf_len]; omega
      walk_at "go"
      generalize hu6 : upd _ m _ = H6
      obtain ⟨e6, hm6⟩ := Vc.chg hu6 hm5
      have nx1 : H1 x = none := e3.dom _ nx
      have hn : valV (kvsOf items) (.inl p.1.byte) = none := kvO_none fun q hq => fresh_byte Va.ndb hp q.1 (hi ▸ List.mem_map.mpr ⟨q, hq, rfl⟩)
      rw [kvsOf_put (f := p.1) hn] at hm6
      refine ⟨_, items ++ [(p.1, x)], rfl, (by walk_at "ed"), ⟨hm6, fun q hq => ?_⟩, fun q hq => ?_, ?_⟩
      · rcases List.mem_append.mp hq with hq | hq
        · obtain ⟨dq, hq'⟩ := M.fm q hq
          exact ((M.fm q hq).ed0 e4 |>.ed e5 (fun z => ne_of_none hq' nx (List.mem_singleton.mp z))).ed1 e6 hm5 (fun _ _ _ => by intro z; cases z)
        · rw [List.mem_singleton.mp hq]
          exact hF.ed1 e6 hm5 (fun _ _ _ => by intro z; cases z)
      · rcases List.mem_append.mp hq with hq | hq
        · exact nf q hq
        · rw [List.mem_singleton.mp hq]
          exact (ne_of_none h1' nx).symm
      · rw [List.map_append, hi, List.take_add_one, hp, List.map_append]; rfl
    · rintro H1 σ H' H3 e1 ⟨y, items, rfl, e3, M, nf, hi⟩ e4 hf4 k2
      rw [kvsOf_len, List.take_of_length_le (Nat.le_refl _)] at hi
      have M3 : MadeAt A H3 m items := ⟨k2 _ _ nfm.symm M.ob, fun q hq => by
        obtain ⟨dq, hq'⟩ := M.fm q hq
        exact ⟨dq, k2 _ _ (nf q hq) hq'⟩⟩
      walk_at "go"
      intro x dx nx ndx ne
      generalize hu4 : upd _ x _ = H4
      obtain ⟨e5, hx, hdx⟩ := Vc.allocI hu4 nx ndx ne
      refine ⟨x, dx, m, stop, items, rfl, ⟨e5.at0 M3.ob, fun q hq => (M3.fm q hq).ed0 e5⟩, hi ▸ Va, hx, fun c H5 hxc hst hpm ok e6 nt no CA => ⟨rfl, ?_⟩⟩
      rw [← hxc]
      rw [← hxc] at e6
      have nx0 : H4 c.c ≠ none := by rw [hxc, hx]; intro z; cases z
      have nx1 : H3 c.c = none := by rw [hxc]; exact nx
      exact k c H5 (by walk_at "ed") hst (by rw [← hi]; exact hpm.map _) ok CA
end

end My
namespace My
open PySem PySem.Spec PyProof.Rows L2
/-! ### data of ints: laid out, equal -/
theorem lay_ints : ∀ ns : List Int, PyData.canLayAll0 (ns.map PyData.int) = true
  | [] => rfl
  | n :: r => by
    rw [List.map_cons, PyData.canLayAll0, lay_ints r]; rfl
theorem dep_ints : ∀ ns : List Int, PyData.depthAll (ns.map PyData.int) = 0
  | [] => rfl
  | n :: r => by
    rw [List.map_cons, PyData.depthAll, dep_ints r]; rfl
theorem shp_list (ns : List Int) : SeqAt.shaped (.list (ns.map PyData.int)) = true := by
  unfold SeqAt.shaped
  rw [PyData.canLay0, lay_ints, PyData.depth, dep_ints]; rfl
theorem shp_tup (ns : List Int) : SeqAt.shaped (.tuple (ns.map PyData.int)) = true := by
  unfold SeqAt.shaped
  rw [PyData.canLay0, lay_ints, PyData.depth, dep_ints]; rfl
theorem eqv_ints : ∀ ns ms : List Int, PyData.eqvAll (ns.map PyData.int) (ms.map PyData.int) = decide (ns = ms)
  | [], [] => rfl
  | [], _ :: _ => rfl
  | _ :: _, [] => rfl
  | n :: r, m :: q => by
    rw [List.map_cons, List.map_cons, PyData.eqvAll, eqv_ints r q, Bool.eq_iff_iff]
    show ((n == m) && decide (r = q)) = true ↔ _
    simp
theorem eqv_lists (ns ms : List Int) : PyData.eqv (.list (ns.map PyData.int)) (.list (ms.map PyData.int)) = decide (ns = ms) := by rw [PyData.eqv]; exact eqv_ints ns ms
theorem eqv_tups (ns ms : List Int) : PyData.eqv (.tuple (ns.map PyData.int)) (.tuple (ms.map PyData.int)) = decide (ns = ms) := by rw [PyData.eqv]; exact eqv_ints ns ms
theorem dp_ints {K : PySem.W.Frag} {H : Hp} : ∀ (ns : List Int), DpAll K H (ns.map V.int) (ns.map PyData.int)
  | [] => .nil
  | n :: r => .cons (.int n) (dp_ints r)
section
variable {K : PySem.W.Frag} {H : Hp} {Q : VK} {p q : Addr} {ns ms : List Int}
/-- two lists of ints compared -/
theorem go_neLs (e1 : SqL K H p (ns.map V.int)) (e2 : SqL K H q (ms.map V.int)) (h : Q (.bl (!decide (ns = ms))) H) : rNeD K (.ref p) (.ref q) H Q :=
  ⟨_, _, .lst e1 (dp_ints ns), .lst e2 (dp_ints ms), shp_list _, shp_list _, by rw [eqv_lists]; exact h⟩
theorem go_eqLs (e1 : SqL K H p (ns.map V.int)) (e2 : SqL K H q (ms.map V.int)) (h : Q (.bl (decide (ns = ms))) H) : rEqD K (.ref p) (.ref q) H Q :=
  ⟨_, _, .lst e1 (dp_ints ns), .lst e2 (dp_ints ms), shp_list _, shp_list _, by rw [eqv_lists]; exact h⟩
end

/-! ### flat values as data -/
def vD : V → PyData
  | .bl b => .bool b
  | .int i => .int i
  | .str z => .str z
  | _ => .none
def isAt : V → Bool
  | .non => true
  | .bl _ => true
  | .int _ => true
  | .str _ => true
  | _ => false
theorem dp_at {K : PySem.W.Frag} {H : Hp} : ∀ {x : V}, isAt x = true → Dp K H x (vD x)
  | .non, _ => .non
  | .bl b, _ => .bl b
  | .int i, _ => .int i
  | .str z, _ => .str z
theorem dp_ats {K : PySem.W.Frag} {H : Hp} : ∀ {xs : List V}, xs.all isAt = true → DpAll K H xs (xs.map vD)
  | [], _ => .nil
  | x :: r, h => by
    rw [List.all_cons, Bool.and_eq_true] at h
    exact .cons (dp_at h.1) (dp_ats h.2)
theorem sh_ats {xs : List V} (l : xs.length ≤ 1000) : Shal 1 (.tuple (xs.map vD)) := by
  refine .inr ⟨_, .inr rfl, by rw [List.length_map]; exact l, fun y hy => ?_⟩
  obtain ⟨x, _, rfl⟩ := List.mem_map.mp hy
  cases x <;> first | exact .inl rfl | exact .inr (.inl ⟨_, rfl⟩) | exact .inr (.inr (.inl ⟨_, rfl⟩)) | exact .inr (.inr (.inr ⟨_, rfl⟩))

end My
namespace My
open PySem PySem.Spec PyProof.Rows L2
/-! ### k03: forms and code sets asked -/
instance : DecidableEq FD := fun a b => decidable_of_iff (a.byte = b.byte ∧ a.name = b.name ∧ a.len = b.len ∧ a.flow = b.flow) (by cases a; cases b; simp)
def NotByte (K : PySem.W.Frag) (H : Hp) (v : V) : Prop := (∃ b, v = .bl b) ∨ ∃ n, TyX K H v (.type n) ∧ kitB n "int" = some false
theorem inV_ints (n : Int) : ∀ ns : List Int, inV (.int n) (ns.map V.int) = decide (n ∈ ns)
  | [] => rfl
  | m :: r => by
    have ih := inV_ints n r
    show (List.any (V.int m :: r.map V.int) fun y => eqV y (.int n)) = _
    rw [List.any_cons]
    have e : (List.any (r.map V.int) fun y => eqV y (.int n)) = decide (n ∈ r) := ih
    rw [e, Bool.eq_iff_iff]
    simp only [eqV, Bool.or_eq_true, beq_iff_eq, decide_eq_true_eq, List.mem_cons]
    constructor
    · rintro (h | h)
      · exact .inl h.symm
      · exact .inr h
    · rintro (h | h)
      · exact .inl h.symm
      · exact .inr h
theorem flat_ints : ∀ ns : List Int, (ns.map V.int).all flatV = true
  | [] => rfl
  | m :: r => by rw [List.map_cons, List.all_cons, flat_ints r]; rfl
def spIsByteA (K : PySem.W.Frag) : Sp := fun vs H Q _ => ∃ v : V, vs = [v] ∧ ((∃ n : Int, v = .int n ∧ Q (.bl (decide (0 ≤ n ∧ n ≤ 255))) H) ∨ (NotByte K H v ∧ Q (.bl false) H))
def formSame (f g : FD) : Bool := decide (f.name = g.name ∧ f.len = g.len ∧ f.flow = g.flow)
def spFormEq (A : Ad) (K : PySem.W.Frag) : Sp := fun vs H Q _ => ∃ (p : Addr) (f : FD) (y : V), vs = [.ref p, y] ∧ FormAt A H p f ∧
  ((∃ (q : Addr) (g : FD), y = .ref q ∧ FormAt A H q g ∧ Q (.bl (formSame f g)) H) ∨ (∃ t, TyX K H y t ∧ PySem.W.kitOne K t (.ref A.C_Form) = some false ∧ Q (.bl false) H))
def formText (f : FD) : Str := Str.empty ++ f.name ++ " " ++ ((toString f.len : String) : Str) ++ " " ++ f.flow
def spFormStr (A : Ad) : Sp := fun vs H Q _ => ∃ (p : Addr) (f : FD), vs = [.ref p] ∧ FormAt A H p f ∧ f.Ok ∧ Q (.str (formText f)) H
theorem app_len (a b : Str) : (a ++ b).length = a.length + b.length := by
  show (_ ++ _ : Array Nat).size = _
  rw [Array.size_append]; rfl
theorem len_txt {i : Int} (h1 : 1 ≤ i) (h4 : i ≤ 4) : (((toString i : String) : Str)).length = 1 ∧ i.natAbs.log2 < 1920 := by
  have : i = 1 ∨ i = 2 ∨ i = 3 ∨ i = 4 := by omega
  rcases this with rfl | rfl | rfl | rfl <;> decide +kernel
theorem flow_len {x : Str} (h : Flow x) : x.length ≤ 4 := by
  rcases h with e | e | e | e <;> rw [e] <;> decide +kernel
def spIn (A : Ad) (K : PySem.W.Frag) : Sp := fun vs H Q _ => ∃ (x : CodeO) (v : V), vs = [.ref x.c, v] ∧ x.At A H ∧ x.Ok ∧ ((∃ n : Int, v = .int n ∧ Q (.bl (decide (n ∈ x.items.map fun p => p.1.byte))) H) ∨ (NotByte K H v ∧ Q (.bl false) H))
def spGet (A : Ad) : Sp := fun vs H Q E => ∃ (x : CodeO) (n : Int), vs = [.ref x.c, .int n] ∧ x.At A H ∧ x.Ok ∧
  (∀ p ∈ x.items, p.1.byte = n → Q (.ref p.2) H) ∧
  ((∀ p ∈ x.items, p.1.byte ≠ n) → ∀ d H', Vc.Ed [] H H' → H' d = some (.xd [("at", .int n)]) → E (.ref A.C_BadByte) (some d) H')
def spCodesLen (A : Ad) : Sp := fun vs H Q _ => ∃ x : CodeO, vs = [.ref x.c] ∧ x.At A H ∧ Q (.int x.items.length) H
def spFirsts (A : Ad) : Sp := fun vs H Q _ => ∃ x : CodeO, vs = [.ref x.c] ∧ x.At A H ∧ ∀ q H', Vc.Ed [] H H' → H q = none → H' q = some (.lst ((x.items.map fun p => p.1.byte).map V.int)) → Q (.ref q) H'
def spCodesEq (A : Ad) (K : PySem.W.Frag) : Sp := fun vs H Q _ => ∃ (x : CodeO) (y : V), vs = [.ref x.c, y] ∧ x.At A H ∧ x.Ok ∧
  ((∃ z : CodeO, y = .ref z.c ∧ z.At A H ∧ z.Ok ∧ ∀ H', Vc.Ed [] H H' → Q (.bl (decide (x.stop = z.stop ∧ x.fs = z.fs))) H') ∨ (∃ n : Int, y = .int n ∧ Q (.bl false) H))
theorem bytes_fs (x : CodeO) : (x.items.map fun p => p.1.byte) = x.fs.map (·.byte) := by unfold CodeO.fs; rw [List.map_map]; rfl
theorem fs_zip : ∀ l m : List FD, l.map (·.byte) = m.map (·.byte) → ((l.zip m).map fun pq => formSame pq.1 pq.2).all id = decide (l = m)
  | [], [], _ => rfl
  | [], _ :: _, h => by cases h
  | _ :: _, [], h => by cases h
  | f :: l, g :: m, h => by
    rw [List.map_cons, List.map_cons] at h
    obtain ⟨h1, h2⟩ := List.cons.inj h
    rw [List.zip_cons_cons, List.map_cons, List.all_cons, fs_zip l m h2, Bool.eq_iff_iff]
    unfold formSame
    simp only [id_eq, Bool.and_eq_true, decide_eq_true_eq, List.cons.injEq]
    constructor
    · rintro ⟨⟨a, b, c⟩, d⟩
      refine ⟨?_, d⟩
      cases f; cases g
      simp_all
    · rintro ⟨rfl, d⟩
      exact ⟨⟨rfl, rfl, rfl⟩, d⟩
section
variable {w : World} {K : PySem.W.Frag} {mg : Str → Option Value} {base : Heap} {A : Ad}
theorem ok_is_byteA {P : Program} (T : Txt K mg A) : FnOk P w K mg base CX0 1 A.f_is_byte A.d_is_byte ["value"] (spIsByteA K) := by
  refine T.F_is_byte.ok sc_is_byte (fun vs H Q E h => ?_) (fun cdv Ar outer s H vs Q E hr h => ?_)
  · obtain ⟨n, rfl, _⟩ := h
    rfl
  · obtain ⟨v, rfl, k⟩ := h
    refine ⟨_, (pss_one (ps_ret (pe_and (pe_callB call_isi (by rfl) T.n_isinstance (by decide +kernel) (pa_cons (pv 0) (pa_cons (pe_bltn (v := .ty "int") (by rfl) T.n_int (by decide +kernel) rfl) pa_nil))) (pe_and (pe_not (pe_callB call_isi (by rfl) T.n_isinstance (by decide +kernel) (pa_cons (pv 0) (pa_cons (pe_bltn (v := .ty "bool") (by rfl) T.n_bool (by decide +kernel) rfl) pa_nil)))) (pe_one (pe_chain op_le op_le pe_int (pv 0) pe_int)))))), ?_⟩
    rcases k with ⟨n, rfl, k⟩ | ⟨⟨b, rfl⟩ | ⟨n, ty, kt⟩, k⟩
    · walk_at "go"
      refine Vc.go_ite (fun h1 => ?_) (fun h1 => ?_)
      · walk_at "go"
        have e : decide (0 ≤ n ∧ n ≤ 255) = decide (n ≤ 255) := by rw [Bool.eq_iff_iff]; simp [h1]
        rw [e] at k
        exact k
      · have e : decide (0 ≤ n ∧ n ≤ 255) = false := decide_eq_false (by omega)
        rw [e] at k
        exact k
    · walk_at "go"
      exact k
    · walk_at "go"
      refine Vc.go_isi ty kt ?_
      walk_at "go"
      exact k
theorem ok_Formu_equ {P : Program} (T : Txt K mg A) : FnOk P w K mg base CX0 1 A.f_Formu_equ A.d_Formu_equ ["self", "other"] (spFormEq A K) := by
  refine T.F_Formu_equ.ok sc_Formu_equ (fun vs H Q E h => ?_) (fun cdv Ar outer s H vs Q E hr h => ?_)
  · obtain ⟨p, f, y, rfl, _⟩ := h
    rfl
  · obtain ⟨p, f, y, rfl, ⟨dx, hp⟩, k⟩ := h
    have cl := T.cl_Form
    have no1 := T.no_Form_name
    have no2 := T.no_Form_length
    have no3 := T.no_Form_flow
    have l1 := form_name (n := f.name) (l := f.len) (f := f.flow)
    have l2 := form_length (n := f.name) (l := f.len) (f := f.flow)
    have l3 := form_flow (n := f.name) (l := f.len) (f := f.flow)
    refine ⟨_, (pss_cons (ps_if (pt_not (pt_val (pe_callB call_isi (by rfl) T.n_isinstance (by decide +kernel) (pa_cons (pv 1) (pa_cons (pe_glob (v := .ref A.C_Form) (by rfl) T.g_Form rfl) pa_nil))))) (pss_one (ps_ret pe_bl)) pss_nil) (pss_one (ps_ret (pe_and (pe_cmpR op_eq (pe_fld (pv 0) rfl) (pe_fld (pv 1) rfl) (nomark _)) (pe_and (pe_cmpR op_eq (pe_fld (pv 0) rfl) (pe_fld (pv 1) rfl) (nomark _)) (pe_one (pe_cmpR op_eq (pe_fld (pv 0) rfl) (pe_fld (pv 1) rfl) (nomark _)))))))), ?_⟩
    walk_at "go"
    rcases k with ⟨q, g, rfl, ⟨dy, hq⟩, k⟩ | ⟨t, ty, kt, k⟩
    · have m1 := form_name (n := g.name) (l := g.len) (f := g.flow)
      have m2 := form_length (n := g.name) (l := g.len) (f := g.flow)
      have m3 := form_flow (n := g.name) (l := g.len) (f := g.flow)
      refine Vc.go_isiC (Vc.ty_ins hq T.ic_Form) T.ic_Form.me ?_
      walk_at "go"
      unfold formSame at k
      refine Vc.go_ite (fun h1 => ?_) (fun h1 => ?_)
      · walk_at "go"
        refine Vc.go_ite (fun h2 => ?_) (fun h2 => ?_)
        · walk_at "go"
          have e : decide (f.flow = g.flow) = decide (f.name = g.name ∧ f.len = g.len ∧ f.flow = g.flow) := by rw [Bool.eq_iff_iff]; simp [h1, h2]
          rw [e]; exact k
        · have e : false = decide (f.name = g.name ∧ f.len = g.len ∧ f.flow = g.flow) := (decide_eq_false (fun z => h2 z.2.1)).symm
          rw [e]; exact k
      · have e : false = decide (f.name = g.name ∧ f.len = g.len ∧ f.flow = g.flow) := (decide_eq_false (fun z => h1 z.1)).symm
        rw [e]; exact k
    · refine Vc.go_isiC ty kt ?_
      walk_at "go"
      exact k
theorem ok_Formu_stru {P : Program} (T : Txt K mg A) : FnOk P w K mg base CX0 1 A.f_Formu_stru A.d_Formu_stru ["self"] (spFormStr A) := by
  refine T.F_Formu_stru.ok sc_Formu_stru (fun vs H Q E h => ?_) (fun cdv Ar outer s H vs Q E hr h => ?_)
  · obtain ⟨p, f, rfl, _⟩ := h
    rfl
  · obtain ⟨p, f, rfl, ⟨dx, hp⟩, ok, k⟩ := h
    have cl := T.cl_Form
    have no1 := T.no_Form_name
    have no2 := T.no_Form_length
    have no3 := T.no_Form_flow
    have l1 := form_name (n := f.name) (l := f.len) (f := f.flow)
    have l2 := form_length (n := f.name) (l := f.len) (f := f.flow)
    have l3 := form_flow (n := f.name) (l := f.len) (f := f.flow)
    have n8 := ok.n8
    obtain ⟨tl, lg⟩ := len_txt ok.l1 ok.l4
    have fl := flow_len ok.fl
    have e0 : Str.empty.length = 0 := rfl
    have e1 : (" " : Str).length = 1 := by decide +kernel
    have b0 : f.name.length ≤ 1000 := by omega
    have b1 : f.flow.length ≤ 1000 := by omega
    have a1 : (Str.empty ++ f.name).length ≤ 1000 := by rw [app_len]; omega
    have a2 : (Str.empty ++ f.name ++ " ").length ≤ 1000 := by rw [app_len, app_len]; omega
    have a3 : (Str.empty ++ f.name ++ " " ++ ((toString f.len : String) : Str)).length ≤ 1000 := by rw [app_len, app_len, app_len]; omega
    have a4 : (Str.empty ++ f.name ++ " " ++ ((toString f.len : String) : Str) ++ " ").length ≤ 1000 := by rw [app_len, app_len, app_len, app_len]; omega
    have a5 : (Str.empty ++ f.name ++ " " ++ ((toString f.len : String) : Str) ++ " " ++ f.flow).length ≤ 1000 := by rw [app_len, app_len, app_len, app_len, app_len]; omega
    refine ⟨_, (pss_one (ps_ret (pe_joined (PJ.cons (pe_fmt (pe_fld (pv 0) rfl)) (PJ.cons pe_str (PJ.cons (pe_fmt (pe_fld (pv 0) rfl)) (PJ.cons pe_str (PJ.cons (pe_fmt (pe_fld (pv 0) rfl)) PJ.nil)))))))), ?_⟩
    walk_at "go"
    exact k
theorem ok_CodeSetu_containsu {P : Program} (T : Txt K mg A) : FnOk P w K mg base CX0 2 A.f_CodeSetu_containsu A.d_CodeSetu_containsu ["self", "byte"] (spIn A K) := by
  have G_is_byte := ok_is_byteA (P := P) (w := w) (base := base) T
  refine T.F_CodeSetu_containsu.ok sc_CodeSetu_containsu (fun vs H Q E h => ?_) (fun cdv Ar outer s H vs Q E hr h => ?_)
  · obtain ⟨x, v, rfl, _⟩ := h
    rfl
  · obtain ⟨x, v, rfl, X, ok, k⟩ := h
    have cl := T.cl_CodeSet
    have no1 := T.no_CodeSet_order
    have hx := X.ob
    have ho := X.od
    have l1 := codes_order (s := x.stop) (o := x.o) (t := x.t)
    have fl := flat_ints (x.items.map fun p => p.1.byte)
    refine ⟨_, (pss_one (ps_ret (pe_and (pe_call G_is_byte (by exact hr.mono (by decide)) (by rfl) T.g_is_byte T.F_is_byte.kp T.b_is_byte .nil pass0 (pa_cons (pv 1) pa_nil)) (pe_one (pe_cmpR op_in_seq (pv 1) (pe_fld (pv 0) rfl) (by rfl)))))), ?_⟩
    walk_at "go"
    rcases k with ⟨n, rfl, k⟩ | ⟨nb, k⟩
    · refine ⟨_, rfl, .inl ⟨n, rfl, ?_⟩⟩
      walk_at "go"
      refine Vc.go_ite (fun h1 => ?_) (fun h1 => ?_)
      · walk_at "go"
        rw [inV_ints]
        exact k
      · have : decide (n ∈ x.items.map fun p => p.1.byte) = false := decide_eq_false fun z => by
          obtain ⟨p, hp, rfl⟩ := List.mem_map.mp z
          have := ok.1.byt p.1 (List.mem_map.mpr ⟨p, hp, rfl⟩)
          exact h1 ⟨this.1, this.2.1⟩
        rw [this] at k
        exact k
    · refine ⟨_, rfl, .inr ⟨nb, ?_⟩⟩
      walk_at "go"
      exact k
theorem ok_CodeSetu_getitemu (T : Txt K mg A) : FnOk PG w K mg base (CX PG w) 3 A.f_CodeSetu_getitemu A.d_CodeSetu_getitemu ["self", "byte"] (spGet A) := by
  have G_is_byte := ok_is_byteA (P := PG) (w := w) (base := base) T
  have G_BadByteu_initu := ok_BadByteu_initu (w := w) (base := base) T
  refine T.F_CodeSetu_getitemu.okX sc_CodeSetu_getitemu (fun vs H Q E h => ?_) (fun cdv Ar outer s H vs Q E hr h => ?_)
  · obtain ⟨x, n, rfl, _⟩ := h
    rfl
  · obtain ⟨x, n, rfl, X, ok, k, kE⟩ := h
    have hu := hu_of hr
    have cl := T.cl_CodeSet
    have no1 := T.no_CodeSet_order
    have no2 := T.no_CodeSet_table
    have hx := X.ob
    have ho := X.od
    have ht := X.tb
    have l1 := codes_order (s := x.stop) (o := x.o) (t := x.t)
    have l2 := codes_table (s := x.stop) (o := x.o) (t := x.t)
    have fl := flat_ints (x.items.map fun p => p.1.byte)
    have ndb : ((x.items.map (·.1)).map (·.byte)).Nodup := ok.1.ndb
    refine ⟨_, (pss_cons (ps_if (PW.pt (pw_or (pt_not (pt_val (pe_call G_is_byte (by exact hr.mono (by decide)) (by rfl) T.g_is_byte T.F_is_byte.kp T.b_is_byte .nil pass0 (pa_cons (pv 1) pa_nil)))) (pw_or1 (pt_cmpR op_notIn_seq (pv 1) (pe_fld (pv 0) rfl) (by rfl))))) (pss_one (Vc.ps_raiseT rfl (takes_of rfl rfl rfl rfl) (pmk_oex T.ox_BadByte T.i_BadByte T.ti_BadByte G_BadByteu_initu (by exact hr.mono (by decide)) T.b_BadByteu_initu .nil pass0 (by rfl) T.g_BadByte (pa_cons (pv 1) pa_nil)))) pss_nil) (pss_one (ps_ret (pe_dget (by exact hu) (pe_fld (pv 0) rfl) (pv 1) (fun _ _ => rfl))))), ?_⟩
    walk_at "go"
    refine ⟨_, rfl, .inl ⟨n, rfl, ?_⟩⟩
    walk_at "go"
    refine Vc.go_iten (fun h1 => ?_) (fun h1 => ?_)
    · walk_at "go"
      refine fun d H' _ e h => kE (fun p hp z => h1 ?_) d H' (by walk_at "ed") h
      have := ok.1.byt p.1 (List.mem_map.mpr ⟨p, hp, rfl⟩)
      rw [← z]; exact ⟨this.1, this.2.1⟩
    walk_at "go"
    rw [inV_ints]
    refine Vc.go_iten (fun h2 => ?_) (fun h2 => ?_)
    · walk_at "go"
      exact fun d H' _ e h => kE (fun p hp z => h2 (List.mem_map.mpr ⟨p, hp, z⟩)) d H' (by walk_at "ed") h
    obtain ⟨p, hp, hpn⟩ := List.mem_map.mp h2
    have hv := kvsOf_val ndb hp
    rw [hpn] at hv
    walk_at "go"
    exact k p hp hpn
theorem ok_CodeSetu_lenu {P : Program} (T : Txt K mg A) : FnOk P w K mg base CX0 1 A.f_CodeSetu_lenu A.d_CodeSetu_lenu ["self"] (spCodesLen A) := by
  refine T.F_CodeSetu_lenu.ok sc_CodeSetu_lenu (fun vs H Q E h => ?_) (fun cdv Ar outer s H vs Q E hr h => ?_)
  · obtain ⟨x, rfl, _⟩ := h
    rfl
  · obtain ⟨x, rfl, X, k⟩ := h
    have cl := T.cl_CodeSet
    have no1 := T.no_CodeSet_order
    have hx := X.ob
    have ho := X.od
    have l1 := codes_order (s := x.stop) (o := x.o) (t := x.t)
    refine ⟨_, (pss_one (ps_ret (pe_callB call_len_seq (by rfl) T.n_len (by decide +kernel) (pa_cons (pe_fld (pv 0) rfl) pa_nil)))), ?_⟩
    walk_at "go"
    rw [List.length_map, List.length_map]
    exact k
theorem ok_CodeSet_firsts {P : Program} (T : Txt K mg A) : FnOk P w K mg base CX0 1 A.f_CodeSet_firsts A.d_CodeSet_firsts ["self"] (spFirsts A) := by
  refine T.F_CodeSet_firsts.ok sc_CodeSet_firsts (fun vs H Q E h => ?_) (fun cdv Ar outer s H vs Q E hr h => ?_)
  · obtain ⟨x, rfl, _⟩ := h
    rfl
  · obtain ⟨x, rfl, X, k⟩ := h
    have cl := T.cl_CodeSet
    have no1 := T.no_CodeSet_order
    have hx := X.ob
    have ho := X.od
    have l1 := codes_order (s := x.stop) (o := x.o) (t := x.t)
    refine ⟨_, (pss_one (ps_ret (pe_callTy Vc.call_lstD (by rfl) T.n_list (by decide +kernel) (pa_cons (pe_fld (pv 0) rfl) pa_nil)))), ?_⟩
    walk_at "go"
    intro q nq
    generalize hu1 : upd _ q _ = H1
    obtain ⟨e1, hq⟩ := Vc.alloc hu1 nq
    exact k q H1 e1 nq hq
theorem ok_CodeSetu_equ {P : Program} (T : Txt K mg A) : FnOk P w K mg base CX0 2 A.f_CodeSetu_equ A.d_CodeSetu_equ ["self", "other"] (spCodesEq A K) := by
  have G_Formu_equ := ok_Formu_equ (P := P) (w := w) (base := base) T
  refine T.F_CodeSetu_equ.ok sc_CodeSetu_equ (fun vs H Q E h => ?_) (fun cdv Ar outer s H vs Q E hr h => ?_)
  · obtain ⟨x, y, rfl, _⟩ := h
    rfl
  · obtain ⟨x, y, rfl, X, ok, k⟩ := h
    have hu := hu_of hr
    have cl := T.cl_CodeSet
    have no1 := T.no_CodeSet_order
    have no2 := T.no_CodeSet_table
    have no3 := T.no_CodeSet_stop
    have hx := X.ob
    have l1 := codes_order (s := x.stop) (o := x.o) (t := x.t)
    have l2 := codes_table (s := x.stop) (o := x.o) (t := x.t)
    have l3 := codes_stop (s := x.stop) (o := x.o) (t := x.t)
    refine ⟨_, (pss_cons (ps_if (pt_not (pt_val (pe_callB call_isi (by rfl) T.n_isinstance (by decide +kernel) (pa_cons (pv 1) (pa_cons (pe_glob (v := .ref A.C_CodeSet) (by rfl) T.g_CodeSet rfl) pa_nil))))) (pss_one (ps_ret pe_bl)) pss_nil) (pss_cons (ps_if (PW.pt (pw_or (pt_cmpR op_ne (pe_fld (pv 0) rfl) (pe_fld (pv 1) rfl) (nomark _)) (pw_or1 (pt_cmpR (op_neD (by exact hr.units)) (pe_fld (pv 0) rfl) (pe_fld (pv 1) rfl) (nomark _))))) (pss_one (ps_ret pe_bl)) pss_nil) (pss_one (ps_ret (pe_callB (cr_all rfl) (by rfl) T.n_all (by decide +kernel) (pa_cons (pe_lc (own := [("byte", 2)]) (g := gName 2) rfl sc_CodeSetu_equ.nd (pi_list (pe_fld (pv 0) rfl)) (blkOk_by (own := [("byte", 2)]) (N := ["self", "other", "byte"]) (sc := defScope s_CodeSetu_equ) (by decide +kernel)) (fun _ _ _ _ _ => by exact (pg_name (i := 2) sc_CodeSetu_equ.nd rfl (Or.inl rfl))) (fun _ _ _ _ _ => by exact pts_nil) (fun _ _ _ _ _ => by (refine' Vc.blkE ?h ?q; (case h => exact (pe_cmpR (Vc.op_eqO G_Formu_equ (by exact hr.mono (by decide)) T.eq_Form T.b_Formu_equ) (pe_dget (by exact hu) (pe_fld (pv 0) rfl) (pv 2) (fun _ _ => rfl)) (pe_dget (by exact hu) (pe_fld (pv 1) rfl) (pv 2) (fun _ _ => rfl)) (nomark _))); (case q => first | exact rfl | (dsimp only; done) | (dsimp only; exact rfl))))) pa_nil)))))), ?_⟩
    walk_at "go"
    rcases k with ⟨z, rfl, Z, okz, k⟩ | ⟨n, rfl, k⟩
    · have hz := Z.ob
      have m1 := codes_order (s := z.stop) (o := z.o) (t := z.t)
      have m2 := codes_table (s := z.stop) (o := z.o) (t := z.t)
      have m3 := codes_stop (s := z.stop) (o := z.o) (t := z.t)
      refine Vc.go_isiC (Vc.ty_ins hz T.ic_CodeSet) T.ic_CodeSet.me ?_
      walk_at "go"
      refine Vc.go_iten (fun h1 => ?_) (fun h1 => ?_)
      · walk_at "go"
        have := k H .refl
        rw [decide_eq_false (fun q => h1 q.1)] at this
        exact this
      walk_at "go"
      refine go_neLs (.of X.od) (.of Z.od) ?_
      walk_at "go"
      refine Vc.go_iten (fun h2 => ?_) (fun h2 => ?_)
      · walk_at "go"
        have := k H .refl
        rw [decide_eq_false (fun q => h2 (by rw [bytes_fs, bytes_fs, q.2]))] at this
        exact this
      walk_at "go"
      have ho := X.od
      have lx : x.fs.length = x.items.length := List.length_map _
      have hz2 : x.fs.map (·.byte) = z.fs.map (·.byte) := by rw [← bytes_fs, ← bytes_fs]; exact h2
      have lz : x.fs.length = z.fs.length := by have := congrArg List.length hz2; rwa [List.length_map, List.length_map] at this
      have l16 := ok.1.n16
      refine ⟨⟨_, .of ho⟩, Vc.lc_by walk_list (fun L i H' => Vc.Ed [] H H' ∧ H' L = some (.lst ((((x.fs.zip z.fs).take i).map fun pq => formSame pq.1 pq.2).map V.bl))) (fun L H2 nL e hL => ⟨e, hL⟩) (fun L i H' _ _ p => .of (p.1.at0 ho)) ?_ ?_⟩
      · rintro L i v H1 H2 nL hi ⟨e1, hL⟩ ⟨rfl, hx'⟩
        rw [List.length_map, List.length_map] at hi
        obtain ⟨p, hp⟩ : ∃ p, x.items[i]? = some p := ⟨_, List.getElem?_eq_getElem hi⟩
        obtain ⟨q, hq⟩ : ∃ q, z.items[i]? = some q := ⟨_, List.getElem?_eq_getElem (by have : z.fs.length = z.items.length := List.length_map _; omega)⟩
        rw [List.getElem?_map, List.getElem?_map, hp] at hx'
        cases hx'
        have pf : x.fs[i]? = some p.1 := by unfold CodeO.fs; rw [List.getElem?_map, hp]; rfl
        have qf : z.fs[i]? = some q.1 := by unfold CodeO.fs; rw [List.getElem?_map, hq]; rfl
        have pq : p.1.byte = q.1.byte := by
          have := congrArg (fun l => l[i]?) hz2
          simp only [List.getElem?_map, pf, qf, Option.map_some] at this
          exact Option.some.inj this
        have zf : (x.fs.zip z.fs)[i]? = some (p.1, q.1) := by rw [List.getElem?_zip_eq_some]; exact ⟨pf, qf⟩
        have hv1 := kvsOf_val ok.1.ndb (List.mem_of_getElem? hp)
        have hv2 : valV (kvsOf z.items) (.inl p.1.byte) = some (.ref q.2) := by rw [pq]; exact kvsOf_val okz.1.ndb (List.mem_of_getElem? hq)
        have ht1 := X.tb
        have ht2 := Z.tb
        have F1 := (X.fm p (List.mem_of_getElem? hp)).ed0 e1
        have F2 := (Z.fm q (List.mem_of_getElem? hq)).ed0 e1
        obtain ⟨d1, f1⟩ := id F1
        obtain ⟨d2, f2⟩ := id F2
        change gName 2 (V.int p.1.byte) _ _ _
        walk_at "go"
        refine ⟨rfl, ?_⟩
        walk_at "go"
        refine Vc.go_eqO f1 (Vc.ty_ins f2 T.ic_Form) T.nf_Form_Form ⟨_, _, _, rfl, F1, .inl ⟨_, _, rfl, F2, _, rfl, ?_⟩⟩
        refine ⟨_, hL, small1000 (by rw [List.length_map, List.length_map, List.length_take]; omega), ?_⟩
        generalize hu3 : upd _ L _ = H3
        obtain ⟨e3, hL3⟩ := Vc.chg hu3 hL
        refine ⟨e1.one e3 (.inr nL), ?_⟩
        rw [hL3, List.take_add_one, zf, List.map_append, List.map_append]; rfl
      · rintro L H1 nL ⟨e1, hL⟩
        rw [List.take_of_length_le (by rw [List.length_zip, List.length_map, List.length_map]; omega)] at hL
        walk_at "go"
        refine ⟨L, _, rfl, .of hL, ?_⟩
        rw [fs_zip _ _ hz2]
        have := k H1 e1
        have e : decide (x.stop = z.stop ∧ x.fs = z.fs) = decide (x.fs = z.fs) := by rw [Bool.eq_iff_iff]; simp [h1]
        rw [e] at this
        exact this
    · refine Vc.go_isiC (.base (.int _)) T.kt_int_CodeSet ?_
      walk_at "go"
      exact k
end
/-! ### the code set of the examples -/
def SAMPLE : List FD := [⟨1, "step", 1, "next"⟩, ⟨2, "load", 2, "next"⟩, ⟨3, "jump", 2, "jump"⟩, ⟨4, "test", 2, "test"⟩, ⟨5, "wide", 3, "next"⟩, ⟨6, "store", 2, "next"⟩, ⟨9, "leave", 1, "end"⟩]
instance (x : Str) : Decidable (Flow x) := by unfold Flow; infer_instance
instance (f : FD) : Decidable f.Ok :=
  decidable_of_iff ((1 ≤ f.name.length ∧ f.name.length ≤ 8) ∧ (∀ c ∈ f.name.cps.toList, c ∈ LET) ∧ (1 ≤ f.len ∧ f.len ≤ 4) ∧ Flow f.flow ∧ (f.flow = "jump" ∨ f.flow = "test" → 2 ≤ f.len))
    ⟨fun h => ⟨h.1.1, h.1.2, h.2.1, h.2.2.1.1, h.2.2.1.2, h.2.2.2.1, h.2.2.2.2⟩, fun h => ⟨⟨h.n1, h.n8⟩, h.nl, ⟨h.l1, h.l4⟩, h.fl, h.two⟩⟩
theorem sample_ok : ∀ f ∈ SAMPLE, f.Ok := by decide +kernel
theorem sample_valid : Valid 0 SAMPLE := ⟨by decide, by decide, sample_ok, by decide +kernel, by decide +kernel, by decide +kernel, by decide, by decide⟩
/-- Form(..), CodeSet(..) made -/
theorem make_form {A : Ad} {H : Hp} {E : XK} {R : Addr → Hp → Prop} (f : FD) (ok : f.Ok) (k : ∀ x H', Vc.Ed [] H H' → H x = none → FormAt A H' x f → R x H') :
    ∀ x dx, H x = none → H dx = none → dx ≠ x → spForm A [.ref x, .str f.name, .int f.len, .str f.flow] (upd (upd H dx (.own x)) x (.ins A.C_Form dx [])) (fun v H2 => v = .non ∧ R x H2) E := by
  intro x dx nx ndx ne
  generalize hu1 : upd _ x _ = H1
  obtain ⟨e1, hx, hdx⟩ := Vc.allocI hu1 nx ndx ne
  exact ⟨x, dx, f, rfl, ok, hx, fun H2 e2 hF => ⟨rfl, k x H2 (e1.one e2 (.inr nx)) nx hF⟩⟩
theorem make_codes {A : Ad} {H : Hp} {E : XK} {R : Addr → Hp → Prop} {d : Addr} {stop : Int} {items : List (FD × Addr)} (M : MadeAt A H d items) (Va : Valid stop (items.map (·.1)))
    (k : ∀ (x : CodeO) H', Vc.Ed [] H H' → H x.c = none → H x.o = none → H x.t = none → x.stop = stop → x.items.Perm items → x.Ok → x.At A H' → R x.c H') :
    ∀ x dx, H x = none → H dx = none → dx ≠ x → spCodes A [.ref x, .int stop, .ref d] (upd (upd H dx (.own x)) x (.ins A.C_CodeSet dx [])) (fun v H2 => v = .non ∧ R x H2) E := by
  intro x dx nx ndx ne
  generalize hu1 : upd _ x _ = H1
  obtain ⟨e1, hx, hdx⟩ := Vc.allocI hu1 nx ndx ne
  refine ⟨x, dx, d, stop, items, rfl, ⟨e1.at0 M.ob, fun q hq => (M.fm q hq).ed0 e1⟩, Va, hx, fun c H2 hc hs hp ok e2 nt no C => ⟨rfl, ?_⟩⟩
  subst hc
  exact k c H2 (e1.one e2 (.inr nx)) nx (e1.dom _ no) (e1.dom _ nt) hs hp ok C
def spSample (A : Ad) : Sp := fun vs H Q _ => vs = [] ∧ ∀ (x : CodeO) (H' : Hp), Vc.Ed [] H H' → H x.t = none → x.stop = 0 → x.fs.Perm SAMPLE → x.Ok → x.At A H' → Q (.ref x.c) H'
section
variable {w : World} {K : PySem.W.Frag} {mg : Str → Option Value} {base : Heap} {A : Ad}
theorem ok_CodeSet_sample {P : Program} (T : Txt K mg A) : FnOk P w K mg base CX0 5 A.f_CodeSet_sample A.d_CodeSet_sample [] (spSample A) := by
  have G_Formu_initu := ok_Formu_initu (P := P) (w := w) (base := base) T
  have G_CodeSetu_initu := ok_CodeSetu_initu (P := P) (w := w) (base := base) T
  refine T.F_CodeSet_sample.ok sc_CodeSet_sample (fun vs H Q E h => ?_) (fun cdv Ar outer s H vs Q E hr h => ?_)
  · obtain ⟨rfl, _⟩ := h
    rfl
  · obtain ⟨rfl, k⟩ := h
    refine ⟨_, (pss_one (ps_ret (pe_make T.mk_CodeSet G_CodeSetu_initu (by exact hr.mono (by decide)) (by rfl) T.g_CodeSet T.b_CodeSetu_initu .nil pass0 (pa_cons pe_int (pa_cons (pe_disp (pps_cons pe_int (pe_make T.mk_Form G_Formu_initu (by exact hr.mono (by decide)) (by rfl) T.g_Form T.b_Formu_initu .nil pass0 (pa_cons pe_str (pa_cons pe_int (pa_cons pe_str pa_nil)))) (pps_cons pe_int (pe_make T.mk_Form G_Formu_initu (by exact hr.mono (by decide)) (by rfl) T.g_Form T.b_Formu_initu .nil pass0 (pa_cons pe_str (pa_cons pe_int (pa_cons pe_str pa_nil)))) (pps_cons pe_int (pe_make T.mk_Form G_Formu_initu (by exact hr.mono (by decide)) (by rfl) T.g_Form T.b_Formu_initu .nil pass0 (pa_cons pe_str (pa_cons pe_int (pa_cons pe_str pa_nil)))) (pps_cons pe_int (pe_make T.mk_Form G_Formu_initu (by exact hr.mono (by decide)) (by rfl) T.g_Form T.b_Formu_initu .nil pass0 (pa_cons pe_str (pa_cons pe_int (pa_cons pe_str pa_nil)))) (pps_cons pe_int (pe_make T.mk_Form G_Formu_initu (by exact hr.mono (by decide)) (by rfl) T.g_Form T.b_Formu_initu .nil pass0 (pa_cons pe_str (pa_cons pe_int (pa_cons pe_str pa_nil)))) (pps_cons pe_int (pe_make T.mk_Form G_Formu_initu (by exact hr.mono (by decide)) (by rfl) T.g_Form T.b_Formu_initu .nil pass0 (pa_cons pe_str (pa_cons pe_int (pa_cons pe_str pa_nil)))) (pps_cons pe_int (pe_make T.mk_Form G_Formu_initu (by exact hr.mono (by decide)) (by rfl) T.g_Form T.b_Formu_initu .nil pass0 (pa_cons pe_str (pa_cons pe_int (pa_cons pe_str pa_nil)))) pps_nil))))))) (by rfl) (by rfl) (fun z => by cases z) (by decide)) pa_nil))))), ?_⟩
    walk_at "go"
    intro d nd
    generalize hu1 : upd _ d _ = H1
    obtain ⟨e1, hd⟩ := Vc.alloc hu1 nd
    walk_at "go"
    refine make_form ⟨1, "step", 1, "next"⟩ (sample_ok _ (by simp [SAMPLE])) fun x1 G1 g1 _ F1 => ?_
    walk_at "go"
    refine make_form ⟨2, "load", 2, "next"⟩ (sample_ok _ (by simp [SAMPLE])) fun x2 G2 g2 _ F2 => ?_
    walk_at "go"
    refine make_form ⟨3, "jump", 2, "jump"⟩ (sample_ok _ (by simp [SAMPLE])) fun x3 G3 g3 _ F3 => ?_
    walk_at "go"
    refine make_form ⟨4, "test", 2, "test"⟩ (sample_ok _ (by simp [SAMPLE])) fun x4 G4 g4 _ F4 => ?_
    walk_at "go"
    refine make_form ⟨5, "wide", 3, "next"⟩ (sample_ok _ (by simp [SAMPLE])) fun x5 G5 g5 _ F5 => ?_
    walk_at "go"
    refine make_form ⟨6, "store", 2, "next"⟩ (sample_ok _ (by simp [SAMPLE])) fun x6 G6 g6 _ F6 => ?_
    walk_at "go"
    refine make_form ⟨9, "leave", 1, "end"⟩ (sample_ok _ (by simp [SAMPLE])) fun x7 G7 g7 _ F7 => ?_
    walk_at "go"
    have hd7 : G7 d = some (.dK []) := g7.at0 (g6.at0 (g5.at0 (g4.at0 (g3.at0 (g2.at0 (g1.at0 hd))))))
    refine ⟨hd7, [(.inl 1, .ref x1), (.inl 2, .ref x2), (.inl 3, .ref x3), (.inl 4, .ref x4), (.inl 5, .ref x5), (.inl 6, .ref x6), (.inl 9, .ref x7)], rfl, by show 7 ≤ 15; decide, ?_⟩
    generalize hu8 : upd _ d _ = G8
    obtain ⟨g8, hd8⟩ := Vc.chg hu8 hd7
    have kd : ∀ (C dx : Addr) (fs : List (Str × V)), HO.dK [] ≠ .ins C dx fs := fun _ _ _ z => nomatch z
    have M8 : MadeAt A G8 d [(⟨1, "step", 1, "next"⟩, x1), (⟨2, "load", 2, "next"⟩, x2), (⟨3, "jump", 2, "jump"⟩, x3), (⟨4, "test", 2, "test"⟩, x4), (⟨5, "wide", 3, "next"⟩, x5), (⟨6, "store", 2, "next"⟩, x6), (⟨9, "leave", 1, "end"⟩, x7)] := by
      refine ⟨hd8, fun p hp => ?_⟩
      simp only [List.mem_cons, List.not_mem_nil, or_false] at hp
      rcases hp with rfl | rfl | rfl | rfl | rfl | rfl | rfl
      · exact ((((((F1.ed0 g2).ed0 g3).ed0 g4).ed0 g5).ed0 g6).ed0 g7).ed1 g8 hd7 kd
      · exact (((((F2.ed0 g3).ed0 g4).ed0 g5).ed0 g6).ed0 g7).ed1 g8 hd7 kd
      · exact ((((F3.ed0 g4).ed0 g5).ed0 g6).ed0 g7).ed1 g8 hd7 kd
      · exact (((F4.ed0 g5).ed0 g6).ed0 g7).ed1 g8 hd7 kd
      · exact ((F5.ed0 g6).ed0 g7).ed1 g8 hd7 kd
      · exact (F6.ed0 g7).ed1 g8 hd7 kd
      · exact F7.ed1 g8 hd7 kd
    have e8 : Vc.Ed [] H G8 := by
      have a : Vc.Ed [] H G7 := ((((((e1.ex g1).ex g2).ex g3).ex g4).ex g5).ex g6).ex g7
      exact a.one g8 (.inr nd)
    walk_at "go"
    refine make_codes M8 sample_valid fun x G9 g9 _ _ nt hs hp ok X => ?_
    exact k x G9 (e8.ex g9) (e8.dom _ nt) hs (by have := hp.map (·.1); exact this) ok X
end

end My
namespace My
open PySem PySem.Spec PyProof.Rows L2
def gkb_Formu_initu_1_flow_name_length {α : Type} (us ws : List α) : List α := match us, ws with
  | [u0], [w0, w1, w2] => [u0, w1, w2, w0]
  | _, _ => []
theorem kb_Formu_initu_1_flow_name_length {K : PySem.W.Frag} {f : Addr} {fd : FuncData} (F : Fun K "__init__" "Form.__init__" s_Formu_initu f fd) : KBinds K fd ["self", "name", "length", "flow"] ["flow", "name", "length"] gkb_Formu_initu_1_flow_name_length gkb_Formu_initu_1_flow_name_length := by
  refine Vc.kbinds F (fun kV doc pm an cdv ct us ws hl => ?_) (fun {vs us zs ws} r rz => ?_)
  · unfold gkb_Formu_initu_1_flow_name_length at hl ⊢
    split at hl
    · rfl
    · cases hl
  · rcases r with _ | ⟨hu0, _ | ⟨_, _⟩⟩ <;> rcases rz with _ | ⟨hw0, _ | ⟨hw1, _ | ⟨hw2, _ | ⟨_, _⟩⟩⟩⟩ <;> first | exact .nil | exact (.cons hu0 (.cons hw1 (.cons hw2 (.cons hw0 .nil))))
/-! ### k03: what is asked of a form, of a code set -/
theorem emp_app (z : Str) : Str.empty ++ z = z := by
  show Str.mk (_ ++ _) = z
  cases z
  refine congrArg Str.mk ?_
  show (#[] : Array Nat) ++ _ = _
  simp
theorem sorted_eq {xs ys zs : List Int} (h1 : xs.Perm zs) (h2 : ys.Perm zs) (s1 : xs.Pairwise (· ≤ ·)) (s2 : ys.Pairwise (· ≤ ·)) : xs = ys :=
  List.Perm.eq_of_pairwise (fun _ _ _ _ a b => Int.le_antisymm a b) s1 s2 (h1.trans h2.symm)
theorem shl_ints {ns : List Int} (l : ns.length ≤ 1000) : Shal 1 (.list (ns.map PyData.int)) := by
  refine .inr ⟨_, .inl rfl, by rw [List.length_map]; exact l, fun y hy => ?_⟩
  obtain ⟨n, _, rfl⟩ := List.mem_map.mp hy
  exact .inr (.inr (.inl ⟨n, rfl⟩))
theorem kvs_isSome {its : List (FD × Addr)} {n : Int} : (valV (kvsOf its) (.inl n)).isSome = decide (n ∈ (its.map (·.1)).map (·.byte)) := by
  rw [Bool.eq_iff_iff, decide_eq_true_eq]
  constructor
  · intro h
    obtain ⟨p, hp, e⟩ := kvs_some h
    exact List.mem_map.mpr ⟨p.1, List.mem_map.mpr ⟨p, hp, rfl⟩, e⟩
  · intro h
    obtain ⟨f, hf, rfl⟩ := List.mem_map.mp h
    obtain ⟨p, hp, rfl⟩ := List.mem_map.mp hf
    cases e : valV (kvsOf its) (.inl p.1.byte) with
    | none => exact (kvs_none e p hp rfl).elim
    | some v => rfl
/-- a value that is no first byte -/
def Odd (H : Hp) (v : V) : Prop := (∃ n : Int, v = .int n ∧ (n < 0 ∨ 255 < n)) ∨ (∃ b, v = .bl b) ∨ v = .non ∨ (∃ z, v = .str z) ∨ (∃ a xs, v = .ref a ∧ H a = some (.tup xs)) ∨ (∃ a xs, v = .ref a ∧ H a = some (.lst xs)) ∨ (∃ a ks, v = .ref a ∧ H a = some (.dK ks))
theorem Odd.ed0 {H H' : Hp} {v : V} (h : Odd H v) (e : Vc.Ed [] H H') : Odd H' v := by
  rcases h with h | h | h | h | ⟨a, xs, rfl, h⟩ | ⟨a, xs, rfl, h⟩ | ⟨a, xs, rfl, h⟩
  · exact .inl h
  · exact .inr (.inl h)
  · exact .inr (.inr (.inl h))
  · exact .inr (.inr (.inr (.inl h)))
  · exact .inr (.inr (.inr (.inr (.inl ⟨a, xs, rfl, e.at0 h⟩))))
  · exact .inr (.inr (.inr (.inr (.inr (.inl ⟨a, xs, rfl, e.at0 h⟩)))))
  · exact .inr (.inr (.inr (.inr (.inr (.inr ⟨a, xs, rfl, e.at0 h⟩)))))
theorem Odd.not {K : PySem.W.Frag} {H : Hp} {v : V} (h : Odd H v) : (∃ n : Int, v = .int n ∧ (n < 0 ∨ 255 < n)) ∨ NotByte K H v := by
  rcases h with h | h | rfl | ⟨z, rfl⟩ | ⟨a, xs, rfl, h⟩ | ⟨a, xs, rfl, h⟩ | ⟨a, xs, rfl, h⟩
  · exact .inl h
  · exact .inr (.inl h)
  · exact .inr (.inr ⟨_, .base .non, Vc.kit_NoneType_int⟩)
  · exact .inr (.inr ⟨_, .base (.str _), Vc.kit_str_int⟩)
  · exact .inr (.inr ⟨_, Vc.tyT (.inl (.inl h)), Vc.kit_tuple_int⟩)
  · exact .inr (.inr ⟨_, Vc.tyL (.of h), Vc.kit_list_int⟩)
  · exact .inr (.inr ⟨_, .base (.dK h), Vc.kit_dict_int⟩)
theorem fd_inj {l : List FD} (nd : (l.map (·.byte)).Nodup) {f g : FD} (hf : f ∈ l) (hg : g ∈ l) (e : f.byte = g.byte) : f = g := by
  induction l with
  | nil => cases hf
  | cons a r ih =>
    rw [List.map_cons, List.nodup_cons] at nd
    rcases List.mem_cons.mp hf with rfl | hf' <;> rcases List.mem_cons.mp hg with rfl | hg'
    · rfl
    · exact (nd.1 (by rw [e]; exact List.mem_map.mpr ⟨g, hg', rfl⟩)).elim
    · exact (nd.1 (by rw [← e]; exact List.mem_map.mpr ⟨f, hf', rfl⟩)).elim
    · exact ih nd.2 hf' hg'
def spFormSame (A : Ad) : Sp := fun vs H Q _ => ∃ (p t : Addr) (f : FD), vs = [.ref p, .ref t] ∧ FormAt A H p f ∧ f.Ok ∧ H t = some (.tup [.str f.name, .int f.len, .str f.flow]) ∧ ∀ H', Vc.Ed [] H H' → Q (.bl true) H'
def spHolds (A : Ad) : Sp := fun vs H Q _ => ∃ (x : CodeO) (f : Addr) (its : List (FD × Addr)) (y : Int), vs = [.ref x.c, .int x.stop, .ref f, .int y] ∧ x.At A H ∧ x.Ok ∧ TupsAt H f its ∧ x.fs.Perm (its.map (·.1)) ∧ x.t ≠ f ∧ 257 ≤ y ∧ ∀ H', Vc.Ed [] H H' → Q (.bl true) H'
def spRefused (A : Ad) : Sp := fun vs H Q _ => ∃ (x : CodeO) (n : Int), vs = [.ref x.c, .int n] ∧ x.At A H ∧ x.Ok ∧ (∀ p ∈ x.items, p.1.byte ≠ n) ∧ ∀ H', Vc.Ed [] H H' → Q (.bl true) H'
section
variable {w : World} {K : PySem.W.Frag} {mg : Str → Option Value} {base : Heap} {A : Ad}
theorem ok__law_form_same {P : Program} (T : Txt K mg A) : FnOk P w K mg base CX0 4 A.f__law_form_same A.d__law_form_same ["_law_form", "_law_told"] (spFormSame A) := by
  have G__law_same := ok__law_same (P := P) (w := w) (base := base) T 2
  have G_Formu_equ := ok_Formu_equ (P := P) (w := w) (base := base) T
  have G_Formu_stru := ok_Formu_stru (P := P) (w := w) (base := base) T
  have G_Formu_initu := ok_Formu_initu (P := P) (w := w) (base := base) T
  refine T.F__law_form_same.ok sc__law_form_same (fun vs H Q E h => ?_) (fun cdv Ar outer s H vs Q E hr h => ?_)
  · obtain ⟨p, t, f, rfl, _⟩ := h
    rfl
  · obtain ⟨p, t, f, rfl, F, ok, ht, k⟩ := h
    have cl := T.cl_Form
    have no1 := T.no_Form_name
    have no2 := T.no_Form_length
    have no3 := T.no_Form_flow
    have l1 := form_name (n := f.name) (l := f.len) (f := f.flow)
    have l2 := form_length (n := f.name) (l := f.len) (f := f.flow)
    have l3 := form_flow (n := f.name) (l := f.len) (f := f.flow)
    have i0 : atI [V.str f.name, .int f.len, .str f.flow] 0 = some (.str f.name) := rfl
    have i1 : atI [V.str f.name, .int f.len, .str f.flow] 1 = some (.int f.len) := rfl
    have i2 : atI [V.str f.name, .int f.len, .str f.flow] 2 = some (.str f.flow) := rfl
    have n8 := ok.n8
    obtain ⟨tl, lg⟩ := len_txt ok.l1 ok.l4
    have fl := flow_len ok.fl
    have e1 : (" " : Str).length = 1 := by decide +kernel
    have a1 : f.name.length + (" " : Str).length ≤ 1000 := by omega
    have a2 : (f.name ++ (" " : Str)).length + (((toString f.len : String) : Str)).length ≤ 1000 := by rw [app_len]; omega
    have a3 : (f.name ++ (" " : Str) ++ ((toString f.len : String) : Str)).length + (" " : Str).length ≤ 1000 := by rw [app_len, app_len]; omega
    have a4 : (f.name ++ (" " : Str) ++ ((toString f.len : String) : Str) ++ (" " : Str)).length + f.flow.length ≤ 1000 := by rw [app_len, app_len, app_len]; omega
    obtain ⟨dx, hp⟩ := id F
    refine ⟨_, (pss_cons (ps_if (pt_not (pt_val (pe_call G__law_same (by exact hr.mono (by decide)) (by rfl) T.g__law_same T.F__law_same.kp T.b__law_same .nil pass0 (pa_cons (pe_tup (pa_cons (pe_fld (pv 0) rfl) (pa_cons (pe_fld (pv 0) rfl) (pa_cons (pe_fld (pv 0) rfl) pa_nil)))) (pa_cons (pv 1) pa_nil))))) (pss_one (ps_ret pe_bl)) pss_nil) (pss_cons (ps_set (i := 2) sc__law_form_same.nd rfl (Or.inl rfl) (pe_op op_add_str (pe_op op_add_str (pe_op op_add_str (pe_op op_add_str (pe_ix ix_tup (pv 1) pe_int (fun _ _ => rfl)) pe_str) (pe_callTy call_str_int (by rfl) T.n_str (by decide +kernel) (pa_cons (pe_ix ix_tup (pv 1) pe_int (fun _ _ => rfl)) pa_nil))) pe_str) (pe_ix ix_tup (pv 1) pe_int (fun _ _ => rfl)))) (pss_cons (ps_if (pt_cmpR (op_neD (by exact hr.units)) (pe_lc (own := [("_law_other_here", 3)]) (g := gName 3) rfl sc__law_form_same.nd (pi_list (pe_lst (pa_cons pe_non (pa_cons (pv 2) (pa_cons (pv 1) (pa_cons (pe_callTy Vc.call_lstD (by rfl) T.n_list (by decide +kernel) (pa_cons (pv 1) pa_nil)) (pa_cons pe_int pa_nil))))))) (blkOk_by (own := [("_law_other_here", 3)]) (N := ["_law_form", "_law_told", "_law_text", "_law_other_here"]) (sc := defScope s__law_form_same) (by decide +kernel)) (fun _ _ _ _ _ => by exact (pg_name (i := 3) sc__law_form_same.nd rfl (Or.inl rfl))) (fun _ _ _ _ _ => by (refine' Vc.blkT ?h ?q; (case h => exact pts_one (pt_cmpR (Vc.op_eqO G_Formu_equ (by exact hr.mono (by decide)) T.eq_Form T.b_Formu_equ) (pv 0) (pv 3) (nomark _))); (case q => first | exact rfl | (dsimp only; done) | (dsimp only; exact rfl)))) (fun _ _ _ _ _ => by (refine' Vc.blkE ?h ?q; (case h => exact pe_int); (case q => first | exact rfl | (dsimp only; done) | (dsimp only; exact rfl))))) (pe_lst pa_nil) (nomark _)) (pss_one (ps_ret pe_bl)) pss_nil) (pss_one (ps_ret (pe_and (pe_call G__law_same (by exact hr.mono (by decide)) (by rfl) T.g__law_same T.F__law_same.kp T.b__law_same .nil pass0 (pa_cons (pe_callTy (Vc.call_strO G_Formu_stru (by exact hr.mono (by decide)) T.sp_Form_Formu_stru T.b_Formu_stru) (by rfl) T.n_str (by decide +kernel) (pa_cons (pv 0) pa_nil)) (pa_cons (pv 2) pa_nil))) (pe_one (pe_cmpR (Vc.op_eqO G_Formu_equ (by exact hr.mono (by decide)) T.eq_Form T.b_Formu_equ) (pv 0) (Vc.pe_makeK0 T.mk_Form G_Formu_initu (by exact hr.mono (by decide)) (by rfl) T.g_Form (kb_Formu_initu_1_flow_name_length T.F_Formu_initu) pass0 (pk_cons (pe_ix ix_tup (pv 1) pe_int (fun _ _ => rfl)) (pk_cons (pe_ix ix_tup (pv 1) pe_int (fun _ _ => rfl)) (pk_cons (pe_ix ix_tup (pv 1) pe_int (fun _ _ => rfl)) pk_nil)))) (nomark _))))))))), ?_⟩
    walk_at "go"
    intro q nq
    generalize hu1 : upd _ q _ = H1
    obtain ⟨e1, hq⟩ := Vc.alloc hu1 nq
    walk_at "go"
    refine ⟨_, _, .tuple ([.str f.name, .int f.len, .str f.flow].map vD), rfl, sh_ats (by show 3 ≤ 1000; decide), .tup (.inl (.inl hq)) (dp_ats rfl), .tup (.inl (.inl (e1.at0 ht))) (dp_ats rfl), fun H2 e2 => ?_⟩
    have ht2 := e2.at0 (e1.at0 ht)
    walk_at "go"
    intro q3 nq3
    generalize hu3 : upd _ q3 _ = H3
    obtain ⟨e3, hq3⟩ := Vc.alloc hu3 nq3
    walk_at "go"
    intro q4 nq4
    generalize hu4 : upd _ q4 _ = H4
    obtain ⟨e4, hq4⟩ := Vc.alloc hu4 nq4
    have e04 : Vc.Ed [] H H4 := by walk_at "ed"
    walk_at "go"
    have F4 := F.ed0 e04
    have ht4 : H4 t = some (.tup [.str f.name, .int f.len, .str f.flow]) := e4.at0 (e3.at0 ht2)
    have hq34 := e4.at0 hq3
    refine ⟨⟨_, .of hq4⟩, Vc.lc_by walk_list (fun L i H' => Vc.Ed [] H4 H' ∧ H' L = some (.lst [])) (fun L H5 nL e5 hL => ⟨e5, hL⟩) (fun L i H5 _ _ p => .of (p.1.at0 hq4)) ?_ ?_⟩
    · rintro L i v H5 H6 nL hi ⟨e5, hL⟩ ⟨rfl, hx⟩
      have ty : ∃ ty, TyX K H6 v ty ∧ PySem.W.notFirst K A.C_Form ty = true ∧ PySem.W.kitOne K ty (.ref A.C_Form) = some false := by
        have hi : i < 5 := hi
        have : i = 0 ∨ i = 1 ∨ i = 2 ∨ i = 3 ∨ i = 4 := by omega
        rcases this with rfl | rfl | rfl | rfl | rfl <;> cases hx
        · exact ⟨_, .base .non, T.nf_NoneType_Form, T.kt_NoneType_Form⟩
        · exact ⟨_, .base (.str _), T.nf_str_Form, T.kt_str_Form⟩
        · exact ⟨_, Vc.tyT (.inl (.inl (e5.at0 ht4))), T.nf_tuple_Form, T.kt_tuple_Form⟩
        · exact ⟨_, Vc.tyL (.of (e5.at0 hq34)), T.nf_list_Form, T.kt_list_Form⟩
        · exact ⟨_, .base (.int _), T.nf_int_Form, T.kt_int_Form⟩
      obtain ⟨ty, ty1, nf, kt⟩ := ty
      have F6 := F4.ed0 e5
      obtain ⟨d6, f6⟩ := id F6
      walk_at "go"
      refine ⟨rfl, ?_⟩
      walk_at "go"
      refine Vc.go_eqO f6 ty1 nf ⟨p, f, v, rfl, F6, .inr ⟨ty, ty1, kt, _, rfl, ?_⟩⟩
      walk_at "go"
      exact ⟨e5, hL⟩
    · rintro L H5 nL ⟨e5, hL⟩
      walk_at "go"
      intro M nM
      generalize hu6 : upd _ M _ = H6
      obtain ⟨e6, hM⟩ := Vc.alloc hu6 nM
      refine go_neLs (ns := []) (ms := []) (.of (e6.at0 hL)) (.of hM) ?_
      walk_at "go"
      have F6 := (F4.ed0 e5).ed0 e6
      have ht6 := e6.at0 (e5.at0 ht4)
      obtain ⟨d6, f6⟩ := id F6
      walk_at "go"
      refine ⟨p, f, rfl, F6, ok, _, rfl, ?_⟩
      walk_at "go"
      have et : formText f = f.name ++ (" " : Str) ++ ((toString f.len : String) : Str) ++ (" " : Str) ++ f.flow := by unfold formText; rw [emp_app]
      rw [et]
      refine ⟨_, _, .str _, rfl, .inl (.inr (.inr (.inr ⟨_, rfl⟩))), .str _, .str _, fun H7 e7 => ?_⟩
      have ht7 := e7.at0 ht6
      have F7 := F6.ed0 e7
      walk_at "go"
      refine make_form f ok fun x H8 e8 nx F8 => ?_
      have F8' := F7.ed0 e8
      obtain ⟨d8, f8⟩ := id F8'
      obtain ⟨c8, g8⟩ := id F8
      refine Vc.go_eqO f8 (Vc.ty_ins g8 T.ic_Form) T.nf_Form_Form ⟨_, _, _, rfl, F8', .inl ⟨_, _, rfl, F8, _, rfl, ?_⟩⟩
      have es : formSame f f = true := by unfold formSame; simp
      rw [es]
      exact k H8 (by walk_at "ed")
theorem ok__law_holds (T : Txt K mg A) : FnOk PG w K mg base CX0 5 A.f__law_holds A.d__law_holds ["_law_codes_here", "_law_halt", "_law_table", "_law_beyond"] (spHolds A) := by
  have G__law_same := ok__law_same (P := PG) (w := w) (base := base) T 2
  have G_CodeSetu_lenu := ok_CodeSetu_lenu (P := PG) (w := w) (base := base) T
  have G_CodeSet_firsts := ok_CodeSet_firsts (P := PG) (w := w) (base := base) T
  have G_CodeSetu_containsu := ok_CodeSetu_containsu (P := PG) (w := w) (base := base) T
  have G_CodeSetu_getitemu := ok_CodeSetu_getitemu (w := w) (base := base) T
  have G__law_form_same := ok__law_form_same (P := PG) (w := w) (base := base) T
  refine T.F__law_holds.ok sc__law_holds (fun vs H Q E h => ?_) (fun cdv Ar outer s H vs Q E hr h => ?_)
  · obtain ⟨x, f, its, y, rfl, _⟩ := h
    rfl
  · obtain ⟨x, f, its, y, rfl, X, ok, TA, pm, ntf, hy, k⟩ := h
    have hu := hu_of hr
    have cl := T.cl_CodeSet
    have no1 := T.no_CodeSet_stop
    have l1 := codes_stop (s := x.stop) (o := x.o) (t := x.t)
    have l2 : (codesF x.stop x.o x.t).lookup ("firsts" : Str) = none := rfl
    have hx := X.ob
    have hf := TA.ob
    have il : x.items.length = its.length := by
      have := pm.length_eq
      unfold CodeO.fs at this
      rwa [List.length_map, List.length_map] at this
    have i16 : its.length ≤ 16 := by
      have := ok.1.n16
      unfold CodeO.fs at this
      rw [List.length_map] at this; omega
    have bp : (x.items.map fun p => p.1.byte).Perm ((its.map (·.1)).map (·.byte)) := by rw [bytes_fs]; exact pm.map _
    have ndb : ((its.map (·.1)).map (·.byte)).Nodup := (pm.map (·.byte)).nodup_iff.mp ok.1.ndb
    refine ⟨_, (pss_cons (ps_if (PW.pt (pw_or (pt_not (pt_val (pe_call G__law_same (by exact hr.mono (by decide)) (by rfl) T.g__law_same T.F__law_same.kp T.b__law_same .nil pass0 (pa_cons (pe_fld (pv 0) rfl) (pa_cons (pv 1) pa_nil))))) (pw_or1 (pt_cmpR op_ne (pe_callB (Vc.call_lenO G_CodeSetu_lenu (by exact hr.mono (by decide)) T.sp_CodeSet_CodeSetu_lenu T.b_CodeSetu_lenu) (by rfl) T.n_len (by decide +kernel) (pa_cons (pv 0) pa_nil)) (pe_callB call_lenD (by rfl) T.n_len (by decide +kernel) (pa_cons (pv 2) pa_nil)) (nomark _))))) (pss_one (ps_ret pe_bl)) pss_nil) (pss_cons (ps_if (pt_not (pt_val (pe_call G__law_same (by exact hr.mono (by decide)) (by rfl) T.g__law_same T.F__law_same.kp T.b__law_same .nil pass0 (pa_cons (pe_meth0 (pv 0) T.cl_CodeSet T.m_CodeSet_firsts G_CodeSet_firsts (by exact hr.mono (by decide)) T.b_CodeSet_firsts .nil pass0) (pa_cons (pe_callB cr_sorted (by rfl) T.n_sorted (by decide +kernel) (pa_cons (pe_callTy (call_list_dK rfl) (by rfl) T.n_list (by decide +kernel) (pa_cons (pv 2) pa_nil)) pa_nil)) pa_nil))))) (pss_one (ps_ret pe_bl)) pss_nil) (pss_cons (ps_for PassesOwn.never rfl (pi_range1 (by rfl) T.n_range (pa_cons pe_int pa_nil)) (pg_name (i := 4) sc__law_holds.nd rfl (Or.inl rfl)) (pss_one (ps_if (pt_cmpR op_ne (pe_cmpR (Vc.op_inO G_CodeSetu_containsu (by exact hr.mono (by decide)) T.sp_CodeSet_CodeSetu_containsu T.b_CodeSetu_containsu) (pv 4) (pv 0) (by rfl)) (pe_cmp (pc_din (by exact hu) (pv 4) (pv 2)) rfl) (nomark _)) (pss_one (ps_ret pe_bl)) pss_nil))) (pss_cons (ps_for PassesOwn.never rfl (pi_list (pe_lst (pa_cons pe_non (pa_cons pe_bl (pa_cons pe_bl (pa_cons pe_str (pa_cons (pe_tup (pa_cons pe_int pa_nil)) (pa_cons (pe_un un_neg pe_int) (pa_cons pe_int (pa_cons (pv 3) (pa_cons (pe_un un_neg (pv 3)) (pa_cons (pe_lst pa_nil) (pa_cons (pe_lst (pa_cons pe_int pa_nil)) (pa_cons pe_dnewK (pa_cons (pe_disp (pps_cons pe_int pe_int pps_nil) (by rfl) (by rfl) (fun z => by cases z) (by decide)) pa_nil))))))))))))))) (pg_name (i := 5) sc__law_holds.nd rfl (Or.inl rfl)) (pss_one (ps_if (pt_cmpR (Vc.op_inO G_CodeSetu_containsu (by exact hr.mono (by decide)) T.sp_CodeSet_CodeSetu_containsu T.b_CodeSetu_containsu) (pv 5) (pv 0) (by rfl)) (pss_one (ps_ret pe_bl)) pss_nil))) (pss_cons (ps_lock (ps_for PassesOwn.never rfl (pi_keys (pv 2)) (pg_name (i := 4) sc__law_holds.nd rfl (Or.inl rfl)) (pss_one (ps_if (pt_not (pt_val (pe_call G__law_form_same (by exact hr.mono (by decide)) (by rfl) T.g__law_form_same T.F__law_form_same.kp T.b__law_form_same .nil pass0 (pa_cons (Vc.pe_ixO (pv 0) (pv 4) T.sp_CodeSet_CodeSetu_getitemu T.spf_CodeSetu_getitemu G_CodeSetu_getitemu (by exact hr.mono (by decide)) T.b_CodeSetu_getitemu Vc.passSL) (pa_cons (pe_dget (by exact hu) (pv 2) (pv 4) (fun _ _ => rfl)) pa_nil))))) (pss_one (ps_ret pe_bl)) pss_nil)))) (pss_one (ps_ret pe_bl))))))), ?_⟩
    walk_at "go"
    refine ⟨_, _, .int _, rfl, .inl (.inr (.inr (.inl ⟨_, rfl⟩))), .int _, .int _, fun H1 e1 => ?_⟩
    have hx1 := e1.at0 hx
    have hf1 := e1.at0 hf
    have X1 := X.ed0 e1
    walk_at "go"
    refine ⟨x, rfl, X1, _, rfl, by omega, by omega, ?_⟩
    walk_at "go"
    rw [kvsOf_len, il]
    walk_at "go"
    refine ⟨x, rfl, X1, fun q H2 e2 nq hq => ?_⟩
    have hf2 := e2.at0 hf1
    walk_at "go"
    intro L nL
    generalize hu3 : upd _ L _ = H3
    obtain ⟨e3, hL⟩ := Vc.alloc hu3 nL
    have eqk : (kvsOf its).map (fun kv => kV kv.1) = ((its.map (·.1)).map (·.byte)).map V.int := by
      unfold kvsOf
      simp only [List.map_map, Function.comp_def, kV]
    rw [eqk] at hL
    walk_at "go"
    refine Vc.go_sorted (.of hL) (by rw [List.length_map, List.length_map]; omega) fun ns o perm srt no => ?_
    generalize hu4 : upd _ o _ = H4
    obtain ⟨e4, ho⟩ := Vc.alloc hu4 no
    have en : ns = x.items.map fun p => p.1.byte := sorted_eq perm bp srt (by rw [bytes_fs]; exact ok.2)
    rw [en] at ho
    walk_at "go"
    refine ⟨_, _, .list ((x.items.map fun p => p.1.byte).map PyData.int), rfl, shl_ints (by rw [List.length_map]; omega), .lst (.of (e4.at0 (e3.at0 hq))) (dp_ints _), .lst (.of ho) (dp_ints _), fun H5 e5 => ?_⟩
    have e05 : Vc.Ed [] H H5 := by walk_at "ed"
    have X5 := X.ed0 e05
    have TA5 := TA.ed0 e05
    clear hx1 hf1 hf2 hq hL ho e1 e2 e3 e4 e5 X1
    walk_at "go"
    refine ⟨by omega, by omega, for_range (lo := 0) (fun i σ H' => ∃ y4, σ = [some (.ref x.c), some (.int x.stop), some (.ref f), some (.int y), y4, none] ∧ H' = H5) ⟨none, rfl, rfl⟩ ?_ ?_⟩
    · rintro i σ H6 hi ⟨y4, rfl, rfl⟩
      have hx5 := X5.ob
      have hf5 := TA5.ob
      walk_at "go"
      refine ⟨x, .int (0 + (i : Int)), rfl, X5, ok, .inl ⟨_, rfl, _, rfl, ?_⟩⟩
      walk_at "go"
      have e : decide ((0 + (i : Int)) ∈ x.items.map fun p => p.1.byte) = (valV (kvsOf its) (.inl (0 + (i : Int)))).isSome := by
        rw [kvs_isSome, Bool.eq_iff_iff, decide_eq_true_eq, decide_eq_true_eq]
        exact bp.mem_iff
      rw [Bool.false_xor, e]
      walk_at "go"
      exact ⟨_, rfl, rfl⟩
    · rintro σ H6 ⟨y4, rfl, rfl⟩
      walk_at "go"
      intro t1 nt1
      generalize hu1 : upd _ t1 _ = G1
      obtain ⟨g1, h1⟩ := Vc.alloc hu1 nt1
      walk_at "go"
      intro t2 nt2
      generalize hu2 : upd _ t2 _ = G2
      obtain ⟨g2, h2⟩ := Vc.alloc hu2 nt2
      walk_at "go"
      intro t3 nt3
      generalize hu3 : upd _ t3 _ = G3
      obtain ⟨g3, h3⟩ := Vc.alloc hu3 nt3
      walk_at "go"
      intro t4 nt4
      generalize hu4 : upd _ t4 _ = G4
      obtain ⟨g4, h4⟩ := Vc.alloc hu4 nt4
      walk_at "go"
      intro t5 nt5
      generalize hu5 : upd _ t5 _ = G5
      obtain ⟨g5, h5⟩ := Vc.alloc hu5 nt5
      walk_at "go"
      refine ⟨h5, [(.inl 1, .int 2)], rfl, by show 1 ≤ 15; decide, ?_⟩
      generalize hu6 : upd _ t5 _ = G6
      obtain ⟨g6, h6⟩ := Vc.chg hu6 h5
      walk_at "go"
      intro t7 nt7
      generalize hu7 : upd _ t7 _ = G7
      obtain ⟨g7, h7⟩ := Vc.alloc hu7 nt7
      have n5 : ∀ {a : Addr} {o : HO}, G4 a = some o → a ≠ t5 := fun h => ne_of_none h nt5
      have k4 := g4
      have o1 : G7 t1 = some (.tup [.int 1]) := g7.tup _ _ (g6.tup _ _ (g5.tup _ _ (g4.tup _ _ (g3.tup _ _ (g2.tup _ _ h1)))))
      have o2' : G4 t2 = some (.lst []) := g4.at0 (g3.at0 h2)
      have o3' : G4 t3 = some (.lst [.int 1]) := g4.at0 h3
      have o2 : G7 t2 = some (.lst []) := g7.at0 (g6.at1 (n5 o2') (g5.at0 o2'))
      have o3 : G7 t3 = some (.lst [.int 1]) := g7.at0 (g6.at1 (n5 o3') (g5.at0 o3'))
      have o4 : G7 t4 = some (.dK []) := g7.at0 (g6.at1 (n5 h4) (g5.at0 h4))
      have o5 : G7 t5 = some _ := g7.at0 h6
      have e57 : Vc.Ed [] H6 G7 := by
        have a : Vc.Ed [] H6 G4 := ((g1.ex g2).ex g3).ex g4
        have b : Vc.Ed [] H6 G5 := a.ex g5
        exact (b.one g6 (.inr (a.dom _ nt5))).ex g7
      have X7 := X5.ed0 e57
      have TA7 := TA5.ed0 e57
      have odd : ∀ v ∈ [V.non, .bl true, .bl false, .str "1", .ref t1, .int (-1), .int 256, .int y, .int (-y), .ref t2, .ref t3, .ref t4, .ref t5], Odd G7 v := by
        intro v hv
        simp only [List.mem_cons, List.not_mem_nil, or_false] at hv
        rcases hv with rfl | rfl | rfl | rfl | rfl | rfl | rfl | rfl | rfl | rfl | rfl | rfl | rfl
        · exact .inr (.inr (.inl rfl))
        · exact .inr (.inl ⟨_, rfl⟩)
        · exact .inr (.inl ⟨_, rfl⟩)
        · exact .inr (.inr (.inr (.inl ⟨_, rfl⟩)))
        · exact .inr (.inr (.inr (.inr (.inl ⟨_, _, rfl, o1⟩))))
        · exact .inl ⟨_, rfl, by omega⟩
        · exact .inl ⟨_, rfl, by omega⟩
        · exact .inl ⟨_, rfl, by omega⟩
        · exact .inl ⟨_, rfl, by omega⟩
        · exact .inr (.inr (.inr (.inr (.inr (.inl ⟨_, _, rfl, o2⟩)))))
        · exact .inr (.inr (.inr (.inr (.inr (.inl ⟨_, _, rfl, o3⟩)))))
        · exact .inr (.inr (.inr (.inr (.inr (.inr ⟨_, _, rfl, o4⟩)))))
        · exact .inr (.inr (.inr (.inr (.inr (.inr ⟨_, _, rfl, o5⟩)))))
      walk_at "go"
      refine ⟨⟨_, .of h7⟩, for_list (xs := _) (fun i σ H' => ∃ y4 y5, σ = [some (.ref x.c), some (.int x.stop), some (.ref f), some (.int y), y4, y5] ∧ H' = G7) ⟨_, _, rfl, rfl⟩ (fun i σ H' _ ⟨_, _, _, e⟩ => by rw [e]; exact .of h7) ?_ ?_⟩
      · rintro i v σ H8 hi ⟨y4, y5, rfl, rfl⟩
        have hx7 := X7.ob
        have ov := (odd v (List.mem_of_getElem? hi)).not (K := K)
        walk_at "go"
        refine ⟨x, v, rfl, X7, ok, ?_⟩
        rcases ov with ⟨n, rfl, hn⟩ | nb
        · refine .inl ⟨n, rfl, _, rfl, ?_⟩
          have e : decide (n ∈ x.items.map fun p => p.1.byte) = false := decide_eq_false fun z => by
            obtain ⟨p, hp, rfl⟩ := List.mem_map.mp z
            have := ok.1.byt p.1 (List.mem_map.mpr ⟨p, hp, rfl⟩)
            omega
          rw [e]
          walk_at "go"
          exact ⟨_, _, rfl, rfl⟩
        · refine .inr ⟨nb, _, rfl, ?_⟩
          walk_at "go"
          exact ⟨_, _, rfl, rfl⟩
      · rintro σ H8 ⟨y4, y5, rfl, rfl⟩
        walk_at "go"
        refine Vc.lock_keys rfl TA7.ob [] (fun H1 i σ H' => ∃ y4, σ = [some (.ref x.c), some (.int x.stop), some (.ref f), some (.int y), y4, y5] ∧ Vc.Ed [] H1 H') (fun _ _ _ _ h => h.choose_spec.2) (fun H1 od _ _ => ⟨_, rfl, .refl⟩) ?_ ?_
        · rintro H1 od i k' v σ' H' d1 h1 h1' hk ⟨y4, rfl, e2⟩
          obtain ⟨p', hp', rfl, rfl⟩ := kvsOf_get hk
          have hm := List.mem_of_getElem? hp'
          have hv := kvsOf_val ndb hm
          have nc : x.c ≠ f := ne_of X7.ob TA7.ob (by intro z; cases z)
          have nco : x.o ≠ f := ne_of X7.od TA7.ob (by intro z; cases z)
          have X' : x.At A H' := (X7.ed d1 (fun z => nc (List.mem_singleton.mp z)) (fun z => nco (List.mem_singleton.mp z)) (fun z => ntf (List.mem_singleton.mp z)) (fun q hq z => by
            obtain ⟨dq, hq'⟩ := X7.fm q hq
            rw [List.mem_singleton.mp z, TA7.ob] at hq'; cases hq')).ed0 e2
          have hx' := X'.ob
          have htp : H' p'.2 = some (.tup [.str p'.1.name, .int p'.1.len, .str p'.1.flow]) := e2.tup _ _ (d1.tup _ _ (TA7.tp p' hm))
          change gName 4 (V.int p'.1.byte) _ _ _
          walk_at "go"
          have inx : p'.1 ∈ x.fs := pm.mem_iff.mpr (List.mem_map.mpr ⟨p', hm, rfl⟩)
          refine ⟨x, p'.1.byte, rfl, X', ok, fun p hp e => ?_, fun no => ?_⟩
          · have epp : p.1 = p'.1 := fd_inj ok.1.ndb (List.mem_map.mpr ⟨p, hp, rfl⟩) inx e
            have okp := ok.1.ok p'.1 inx
            have Fp := X'.fm p hp
            rw [epp] at Fp
            walk_at "go"
            refine ⟨p.2, p'.2, p'.1, rfl, Fp, okp, htp, fun H8 e8 => ?_⟩
            walk_at "go"
            exact ⟨_, rfl, by walk_at "ed"⟩
          · obtain ⟨p, hp, e⟩ := List.mem_map.mp inx
            exact (no p hp (by rw [e])).elim
        · rintro H1 σ' H' H3 _ ⟨y4, rfl, e2⟩ e3 _ _
          walk_at "go"
          exact k _ (by walk_at "ed")
theorem ok__law_refused (T : Txt K mg A) : FnOk PG w K mg base CX0 5 A.f__law_refused A.d__law_refused ["_law_codes_here", "_law_byte"] (spRefused A) := by
  have GH__law_same := oh__law_same (P := PG) (w := w) (base := base) T
  have G_CodeSetu_getitemu := ok_CodeSetu_getitemu (w := w) (base := base) T
  refine T.F__law_refused.ok sc__law_refused (fun vs H Q E h => ?_) (fun cdv Ar outer s H vs Q E hr h => ?_)
  · obtain ⟨x, n, rfl, _⟩ := h
    rfl
  · obtain ⟨x, n, rfl, X, ok, no, k⟩ := h
    have ec := T.ec_BadByte
    have xf := T.xf_BadByte
    have nof := T.no_BadByte_at
    have k1 := T.kit_BadByte_BadByte
    have k2 := T.kit_BadByte_BadInput
    have k3 := T.kit_BadByte_NotRight
    have hx := X.ob
    refine ⟨_, (pss_cons (Vc.ps_tryX (i := 2) rfl rfl sc__law_refused.nd rfl rfl ⟨rfl, by decide, .inl T.g_CodeError⟩ takes0 (fun W pn xe tk po => (pss_one (ps_expr (Vc.pe_ixO (pv 0) (pv 1) T.sp_CodeSet_CodeSetu_getitemu T.spf_CodeSetu_getitemu G_CodeSetu_getitemu (by exact hr.mono (by decide)) T.b_CodeSetu_getitemu (fun σ => passAt tk σ))))) (fun a pn => (pss_cons (ps_if (PW.pt (pw_or (pt_not (pt_val (pe_callB (Vc.call_isTK (K := K) rfl) (by rfl) T.n_isinstance (by decide +kernel) (pa_cons (pv 2) (pa_cons (pe_glob (v := .ref A.C_BadByte) (by rfl) T.g_BadByte rfl) pa_nil))))) (pw_or (pt_not (pt_val (pe_callB (Vc.call_isTK (K := K) rfl) (by rfl) T.n_isinstance (by decide +kernel) (pa_cons (pv 2) (pa_cons (pe_glob (v := .ref A.C_BadInput) (by rfl) T.g_BadInput rfl) pa_nil))))) (pw_or1 (pt_val (pe_callB (Vc.call_isTK (K := K) rfl) (by rfl) T.n_isinstance (by decide +kernel) (pa_cons (pv 2) (pa_cons (pe_glob (v := .ref A.C_NotRight) (by rfl) T.g_NotRight rfl) pa_nil)))))))) (pss_one (ps_ret pe_bl)) pss_nil) (pss_one (ps_ret (Vc.pe_callT GH__law_same (by exact Vc.roomH_mark ((L2H.roomH_of hr).mono (by decide))) (by rfl) T.g__law_same T.F__law_same.kp T.b__law_same (pa_cons (by exact (Vc.pe_xfTK (K := K) rfl (pv 2))) (pa_cons (pv 1) pa_nil)))))))) (pss_one (ps_ret pe_bl))), ?_⟩
    walk_at "go"
    refine ⟨x, n, rfl, X, ok, fun p hp e => (no p hp e).elim, fun _ d H2 e2 hd => ?_⟩
    refine Vc.go_wX T.exm_BadByte_CodeError fun a H3 na e3 ha => ?_
    have hE := Vc.ErrAt.of ha e3 hd
    walk_at "go"
    refine ⟨_, _, .int _, rfl, .inr (.inr (.inl ⟨_, rfl⟩)), .int _, .int _, fun H4 e4 => ?_⟩
    walk_at "go"
    exact k H4 (by walk_at "ed")
end

end My
namespace My
open PySem PySem.Spec PyProof.Rows L2
/-! ### a form put into a dict of forms -/
def putI (items : List (FD × Addr)) (f : FD) (a : Addr) : List (FD × Addr) :=
  if (items.any fun p => decide (p.1.byte = f.byte)) = true then items.map (fun p => if p.1.byte = f.byte then (f, a) else p) else items ++ [(f, a)]
theorem putK_items (g : FD × Addr → V) (items : List (FD × Addr)) (f : FD) (a : Addr) : putK (items.map fun p => ((.inl p.1.byte : Key), g p)) (.inl f.byte) (g (f, a)) = (putI items f a).map fun p => ((.inl p.1.byte : Key), g p) := by
  unfold putK putI
  have e : ((items.map fun p => ((.inl p.1.byte : Key), g p)).any fun kv => decide (kv.1 = .inl f.byte)) = items.any fun p => decide (p.1.byte = f.byte) := by
    rw [List.any_map]
    congr 1
    funext p
    show decide ((Sum.inl p.1.byte : Key) = .inl f.byte) = decide (p.1.byte = f.byte)
    rw [Bool.eq_iff_iff]; simp
  rw [e]
  split
  · rw [List.map_map, List.map_map]
    refine List.map_congr_left fun p _ => ?_
    show (if (Sum.inl p.1.byte : Key) = .inl f.byte then ((Sum.inl p.1.byte : Key), g (f, a)) else (.inl p.1.byte, g p)) = _
    show _ = (fun p : FD × Addr => ((Sum.inl p.1.byte : Key), g p)) (if p.1.byte = f.byte then (f, a) else p)
    by_cases h : p.1.byte = f.byte
    · rw [if_pos (congrArg Sum.inl h), if_pos h, h]
    · rw [if_neg (fun z => h (Sum.inl.inj z)), if_neg h]
  · rw [List.map_append]; rfl
theorem kvsOf_puti (items : List (FD × Addr)) (f : FD) (a : Addr) : putK (kvsOf items) (.inl f.byte) (.ref a) = kvsOf (putI items f a) := putK_items (fun p => .ref p.2) items f a
theorem putI_bytes (items : List (FD × Addr)) (f : FD) (a : Addr) : (((putI items f a).map (·.1)).map (·.byte)) = if (items.any fun p => decide (p.1.byte = f.byte)) = true then (items.map (·.1)).map (·.byte) else (items.map (·.1)).map (·.byte) ++ [f.byte] := by
  unfold putI
  split
  · rw [List.map_map, List.map_map, List.map_map]
    refine List.map_congr_left fun p _ => ?_
    show (if p.1.byte = f.byte then (f, a) else p).1.byte = p.1.byte
    by_cases h : p.1.byte = f.byte
    · rw [if_pos h, h]
    · rw [if_neg h]
  · simp
theorem putI_nd {items : List (FD × Addr)} {f : FD} {a : Addr} (h : ((items.map (·.1)).map (·.byte)).Nodup) : (((putI items f a).map (·.1)).map (·.byte)).Nodup := by
  rw [putI_bytes]
  split
  · exact h
  · rename_i g
    rw [List.nodup_append]
    refine ⟨h, by simp, fun x hx y hy e => g ?_⟩
    rw [List.mem_singleton.mp hy] at e
    obtain ⟨q, hq, rfl⟩ := List.mem_map.mp hx
    obtain ⟨p, hp, rfl⟩ := List.mem_map.mp hq
    exact List.any_eq_true.mpr ⟨p, hp, decide_eq_true e⟩
theorem putI_mem {items : List (FD × Addr)} {f : FD} {a : Addr} {p : FD × Addr} (h : p ∈ putI items f a) : p ∈ items ∨ p = (f, a) := by
  unfold putI at h
  split at h
  · obtain ⟨q, hq, e⟩ := List.mem_map.mp h
    split at e
    · exact .inr e.symm
    · rw [← e]; exact .inl hq
  · rcases List.mem_append.mp h with h | h
    · exact .inl h
    · exact .inr (List.mem_singleton.mp h)
theorem putI_len {items : List (FD × Addr)} {f : FD} {a : Addr} : (putI items f a).length ≤ items.length + 1 := by
  unfold putI
  split
  · rw [List.length_map]; omega
  · rw [List.length_append]; simp
theorem putI_new {items : List (FD × Addr)} {f : FD} {a : Addr} (h : ∀ p ∈ items, p.1.byte ≠ f.byte) : putI items f a = items ++ [(f, a)] := by
  unfold putI
  rw [if_neg]
  intro z
  obtain ⟨p, hp, e⟩ := List.any_eq_true.mp z
  exact h p hp (of_decide_eq_true e)
theorem putI_ok {P : FD × Addr → Prop} {items : List (FD × Addr)} {f : FD} {a : Addr} (h : ∀ p ∈ items, P p) (hf : P (f, a)) : ∀ p ∈ putI items f a, P p := by
  intro p hp
  rcases putI_mem hp with h' | h'
  · exact h p h'
  · rw [h']; exact hf

end My
namespace My
open PySem PySem.Spec PyProof.Rows L2
/-! ### k03: another code set -/
theorem inj_nodup {α β : Type} {g : α → β} {l : List α} (nd : (l.map g).Nodup) {x y : α} (hx : x ∈ l) (hy : y ∈ l) (e : g x = g y) : x = y := by
  induction l with
  | nil => cases hx
  | cons a r ih =>
    rw [List.map_cons, List.nodup_cons] at nd
    rcases List.mem_cons.mp hx with rfl | hx' <;> rcases List.mem_cons.mp hy with rfl | hy'
    · rfl
    · exact (nd.1 (by rw [e]; exact List.mem_map.mpr ⟨y, hy', rfl⟩)).elim
    · exact (nd.1 (by rw [← e]; exact List.mem_map.mpr ⟨x, hx', rfl⟩)).elim
    · exact ih nd.2 hx' hy'
theorem putI_names {its : List (FD × Addr)} {f : FD} {a : Addr} (nb : ((its.map (·.1)).map (·.byte)).Nodup) (nn : ((its.map (·.1)).map (·.name)).Nodup) (h : ∀ q ∈ its, q.1.byte ≠ f.byte → q.1.name ≠ f.name) : (((putI its f a).map (·.1)).map (·.name)).Nodup := by
  rw [List.map_map] at nb nn
  have pb := List.pairwise_map.mp nb
  have pn := List.pairwise_map.mp nn
  have both := List.Pairwise.and_mem.mp (pb.and pn)
  unfold putI
  split
  · rw [List.map_map, List.map_map]
    refine List.pairwise_map.mpr (both.imp ?_)
    rintro x y ⟨hx, hy, h1, h2⟩
    show (if x.1.byte = f.byte then (f, a) else x).1.name ≠ (if y.1.byte = f.byte then (f, a) else y).1.name
    have h1 : x.1.byte ≠ y.1.byte := h1
    have h2 : x.1.name ≠ y.1.name := h2
    by_cases ex : x.1.byte = f.byte
    · rw [if_pos ex, if_neg (fun z => h1 (ex.trans z.symm))]
      exact (h y hy (fun z => h1 (ex.trans z.symm))).symm
    · rw [if_neg ex]
      by_cases ey : y.1.byte = f.byte
      · rw [if_pos ey]; exact h x hx ex
      · rw [if_neg ey]; exact h2
  · rename_i g
    rw [List.map_append, List.map_append, List.nodup_append]
    refine ⟨by rw [List.map_map]; exact nn, by simp, fun x hx y hy e => ?_⟩
    obtain ⟨q, hq, rfl⟩ := List.mem_map.mp hx
    obtain ⟨p, hp, rfl⟩ := List.mem_map.mp hq
    have hy : y = f.name := by simpa using hy
    exact h p hp (fun z => g (List.any_eq_true.mpr ⟨p, hp, decide_eq_true z⟩)) (e.trans hy)
theorem putI_len_eq {its : List (FD × Addr)} {f : FD} {a : Addr} {p : FD × Addr} (hp : p ∈ its) (e : p.1.byte = f.byte) : (putI its f a).length = its.length := by
  unfold putI
  rw [if_pos (List.any_eq_true.mpr ⟨p, hp, decide_eq_true e⟩), List.length_map]
theorem putI_has {its : List (FD × Addr)} {f : FD} {a : Addr} : (f, a) ∈ putI its f a := by
  unfold putI
  split
  · rename_i h
    obtain ⟨p, hp, e⟩ := List.any_eq_true.mp h
    exact List.mem_map.mpr ⟨p, hp, if_pos (of_decide_eq_true e)⟩
  · exact List.mem_append.mpr (.inr (List.mem_singleton.mpr rfl))
theorem nm_low {its : List (FD × Addr)} (h : Nms its) (l : its.length ≤ 16) : ∀ p ∈ its, ∃ c ∈ p.1.name.cps.toList, c ≤ 112 := by
  obtain ⟨cs, s, _, e⟩ := h
  intro p hp
  have : p.1.name ∈ (List.range its.length).map (nmOf cs s) := by rw [← e]; exact List.mem_map.mpr ⟨p.1, List.mem_map.mpr ⟨p, hp, rfl⟩, rfl⟩
  obtain ⟨i, hi, ei⟩ := List.mem_map.mp this
  rw [List.mem_range] at hi
  have a : ∀ i : Fin 16, LET.getD i.1 0 ≤ 112 := by decide +kernel
  refine ⟨LET.getD i 0, ?_, a ⟨i, by omega⟩⟩
  rw [← ei]
  unfold nmOf
  show _ ∈ (_ : List Nat)
  simp
theorem zz_high : ∀ c ∈ ("zz" : Str).cps.toList, ¬ c ≤ 112 := by decide +kernel
theorem z_high : ∀ c ∈ ("z" : Str).cps.toList, ¬ c ≤ 112 := by decide +kernel
theorem dropK_kvs (its : List (FD × Addr)) (b : Int) : dropK (kvsOf its) (.inl b) = kvsOf (its.filter fun p => decide (p.1.byte ≠ b)) := by
  unfold dropK kvsOf
  rw [List.filter_map]
  congr 1
  refine List.filter_congr fun p _ => ?_
  show decide ((Sum.inl p.1.byte : Key) ≠ .inl b) = decide (p.1.byte ≠ b)
  rw [Bool.eq_iff_iff]; simp
theorem TupsAt.put {H H1 H' : Hp} {d t : Addr} {its : List (FD × Addr)} {f : FD} (h : TupsAt H d its) (e : Vc.Ed [] H H1) (ht : H1 t = some (.tup [.str f.name, .int f.len, .str f.flow])) (hu : upd H1 d (.dK (putK (kvsOf its) (.inl f.byte) (.ref t))) = H') : Vc.Ed [d] H1 H' ∧ TupsAt H' d (putI its f t) := by
  obtain ⟨e2, hd⟩ := Vc.chg hu (e.at0 h.ob)
  refine ⟨e2, by rw [← kvsOf_puti]; exact hd, ?_⟩
  exact putI_ok (P := fun p => H' p.2 = some (.tup [.str p.1.name, .int p.1.len, .str p.1.flow])) (fun p hp => e2.tup _ _ (e.tup _ _ (h.tp p hp))) (e2.tup _ _ ht)
theorem Valid.put {s : Int} {its : List (FD × Addr)} {f : FD} {a : Addr} (h : Valid s (its.map (·.1))) (l : (putI its f a).length ≤ 16) (ok : f.Ok) (b : 0 ≤ f.byte ∧ f.byte ≤ 255 ∧ f.byte ≠ s) (n : ∀ q ∈ its, q.1.byte ≠ f.byte → q.1.name ≠ f.name) : Valid s ((putI its f a).map (·.1)) where
  n1 := by
    rw [List.length_map]
    exact List.length_pos_of_mem (putI_has (its := its) (f := f) (a := a))
  n16 := by rw [List.length_map]; exact l
  ok := fun g hg => by
    obtain ⟨p, hp, rfl⟩ := List.mem_map.mp hg
    exact putI_ok (P := fun p => p.1.Ok) (fun p hp => h.ok p.1 (List.mem_map.mpr ⟨p, hp, rfl⟩)) ok p hp
  byt := fun g hg => by
    obtain ⟨p, hp, rfl⟩ := List.mem_map.mp hg
    exact putI_ok (P := fun p => 0 ≤ p.1.byte ∧ p.1.byte ≤ 255 ∧ p.1.byte ≠ s) (fun p hp => h.byt p.1 (List.mem_map.mpr ⟨p, hp, rfl⟩)) b p hp
  ndb := putI_nd h.ndb
  ndn := putI_names h.ndb h.ndn n
  s0 := h.s0
  s1 := h.s1
def flowX (x : Str) : Str := if x = "next" then "end" else if x = "end" then "next" else if x = "jump" then "test" else "jump"
theorem nok_zz : 1 ≤ ("zz" : Str).length ∧ ("zz" : Str).length ≤ 8 ∧ ∀ c ∈ ("zz" : Str).cps.toList, c ∈ LET := by decide +kernel
theorem nok_z : 1 ≤ ("z" : Str).length ∧ ("z" : Str).length ≤ 8 ∧ ∀ c ∈ ("z" : Str).cps.toList, c ∈ LET := by decide +kernel
theorem flow_get {x : Str} (h : Flow x) : valV (mergeK [] [((.inr "next" : Key), V.str "end"), (.inr "end", .str "next"), (.inr "jump", .str "test"), (.inr "test", .str "jump")]) (.inr x) = some (.str (flowX x)) := by
  rcases h with e | e | e | e <;> subst e <;> rfl
theorem flow_x {x : Str} (h : Flow x) : Flow (flowX x) ∧ flowX x ≠ x ∧ (flowX x = "jump" ∨ flowX x = "test" → x = "jump" ∨ x = "test") := by
  rcases h with e | e | e | e <;> subst e <;> decide +kernel
def spOther (A : Ad) : Sp := fun vs H Q _ => ∃ (b c f : Addr) (halt : Int) (its : List (FD × Addr)), vs = [.ref b, .int halt, .ref f] ∧ Bag H b c ∧ TupsAt H f its ∧ Valid halt (its.map (·.1)) ∧ Nms its ∧
  ∀ (z : CodeO) H', Vc.Ed [b] H H' → Bag H' b c → z.At A H' → z.Ok → ¬ (z.stop = halt ∧ z.fs.Perm (its.map (·.1))) → Q (.ref z.c) H'
section
variable {w : World} {K : PySem.W.Frag} {mg : Str → Option Value} {base : Heap} {A : Ad}
theorem ok__law_other {P : Program} (T : Txt K mg A) : FnOk P w K mg base CX0 6 A.f__law_other A.d__law_other ["_law_bag_here", "_law_halt", "_law_table"] (spOther A) := by
  have G__law_draw := ok__law_draw (P := P) (w := w) (base := base) T
  have G__law_codes := ok__law_codes (P := P) (w := w) (base := base) T
  refine T.F__law_other.ok sc__law_other (fun vs H Q E h => ?_) (fun cdv Ar outer s H vs Q E hr h => ?_)
  · obtain ⟨b, c, f, halt, its, rfl, _⟩ := h
    rfl
  · obtain ⟨b, c, f, halt, its, rfl, hB, TA, Va, nms, k⟩ := h
    have hu := hu_of hr
    have v1 := Va.n1
    have v16 := Va.n16
    rw [List.length_map] at v1 v16
    have low := nm_low nms v16
    refine ⟨_, (pss_cons (ps_set (i := 3) sc__law_other.nd rfl (Or.inl rfl) pe_dnewK) (pss_cons (ps_lock (ps_for PassesOwn.never rfl (pi_keys (pv 2)) (pg_name (i := 4) sc__law_other.nd rfl (Or.inl rfl)) (pss_one (ps_dput (by exact hu) (pv 3) (pv 4) (pe_dget (by exact hu) (pv 2) (pv 4) (fun _ _ => rfl)) rfl)))) (pss_cons (ps_set (i := 5) sc__law_other.nd rfl (Or.inl rfl) (pe_callTy (call_list_dK rfl) (by rfl) T.n_list (by decide +kernel) (pa_cons (pv 2) pa_nil))) (pss_cons (ps_set (i := 4) sc__law_other.nd rfl (Or.inl rfl) (pe_ix ix_list (pv 5) (pe_call G__law_draw (by exact hr.mono (by decide)) (by rfl) T.g__law_draw T.F__law_draw.kp T.b__law_draw .nil pass0 (pa_cons (pv 0) (pa_cons (pe_callB call_len_seq (by rfl) T.n_len (by decide +kernel) (pa_cons (pv 5) pa_nil)) pa_nil))) (fun _ _ => rfl))) (pss_cons (ps_set (i := 6) sc__law_other.nd rfl (Or.inl rfl) (pe_dget (by exact hu) (pv 2) (pv 4) (fun _ _ => rfl))) (pss_cons (ps_set (i := 7) sc__law_other.nd rfl (Or.inl rfl) (pe_call G__law_draw (by exact hr.mono (by decide)) (by rfl) T.g__law_draw T.F__law_draw.kp T.b__law_draw .nil pass0 (pa_cons (pv 0) (pa_cons pe_int pa_nil)))) (pss_cons (ps_if (pt_cmpR op_eq (pv 7) pe_int (nomark _)) (pss_one (ps_dput (by exact hu) (pv 3) (pv 4) (pe_tup (pa_cons (pe_ix ix_tup (pv 6) pe_int (fun _ _ => rfl)) (pa_cons (pe_op op_add (pe_op op_add (pe_op op_mod (pe_ix ix_tup (pv 6) pe_int (fun _ _ => rfl)) pe_int) pe_int) (pe_callTy call_int1 (by rfl) T.n_int (by decide +kernel) (pa_cons (pe_and (pe_cmpR op_eq (pe_ix ix_tup (pv 6) pe_int (fun _ _ => rfl)) pe_int (nomark _)) (pe_one (pe_cmpR op_in_seq (pe_ix ix_tup (pv 6) pe_int (fun _ _ => rfl)) (pe_lst (pa_cons pe_str (pa_cons pe_str pa_nil))) (by rfl)))) pa_nil))) (pa_cons (pe_ix ix_tup (pv 6) pe_int (fun _ _ => rfl)) pa_nil)))) rfl)) (pss_one (ps_if (pt_cmpR op_eq (pv 7) pe_int (nomark _)) (pss_one (ps_dput (by exact hu) (pv 3) (pv 4) (pe_tup (pa_cons (pe_ix ix_tup (pv 6) pe_int (fun _ _ => rfl)) (pa_cons (pe_ix ix_tup (pv 6) pe_int (fun _ _ => rfl)) (pa_cons (pe_dget (by exact hu) (pe_disp (pps_cons pe_str pe_str (pps_cons pe_str pe_str (pps_cons pe_str pe_str (pps_cons pe_str pe_str pps_nil)))) (by rfl) (by rfl) (fun z => by cases z) (by decide)) (pe_ix ix_tup (pv 6) pe_int (fun _ _ => rfl)) (fun _ _ => rfl)) pa_nil)))) rfl)) (pss_one (ps_if (pt_cmpR op_eq (pv 7) pe_int (nomark _)) (pss_one (ps_dput (by exact hu) (pv 3) (pv 4) (pe_tup (pa_cons pe_str (pa_cons (pe_ix ix_tup (pv 6) pe_int (fun _ _ => rfl)) (pa_cons (pe_ix ix_tup (pv 6) pe_int (fun _ _ => rfl)) pa_nil)))) rfl)) (pss_one (ps_if (PW.pt (pw_and (pt_cmpR op_eq (pv 7) pe_int (nomark _)) (pw_and1 (pt_cmpR op_gt (pe_callB call_lenD (by rfl) T.n_len (by decide +kernel) (pa_cons (pv 2) pa_nil)) pe_int (nomark _))))) (pss_one (ps_expr (pe_bm PySem.F.plainAttrs_dict PySem.F.slot_dict_pop PySem.F.type_dict_pop Vc.mt_dpop (pv 3) (pa_cons (pv 4) pa_nil)))) (pss_one (ps_if (PW.pt (pw_and (pt_cmpR op_eq (pv 7) pe_int (nomark _)) (pw_and1 (pt_cmpR op_lt (pe_callB call_lenD (by rfl) T.n_len (by decide +kernel) (pa_cons (pv 2) pa_nil)) pe_int (nomark _))))) (pss_cons (ps_while PassesOwn.never (PW.pt (pw_or (pt_cmp (pc_din (by exact hu) (pv 4) (pv 2))) (pw_or1 (pt_cmpR op_eq (pv 4) (pv 1) (nomark _))))) (pss_one (ps_set (i := 4) sc__law_other.nd rfl (Or.inl rfl) (pe_op op_mod (pe_op op_add (pv 4) pe_int) pe_int)))) (pss_one (ps_dput (by exact hu) (pv 3) (pv 4) (pe_tup (pa_cons (pe_ifExp (pt_cmpR op_eq (pe_callB call_len_str (by rfl) T.n_len (by decide +kernel) (pa_cons (pe_ix ix_tup (pv 6) pe_int (fun _ _ => rfl)) pa_nil)) pe_int (nomark _)) pe_str pe_str) (pa_cons pe_int (pa_cons pe_str pa_nil)))) rfl))) (pss_cons (ps_set (i := 1) sc__law_other.nd rfl (Or.inl rfl) (pe_op op_mod (pe_op op_add (pv 1) pe_int) pe_int)) (pss_one (ps_while PassesOwn.never (pt_cmp (pc_din (by exact hu) (pv 1) (pv 2))) (pss_one (ps_set (i := 1) sc__law_other.nd rfl (Or.inl rfl) (pe_op op_mod (pe_op op_add (pv 1) pe_int) pe_int))))))))))))))) (pss_one (ps_ret (pe_call G__law_codes (by exact hr.mono (by decide)) (by rfl) T.g__law_codes T.F__law_codes.kp T.b__law_codes .nil pass0 (pa_cons (pv 1) (pa_cons (pv 3) pa_nil)))))))))))), ?_⟩
    walk_at "go"
    intro d nd
    generalize hu1 : upd _ d _ = H1
    obtain ⟨e1, hd1⟩ := Vc.alloc hu1 nd
    have nbd : d ≠ b := (hB.fb nd).1.symm
    have ncd : d ≠ c := (hB.fb nd).2.symm
    have nfd : f ≠ d := ne_of_none TA.ob nd
    have nfb : f ≠ b := fun z => by
      obtain ⟨_, _, _, _, B⟩ := hB
      have := TA.ob
      rw [z, B.ob] at this
      injection this with this; injection this with this; exact kvs_bag this.symm
    have TA1 := TA.ed0 e1
    have hB1 := hB.ed0 e1
    have fin : ∀ (its' : List (FD × Addr)) (H' : Hp) (halt' : Int), Vc.Ed [b] H H' → Bag H' b c → TupsAt H' d its' → Valid halt' (its'.map (·.1)) → ¬ (halt' = halt ∧ (its'.map (·.1)).Perm (its.map (·.1))) → spMadeCodes A [.int halt', .ref d] H' Q E0 :=
      fun its' H' halt' e hB' TA' Va' nn => ⟨d, halt', its', rfl, TA', Va', fun x H2 e2 hs hp ok X => k x H2 (e.ex e2) (hB'.ed0 e2) X ok fun z => nn ⟨hs ▸ z.1, hp.symm.trans z.2⟩⟩
    walk_at "go"
    refine Vc.lock_keys rfl TA1.ob [d] (fun H2 i σ H' => ∃ y4, σ = [some (.ref b), some (.int halt), some (.ref f), some (.ref d), y4, none, none, none] ∧ Vc.Ed [d] H2 H' ∧ H' d = some (.dK (kvsOf (its.take i)))) (fun _ _ _ _ h => h.choose_spec.2.1) (fun H2 od e2 _ => ⟨none, rfl, .refl, e2.at1 nfd.symm hd1⟩) ?_ ?_
    · rintro H2 od i k' v σ' H' e2 h2 h2' hk ⟨y4, rfl, e3, hd⟩
      obtain ⟨p, hp, rfl, rfl⟩ := kvsOf_get hk
      have hm := List.mem_of_getElem? hp
      have hv := kvsOf_val Va.ndb hm
      have kl : (kvsOf (its.take i)).length ≤ 1000 := by rw [kvsOf_len, List.length_take]; omega
      change gName 4 (V.int p.1.byte) _ _ _
      walk_at "go"
      generalize hu3 : upd _ d _ = H3
      obtain ⟨e4, hd3⟩ := Vc.chg hu3 hd
      refine ⟨_, rfl, by walk_at "ed", ?_⟩
      rw [hd3, kvOOf_put (kvO_none (nd_take Va.ndb hp)), List.take_add_one, hp]; rfl
    · rintro H2 σ' H' H3 e2 ⟨y4, rfl, e3, hd⟩ e4 hf3 k3
      rw [kvsOf_len, List.take_of_length_le (Nat.le_refl _)] at hd
      have hd3 := k3 _ _ nfd.symm hd
      have e03 : Vc.Ed [] H H3 := by
        refine e1.trans e4 fun x hx => .inr ?_
        rw [List.mem_singleton.mp hx]; exact nd
      have TA3 := TA.ed0 e03
      have TD3 : TupsAt H3 d its := ⟨hd3, fun p hp => TA3.tp p hp⟩
      have hB3 := hB.ed0 e03
      clear hd1 hd hf3 k3 e1 e2 e3 e4 TA1 hB1
      have hf3 := TA3.ob
      walk_at "go"
      intro L nL
      generalize hu4 : upd _ L _ = H4
      obtain ⟨e4, hL⟩ := Vc.alloc hu4 nL
      have eqk : (kvsOf its).map (fun kv => kV kv.1) = ((its.map (·.1)).map (·.byte)).map V.int := by
        unfold kvsOf
        simp only [List.map_map, Function.comp_def, kV]
      rw [eqk] at hL
      walk_at "go"
      rw [List.length_map, List.length_map, List.length_map]
      refine ⟨b, c, _, rfl, hB3.ed0 e4, by omega, by omega, fun r H5 r0 r1 e5 hB5 => ?_⟩
      have nLb : L ≠ b := (hB3.fb nL).1.symm
      have hL5 := e5.at1 nLb hL
      obtain ⟨r, rfl⟩ : ∃ r' : Nat, r = (r' : Int) := ⟨r.toNat, by omega⟩
      have lr : r < its.length := by omega
      obtain ⟨p, hp⟩ : ∃ p, its[r]? = some p := ⟨_, List.getElem?_eq_getElem lr⟩
      have hm := List.mem_of_getElem? hp
      have hpf : p.1 ∈ its.map (·.1) := List.mem_map.mpr ⟨p, hm, rfl⟩
      have a1 : atI (((its.map (·.1)).map (·.byte)).map V.int) (r : Int) = some (.int p.1.byte) := atI_nat (by rw [List.getElem?_map, List.getElem?_map, List.getElem?_map, hp]; rfl)
      have hv := kvsOf_val Va.ndb hm
      have TA5 := (TA3.ed0 e4).ed1 e5 nfb
      have TD5 := (TD3.ed0 e4).ed1 e5 nbd
      have hf5 := TA5.ob
      have e05 : Vc.Ed [b] H H5 := (e03.mono (T := [b]) (fun _ z => nomatch z)).ex e4 |>.one e5 (.inl (by simp))
      walk_at "go"
      refine ⟨b, c, 6, rfl, hB5, by omega, by omega, fun kd H6 k0 k1 e6 hB6 => ?_⟩
      have TA6 := TA5.ed1 e6 nfb
      have TD6 := TD5.ed1 e6 nbd
      have hf6 := TA6.ob
      have hd6 := TD6.ob
      have e06 : Vc.Ed [b] H H6 := e05.one e6 (.inl (by simp))
      have ht6 := TD6.tp p hm
      have okp := Va.ok p.1 hpf
      have bp := Va.byt p.1 hpf
      have i0 : atI [V.str p.1.name, .int p.1.len, .str p.1.flow] 0 = some (.str p.1.name) := rfl
      have i1 : atI [V.str p.1.name, .int p.1.len, .str p.1.flow] 1 = some (.int p.1.len) := rfl
      have i2 : atI [V.str p.1.name, .int p.1.len, .str p.1.flow] 2 = some (.str p.1.flow) := rfl
      have kl : (kvsOf its).length ≤ 1000 := by rw [kvsOf_len]; omega
      have klt : (kvsOf its).length = its.length := kvsOf_len its
      have nodn : ∀ q ∈ its, q.1.byte ≠ p.1.byte → q.1.name ≠ p.1.name := fun q hq hb e => by
        have n := Va.ndn
        rw [List.map_map] at n
        exact hb (congrArg (fun q : FD × Addr => q.1.byte) (inj_nodup n hq hm e))
      -- a form in place of the one at p
      have chg : ∀ (g : FD) (t : Addr) (H7 H8 : Hp), g.byte = p.1.byte → g ≠ p.1 → g.Ok → (∀ q ∈ its, q.1.byte ≠ g.byte → q.1.name ≠ g.name) → Vc.Ed [] H6 H7 → H7 t = some (.tup [.str g.name, .int g.len, .str g.flow]) → upd H7 d (.dK (putK (kvsOf its) (.inl g.byte) (.ref t))) = H8 → spMadeCodes A [.int halt, .ref d] H8 Q E0 := by
        intro g t H7 H8 gb gn gok gnm e7 ht hu8
        obtain ⟨e8, T8⟩ := TD6.put e7 ht hu8
        have hB8 := (hB6.ed0 e7).ed1 e8 nbd.symm ncd.symm
        refine fin _ H8 halt ((e06.ex e7).one e8 (.inr nd)) hB8 T8 (Va.put (by rw [putI_len_eq hm gb.symm]; exact v16) gok (by rw [gb]; exact bp) gnm) fun z => gn ?_
        have : g ∈ its.map (·.1) := z.2.mem_iff.mp (List.mem_map.mpr ⟨_, putI_has, rfl⟩)
        exact fd_inj Va.ndb this hpf gb
      have cs : kd = 0 ∨ kd = 1 ∨ kd = 2 ∨ kd = 3 ∨ kd = 4 ∨ kd = 5 := by omega
      rcases cs with rfl | rfl | rfl | rfl | rfl | rfl
      · -- the length
        walk_at "goo"
        have l1 := okp.l1
        have l4 := okp.l4
        have two := okp.two
        refine Vc.go_ite (fun g => ?_) (fun g => ?_)
        · walk_at "go"
          intro M nM
          generalize hu7 : upd _ M _ = H7
          obtain ⟨e7, hM⟩ := Vc.alloc hu7 nM
          have ht7 := e7.at0 ht6
          walk_at "go"
          rw [inV2]
          walk_at "go"
          intro t nt
          generalize hu8 : upd _ t _ = H8
          obtain ⟨e8, ht⟩ := Vc.alloc hu8 nt
          have hd8 : H8 d = some (.dK (kvsOf its)) := e8.at0 (e7.at0 hd6)
          walk_at "go"
          generalize hu9 : upd _ d _ = H9
          walk_at "go"
          refine chg ⟨p.1.byte, p.1.name, p.1.len % 4 + 1 + (if decide (p.1.flow = "jump" ∨ p.1.flow = "test") = true then 1 else 0), p.1.flow⟩ t H8 H9 rfl (fun z => ?_) ⟨okp.n1, okp.n8, okp.nl, ?_, ?_, okp.fl, fun h => ?_⟩ nodn (e7.ex e8) ht hu9
          · have := congrArg FD.len z
            dsimp only at this
            split at this <;> omega
          · dsimp only
            split <;> omega
          · dsimp only
            split <;> omega
          · have h' : decide (p.1.flow = "jump" ∨ p.1.flow = "test") = true := decide_eq_true h
            dsimp only
            rw [if_pos h']; omega
        · walk_at "go"
          intro t nt
          generalize hu8 : upd _ t _ = H8
          obtain ⟨e8, ht⟩ := Vc.alloc hu8 nt
          have hd8 : H8 d = some (.dK (kvsOf its)) := e8.at0 hd6
          walk_at "go"
          generalize hu9 : upd _ d _ = H9
          walk_at "go"
          refine chg ⟨p.1.byte, p.1.name, p.1.len % 4 + 1 + 0, p.1.flow⟩ t H8 H9 rfl (fun z => ?_) ⟨okp.n1, okp.n8, okp.nl, ?_, ?_, okp.fl, fun h => ?_⟩ nodn e8 ht hu9
          · have := congrArg FD.len z
            dsimp only at this
            omega
          · dsimp only; omega
          · dsimp only; omega
          · dsimp only; have := two h; omega
      · -- the flow
        walk_at "goo"
        intro D nD
        generalize hu7 : upd _ D _ = H7
        obtain ⟨e7, hD⟩ := Vc.alloc hu7 nD
        walk_at "go"
        refine ⟨hD, [(.inr "next", .str "end"), (.inr "end", .str "next"), (.inr "jump", .str "test"), (.inr "test", .str "jump")], rfl, by show 4 ≤ 15; decide, ?_⟩
        generalize hu8 : upd _ D _ = H8
        obtain ⟨e8, hD8⟩ := Vc.chg hu8 hD
        have e68 : Vc.Ed [] H6 H8 := e7.one e8 (.inr nD)
        have ht8 := e68.at0 ht6
        have fg := flow_get okp.fl
        walk_at "go"
        intro t nt
        generalize hu9 : upd _ t _ = H9
        obtain ⟨e9, ht⟩ := Vc.alloc hu9 nt
        have hd9 : H9 d = some (.dK (kvsOf its)) := e9.at0 (e68.at0 hd6)
        walk_at "go"
        generalize hu10 : upd _ d _ = H10
        walk_at "go"
        obtain ⟨x1, x2, x3⟩ := flow_x okp.fl
        exact chg ⟨p.1.byte, p.1.name, p.1.len, flowX p.1.flow⟩ t H9 H10 rfl (fun z => x2 (congrArg FD.flow z)) ⟨okp.n1, okp.n8, okp.nl, okp.l1, okp.l4, x1, fun h => okp.two (x3 h)⟩ nodn (e68.ex e9) ht hu10
      · -- the name
        walk_at "goo"
        intro t nt
        generalize hu9 : upd _ t _ = H9
        obtain ⟨e9, ht⟩ := Vc.alloc hu9 nt
        have hd9 : H9 d = some (.dK (kvsOf its)) := e9.at0 hd6
        walk_at "go"
        generalize hu10 : upd _ d _ = H10
        walk_at "go"
        have zz : ∀ q ∈ its, q.1.name ≠ "zz" := fun q hq e => by
          obtain ⟨c', hc', l'⟩ := low q hq
          rw [e] at hc'
          exact zz_high c' hc' l'
        exact chg ⟨p.1.byte, "zz", p.1.len, p.1.flow⟩ t H9 H10 rfl (fun z => zz p hm (congrArg FD.name z).symm) ⟨nok_zz.1, nok_zz.2.1, nok_zz.2.2, okp.l1, okp.l4, okp.fl, okp.two⟩ (fun q hq _ => zz q hq) e9 ht hu10
      · -- one less
        walk_at "goo"
        rw [klt]
        refine Vc.go_ite (fun g => ?_) (fun g => ?_)
        · walk_at "go"
          generalize hu8 : upd _ d _ = H8
          obtain ⟨e8, hd8⟩ := Vc.chg hu8 hd6
          rw [dropK_kvs] at hd8
          have hB8 := hB6.ed1 e8 nbd.symm ncd.symm
          walk_at "go"
          have sub : ((its.filter fun q => decide (q.1.byte ≠ p.1.byte)).map (·.1)).Sublist (its.map (·.1)) := (List.filter_sublist).map _
          have mem : ∀ q ∈ its.filter fun q => decide (q.1.byte ≠ p.1.byte), q ∈ its ∧ q.1.byte ≠ p.1.byte := fun q hq => ⟨(List.mem_filter.mp hq).1, of_decide_eq_true (List.mem_filter.mp hq).2⟩
          refine fin (its.filter fun q => decide (q.1.byte ≠ p.1.byte)) H8 halt (e06.one e8 (.inr nd)) hB8 ⟨hd8, fun q hq => e8.tup _ _ (TD6.tp q (mem q hq).1)⟩ ⟨?_, ?_, fun g hg => Va.ok g (sub.subset hg), fun g hg => Va.byt g (sub.subset hg), Va.ndb.sublist (sub.map _), Va.ndn.sublist (sub.map _), Va.s0, Va.s1⟩ fun z => ?_
          · rw [List.length_map]
            obtain ⟨q0, h0⟩ : ∃ q, its[0]? = some q := ⟨_, List.getElem?_eq_getElem (by omega)⟩
            obtain ⟨q1, h1⟩ : ∃ q, its[1]? = some q := ⟨_, List.getElem?_eq_getElem (by omega)⟩
            have ne : q0.1.byte ≠ q1.1.byte := nd_take Va.ndb h1 q0 (by rw [List.mem_take_iff_getElem]; exact ⟨0, by omega, by rw [List.getElem?_eq_some_iff] at h0; exact h0.2⟩)
            by_cases h : q0.1.byte = p.1.byte
            · exact List.length_pos_of_mem (List.mem_filter.mpr ⟨List.mem_of_getElem? h1, decide_eq_true fun z => ne (h.trans z.symm)⟩)
            · exact List.length_pos_of_mem (List.mem_filter.mpr ⟨List.mem_of_getElem? h0, decide_eq_true h⟩)
          · exact Nat.le_trans (List.Sublist.length_le sub) Va.n16
          · have : p.1 ∈ (its.filter fun q => decide (q.1.byte ≠ p.1.byte)).map (·.1) := z.2.mem_iff.mpr hpf
            obtain ⟨q, hq, e⟩ := List.mem_map.mp this
            exact (mem q hq).2 (by rw [e])
        · walk_at "goo"
          obtain ⟨v, v256, hvn⟩ := free_nat 256 (halt :: (its.map (·.1)).map (·.byte)) (by simp; omega)
          have vh : (v : Int) ≠ halt := fun z => hvn (List.mem_cons.mpr (.inl z))
          have s0 := Va.s0
          have s1 := Va.s1
          refine ⟨fun m σ H' => ∃ h' : Int, σ = [some (.ref b), some (.int h'), some (.ref f), some (.ref d), some (.int p.1.byte), some (.ref L), some (.ref p.2), some (.int 3)] ∧ 0 ≤ h' ∧ h' < 256 ∧ (((v : Int) - h') % 256) < (((v : Int) - halt) % 256) ∧ H' = H6 ∧ m = (((v : Int) - h') % 256).toNat, ⟨_, _, rfl, by omega, by omega, by omega, rfl, rfl⟩, ?_⟩
          rintro m σ H' ⟨h', rfl, b0, b1, ms, rfl, rfl⟩
          walk_at "go"
          refine Vc.go_iteb (fun h2 => ?_) (fun h2 => ?_)
          · have ne : h' ≠ v := fun z => hvn (List.mem_cons_of_mem _ (by
              obtain ⟨q, hq, e⟩ := kvs_some h2
              exact List.mem_map.mpr ⟨q.1, List.mem_map.mpr ⟨q, hq, rfl⟩, e.trans z⟩))
            walk_at "go"
            refine ⟨fun σ' H'' => ∃ h'' : Int, σ' = [some (.ref b), some (.int h''), some (.ref f), some (.ref d), some (.int p.1.byte), some (.ref L), some (.ref p.2), some (.int 3)] ∧ 0 ≤ h'' ∧ h'' < 256 ∧ (((v : Int) - h'') % 256) < (((v : Int) - halt) % 256) ∧ H'' = H' ∧ (((v : Int) - h'') % 256).toNat < (((v : Int) - h') % 256).toNat, ?_, ?_⟩
            · rintro σ' H'' ⟨h'', q1, q2, q3, q4, q5, q6⟩
              exact ⟨_, q6, h'', q1, q2, q3, q4, q5, rfl⟩
            · walk_at "go"
              exact ⟨_, rfl, by omega, by omega, by omega, rfl, by omega⟩
          · have hn : valV (kvsOf its) (.inl h') = none := Option.not_isSome_iff_eq_none.mp (by rw [h2]; decide)
            walk_at "go"
            refine fin its H' h' e06 hB6 TD6 ⟨Va.n1, Va.n16, Va.ok, fun g hg => ?_, Va.ndb, Va.ndn, b0, by omega⟩ fun z => by have := z.1; omega
            obtain ⟨q, hq, rfl⟩ := List.mem_map.mp hg
            have := Va.byt q.1 hg
            exact ⟨this.1, this.2.1, kvs_none hn q hq⟩
      · walk_at "goo"
        obtain ⟨v, v256, hvn⟩ := free_nat 256 (halt :: (its.map (·.1)).map (·.byte)) (by simp; omega)
        have vh : (v : Int) ≠ halt := fun z => hvn (List.mem_cons.mpr (.inl z))
        have s0 := Va.s0
        have s1 := Va.s1
        refine ⟨fun m σ H' => ∃ h' : Int, σ = [some (.ref b), some (.int h'), some (.ref f), some (.ref d), some (.int p.1.byte), some (.ref L), some (.ref p.2), some (.int 4)] ∧ 0 ≤ h' ∧ h' < 256 ∧ (((v : Int) - h') % 256) < (((v : Int) - halt) % 256) ∧ H' = H6 ∧ m = (((v : Int) - h') % 256).toNat, ⟨_, _, rfl, by omega, by omega, by omega, rfl, rfl⟩, ?_⟩
        rintro m σ H' ⟨h', rfl, b0, b1, ms, rfl, rfl⟩
        walk_at "go"
        refine Vc.go_iteb (fun h2 => ?_) (fun h2 => ?_)
        · have ne : h' ≠ v := fun z => hvn (List.mem_cons_of_mem _ (by
            obtain ⟨q, hq, e⟩ := kvs_some h2
            exact List.mem_map.mpr ⟨q.1, List.mem_map.mpr ⟨q, hq, rfl⟩, e.trans z⟩))
          walk_at "go"
          refine ⟨fun σ' H'' => ∃ h'' : Int, σ' = [some (.ref b), some (.int h''), some (.ref f), some (.ref d), some (.int p.1.byte), some (.ref L), some (.ref p.2), some (.int 4)] ∧ 0 ≤ h'' ∧ h'' < 256 ∧ (((v : Int) - h'') % 256) < (((v : Int) - halt) % 256) ∧ H'' = H' ∧ (((v : Int) - h'') % 256).toNat < (((v : Int) - h') % 256).toNat, ?_, ?_⟩
          · rintro σ' H'' ⟨h'', q1, q2, q3, q4, q5, q6⟩
            exact ⟨_, q6, h'', q1, q2, q3, q4, q5, rfl⟩
          · walk_at "go"
            exact ⟨_, rfl, by omega, by omega, by omega, rfl, by omega⟩
        · have hn : valV (kvsOf its) (.inl h') = none := Option.not_isSome_iff_eq_none.mp (by rw [h2]; decide)
          walk_at "go"
          refine fin its H' h' e06 hB6 TD6 ⟨Va.n1, Va.n16, Va.ok, fun g hg => ?_, Va.ndb, Va.ndn, b0, by omega⟩ fun z => by have := z.1; omega
          obtain ⟨q, hq, rfl⟩ := List.mem_map.mp hg
          have := Va.byt q.1 hg
          exact ⟨this.1, this.2.1, kvs_none hn q hq⟩
      · walk_at "goo"
        rw [klt]
        refine Vc.go_ite (fun g => ?_) (fun g => ?_)
        · walk_at "go"
          obtain ⟨v, v256, hvn⟩ := free_nat 256 (halt :: (its.map (·.1)).map (·.byte)) (by simp; omega)
          refine ⟨fun m σ H' => ∃ h' : Int, σ = [some (.ref b), some (.int halt), some (.ref f), some (.ref d), some (.int h'), some (.ref L), some (.ref p.2), some (.int 5)] ∧ 0 ≤ h' ∧ h' < 256 ∧ H' = H6 ∧ m = (((v : Int) - h') % 256).toNat, ⟨_, _, rfl, bp.1, by omega, rfl, rfl⟩, ?_⟩
          rintro m σ H' ⟨h', rfl, b0, b1, rfl, rfl⟩
          walk_at "go"
          refine Vc.go_iteb (fun h2 => ?_) (fun h2 => ?_)
          · have ne : h' ≠ v := fun z => hvn (List.mem_cons_of_mem _ (by
              obtain ⟨q, hq, e⟩ := kvs_some h2
              exact List.mem_map.mpr ⟨q.1, List.mem_map.mpr ⟨q, hq, rfl⟩, e.trans z⟩))
            walk_at "go"
            refine ⟨fun σ' H'' => ∃ h'' : Int, σ' = [some (.ref b), some (.int halt), some (.ref f), some (.ref d), some (.int h''), some (.ref L), some (.ref p.2), some (.int 5)] ∧ 0 ≤ h'' ∧ h'' < 256 ∧ H'' = H' ∧ (((v : Int) - h'') % 256).toNat < (((v : Int) - h') % 256).toNat, ?_, ?_⟩
            · rintro σ' H'' ⟨h'', q1, q2, q3, q5, q6⟩
              exact ⟨_, q6, h'', q1, q2, q3, q5, rfl⟩
            · walk_at "go"
              exact ⟨_, rfl, by omega, by omega, rfl, by omega⟩
          · have hn : valV (kvsOf its) (.inl h') = none := Option.not_isSome_iff_eq_none.mp (by rw [h2]; decide)
            walk_at "go"
            refine Vc.go_ite (fun h3 => ?_) (fun h3 => ?_)
            · have ne : h' ≠ v := fun z => hvn (List.mem_cons.mpr (.inl (z.symm.trans h3)))
              walk_at "go"
              refine ⟨fun σ' H'' => ∃ h'' : Int, σ' = [some (.ref b), some (.int halt), some (.ref f), some (.ref d), some (.int h''), some (.ref L), some (.ref p.2), some (.int 5)] ∧ 0 ≤ h'' ∧ h'' < 256 ∧ H'' = H' ∧ (((v : Int) - h'') % 256).toNat < (((v : Int) - h') % 256).toNat, ?_, ?_⟩
              · rintro σ' H'' ⟨h'', q1, q2, q3, q5, q6⟩
                exact ⟨_, q6, h'', q1, q2, q3, q5, rfl⟩
              · walk_at "go"
                exact ⟨_, rfl, by omega, by omega, rfl, by omega⟩
            · have n8 := okp.n8
              have ln : p.1.name.length ≤ 1000 := by omega
              have zz : ∀ q ∈ its, q.1.name ≠ "zz" := fun q hq e => by
                obtain ⟨c', hc', l'⟩ := low q hq
                rw [e] at hc'
                exact zz_high c' hc' l'
              have z1 : ∀ q ∈ its, q.1.name ≠ "z" := fun q hq e => by
                obtain ⟨c', hc', l'⟩ := low q hq
                rw [e] at hc'
                exact z_high c' hc' l'
              have nw : ∀ (nm : Str) (t : Addr) (H7 H8 : Hp), 1 ≤ nm.length → nm.length ≤ 8 → (∀ c ∈ nm.cps.toList, c ∈ LET) → (∀ q ∈ its, q.1.name ≠ nm) → Vc.Ed [] H' H7 → H7 t = some (.tup [.str nm, .int 1, .str "next"]) → upd H7 d (.dK (putK (kvsOf its) (.inl h') (.ref t))) = H8 → spMadeCodes A [.int halt, .ref d] H8 Q E0 := by
                intro nm t H7 H8 m1 m8 ml mn e7 ht hu8
                obtain ⟨e8, T8⟩ := TD6.put (f := ⟨h', nm, 1, "next"⟩) e7 ht hu8
                have hB8 := (hB6.ed0 e7).ed1 e8 nbd.symm ncd.symm
                refine fin _ H8 halt ((e06.ex e7).one e8 (.inr nd)) hB8 T8 (Va.put (Nat.le_trans putI_len (by omega)) ⟨m1, m8, ml, by show (1 : Int) ≤ 1; omega, by show (1 : Int) ≤ 4; omega, .inl rfl, fun h => ?_⟩ ⟨b0, by show h' ≤ 255; omega, h3⟩ (fun q hq _ => mn q hq)) fun z => ?_
                · have h : ("next" : Str) = "jump" ∨ ("next" : Str) = "test" := h
                  exact absurd h (by decide +kernel)
                · have : (⟨h', nm, 1, "next"⟩ : FD) ∈ its.map (·.1) := z.2.mem_iff.mp (List.mem_map.mpr ⟨_, putI_has, rfl⟩)
                  obtain ⟨q, hq, e⟩ := List.mem_map.mp this
                  exact kvs_none hn q hq (by rw [e])
              walk_at "go"
              refine Vc.go_ite (fun h4 => ?_) (fun h4 => ?_)
              · walk_at "go"
                intro t nt
                generalize hu9 : upd _ t _ = H9
                obtain ⟨e9, ht⟩ := Vc.alloc hu9 nt
                have hd9 : H9 d = some (.dK (kvsOf its)) := e9.at0 hd6
                walk_at "go"
                generalize hu10 : upd _ d _ = H10
                walk_at "go"
                exact nw "zz" t H9 H10 nok_zz.1 nok_zz.2.1 nok_zz.2.2 zz e9 ht hu10
              · walk_at "go"
                intro t nt
                generalize hu9 : upd _ t _ = H9
                obtain ⟨e9, ht⟩ := Vc.alloc hu9 nt
                have hd9 : H9 d = some (.dK (kvsOf its)) := e9.at0 hd6
                walk_at "go"
                generalize hu10 : upd _ d _ = H10
                walk_at "go"
                exact nw "z" t H9 H10 nok_z.1 nok_z.2.1 nok_z.2.2 z1 e9 ht hu10
        · walk_at "go"
          obtain ⟨v, v256, hvn⟩ := free_nat 256 (halt :: (its.map (·.1)).map (·.byte)) (by simp; omega)
          have vh : (v : Int) ≠ halt := fun z => hvn (List.mem_cons.mpr (.inl z))
          have s0 := Va.s0
          have s1 := Va.s1
          refine ⟨fun m σ H' => ∃ h' : Int, σ = [some (.ref b), some (.int h'), some (.ref f), some (.ref d), some (.int p.1.byte), some (.ref L), some (.ref p.2), some (.int 5)] ∧ 0 ≤ h' ∧ h' < 256 ∧ (((v : Int) - h') % 256) < (((v : Int) - halt) % 256) ∧ H' = H6 ∧ m = (((v : Int) - h') % 256).toNat, ⟨_, _, rfl, by omega, by omega, by omega, rfl, rfl⟩, ?_⟩
          rintro m σ H' ⟨h', rfl, b0, b1, ms, rfl, rfl⟩
          walk_at "go"
          refine Vc.go_iteb (fun h2 => ?_) (fun h2 => ?_)
          · have ne : h' ≠ v := fun z => hvn (List.mem_cons_of_mem _ (by
              obtain ⟨q, hq, e⟩ := kvs_some h2
              exact List.mem_map.mpr ⟨q.1, List.mem_map.mpr ⟨q, hq, rfl⟩, e.trans z⟩))
            walk_at "go"
            refine ⟨fun σ' H'' => ∃ h'' : Int, σ' = [some (.ref b), some (.int h''), some (.ref f), some (.ref d), some (.int p.1.byte), some (.ref L), some (.ref p.2), some (.int 5)] ∧ 0 ≤ h'' ∧ h'' < 256 ∧ (((v : Int) - h'') % 256) < (((v : Int) - halt) % 256) ∧ H'' = H' ∧ (((v : Int) - h'') % 256).toNat < (((v : Int) - h') % 256).toNat, ?_, ?_⟩
            · rintro σ' H'' ⟨h'', q1, q2, q3, q4, q5, q6⟩
              exact ⟨_, q6, h'', q1, q2, q3, q4, q5, rfl⟩
            · walk_at "go"
              exact ⟨_, rfl, by omega, by omega, by omega, rfl, by omega⟩
          · have hn : valV (kvsOf its) (.inl h') = none := Option.not_isSome_iff_eq_none.mp (by rw [h2]; decide)
            walk_at "go"
            refine fin its H' h' e06 hB6 TD6 ⟨Va.n1, Va.n16, Va.ok, fun g hg => ?_, Va.ndb, Va.ndn, b0, by omega⟩ fun z => by have := z.1; omega
            obtain ⟨q, hq, rfl⟩ := List.mem_map.mp hg
            have := Va.byt q.1 hg
            exact ⟨this.1, this.2.1, kvs_none hn q hq⟩
end

end My
namespace My
open PySem PySem.Spec PyProof.Rows L2
def gkb_CodeSetu_initu_1_forms_stop {α : Type} (us ws : List α) : List α := match us, ws with
  | [u0], [w0, w1] => [u0, w1, w0]
  | _, _ => []
theorem kb_CodeSetu_initu_1_forms_stop {K : PySem.W.Frag} {f : Addr} {fd : FuncData} (F : Fun K "__init__" "CodeSet.__init__" s_CodeSetu_initu f fd) : KBinds K fd ["self", "stop", "forms"] ["forms", "stop"] gkb_CodeSetu_initu_1_forms_stop gkb_CodeSetu_initu_1_forms_stop := by
  refine Vc.kbinds F (fun kV doc pm an cdv ct us ws hl => ?_) (fun {vs us zs ws} r rz => ?_)
  · unfold gkb_CodeSetu_initu_1_forms_stop at hl ⊢
    split at hl
    · rfl
    · cases hl
  · rcases r with _ | ⟨hu0, _ | ⟨_, _⟩⟩ <;> rcases rz with _ | ⟨hw0, _ | ⟨hw1, _ | ⟨_, _⟩⟩⟩ <;> first | exact .nil | exact (.cons hu0 (.cons hw1 (.cons hw0 .nil)))
/-! ### k03: the law -/
def spLaw (K : PySem.W.Frag) : Sp := fun vs H Q _ => ∃ (a : Addr) (ns : List Int), vs = [.ref a] ∧ SqL K H a (ns.map V.int) ∧ ns.length ≤ 63 ∧ ∀ H', Q (.bl true) H'
/-- code sets of the same forms tell them in the same order -/
theorem fs_eq {x y : CodeO} (ok : x.Ok) (oky : y.Ok) (h : x.fs.Perm y.fs) : x.fs = y.fs :=
  List.Perm.eq_of_pairwise (le := fun f g : FD => f.byte ≤ g.byte) (fun f g hf hg a b => fd_inj ok.1.ndb hf (h.mem_iff.mpr hg) (Int.le_antisymm a b)) (List.pairwise_map.mp ok.2) (List.pairwise_map.mp oky.2) h
theorem CodeO.At.gone {A : Ad} {H0 H H' : Hp} {x : CodeO} {q : Addr} {o : HO} (h : x.At A H) (e : Vc.Ed [q] H H') (hq : H0 q = some o) (nc : H0 x.c = none) (no : H0 x.o = none) (nt : H0 x.t = none) (nf : ∀ p ∈ x.items, p.2 ≠ q) : x.At A H' :=
  h.ed e (fun z => by rw [List.mem_singleton.mp z, hq] at nc; cases nc) (fun z => by rw [List.mem_singleton.mp z, hq] at no; cases no) (fun z => by rw [List.mem_singleton.mp z, hq] at nt; cases nt) (fun p hp z => nf p hp (List.mem_singleton.mp z))
theorem shp_form : ∀ f ∈ SAMPLE, SeqAt.shaped (.tuple [.str f.name, .int f.len, .str f.flow]) = true := by decide +kernel
theorem tups_perm {H : Hp} {d : Addr} {its js : List (FD × Addr)} (h : TupsAt H d its) : TupsAt H d its := h
section
variable {w : World} {K : PySem.W.Frag} {mg : Str → Option Value} {base : Heap} {A : Ad}
theorem ok_law (T : Txt K mg A) : FnOk PG w K mg base CX0 8 A.f_law A.d_law ["_law_script"] (spLaw K) := by
  have G__law_bag := ok__law_bag (P := PG) (w := w) (base := base) T
  have G__law_draw := ok__law_draw (P := PG) (w := w) (base := base) T
  have G__law_same := ok__law_same (P := PG) (w := w) (base := base) T 2
  have G__law_forms := ok__law_forms (P := PG) (w := w) (base := base) T
  have G__law_codes := ok__law_codes (P := PG) (w := w) (base := base) T
  have G__law_holds := ok__law_holds (w := w) (base := base) T
  have G__law_refused := ok__law_refused (w := w) (base := base) T
  have G__law_other := ok__law_other (P := PG) (w := w) (base := base) T
  have G_Formu_initu := ok_Formu_initu (P := PG) (w := w) (base := base) T
  have G_CodeSetu_initu := ok_CodeSetu_initu (P := PG) (w := w) (base := base) T
  have G_CodeSetu_equ := ok_CodeSetu_equ (P := PG) (w := w) (base := base) T
  have G_CodeSet_firsts := ok_CodeSet_firsts (P := PG) (w := w) (base := base) T
  have G_CodeSet_sample := ok_CodeSet_sample (P := PG) (w := w) (base := base) T
  refine T.F_law.ok sc_law (fun vs H Q E h => ?_) (fun cdv Ar outer s H vs Q E hr h => ?_)
  · obtain ⟨a, ns, rfl, _⟩ := h
    rfl
  · obtain ⟨a, ns, rfl, hS, hl, k⟩ := h
    have hu := hu_of hr
    refine ⟨_, (pss_cons (ps_set (i := 1) sc_law.nd rfl (Or.inl rfl) (pe_call G__law_bag (by exact hr.mono (by decide)) (by rfl) T.g__law_bag T.F__law_bag.kp T.b__law_bag .nil pass0 (pa_cons (pv 0) pa_nil))) (pss_cons (ps_set (i := 2) sc_law.nd rfl (Or.inl rfl) (pe_call G__law_draw (by exact hr.mono (by decide)) (by rfl) T.g__law_draw T.F__law_draw.kp T.b__law_draw .nil pass0 (pa_cons (pv 1) (pa_cons pe_int pa_nil)))) (pss_cons (ps_set (i := 3) sc_law.nd rfl (Or.inl rfl) (pe_call G__law_forms (by exact hr.mono (by decide)) (by rfl) T.g__law_forms T.F__law_forms.kp T.b__law_forms .nil pass0 (pa_cons (pv 1) (pa_cons (pv 2) pa_nil)))) (pss_cons (ps_set (i := 4) sc_law.nd rfl (Or.inl rfl) (pe_op op_add pe_int (pe_call G__law_draw (by exact hr.mono (by decide)) (by rfl) T.g__law_draw T.F__law_draw.kp T.b__law_draw .nil pass0 (pa_cons (pv 1) (pa_cons (pe_op op_pow pe_int pe_int) pa_nil))))) (pss_cons (ps_set (i := 5) sc_law.nd rfl (Or.inl rfl) pe_dnewK) (pss_cons (ps_lock (ps_for PassesOwn.never rfl (pi_keys (pv 3)) (pg_name (i := 6) sc_law.nd rfl (Or.inl rfl)) (pss_one (ps_dput (by exact hu) (pv 5) (pv 6) (pe_make T.mk_Form G_Formu_initu (by exact hr.mono (by decide)) (by rfl) T.g_Form T.b_Formu_initu .nil pass0 (pa_cons (pe_ix ix_tup (pe_dget (by exact hu) (pv 3) (pv 6) (fun _ _ => rfl)) pe_int (fun _ _ => rfl)) (pa_cons (pe_ix ix_tup (pe_dget (by exact hu) (pv 3) (pv 6) (fun _ _ => rfl)) pe_int (fun _ _ => rfl)) (pa_cons (pe_ix ix_tup (pe_dget (by exact hu) (pv 3) (pv 6) (fun _ _ => rfl)) pe_int (fun _ _ => rfl)) pa_nil)))) rfl)))) (pss_cons (ps_set (i := 7) sc_law.nd rfl (Or.inl rfl) (Vc.pe_makeK0 T.mk_CodeSet G_CodeSetu_initu (by exact hr.mono (by decide)) (by rfl) T.g_CodeSet (kb_CodeSetu_initu_1_forms_stop T.F_CodeSetu_initu) pass0 (pk_cons (pv 5) (pk_cons (pv 2) pk_nil)))) (pss_cons (ps_expr (pe_dclear (pv 5))) (pss_cons (ps_if (pt_not (pt_val (pe_call G__law_holds (by exact hr.mono (by decide)) (by rfl) T.g__law_holds T.F__law_holds.kp T.b__law_holds .nil pass0 (pa_cons (pv 7) (pa_cons (pv 2) (pa_cons (pv 3) (pa_cons (pv 4) pa_nil))))))) (pss_one (ps_ret pe_bl)) pss_nil) (pss_cons (ps_expr (pe_bm0 PySem.F.plainAttrs_list PySem.F.slot_list_clear PySem.F.type_list_clear mt_clear (pe_meth0 (pv 7) T.cl_CodeSet T.m_CodeSet_firsts G_CodeSet_firsts (by exact hr.mono (by decide)) T.b_CodeSet_firsts .nil pass0))) (pss_cons (ps_set (i := 8) sc_law.nd rfl (Or.inl rfl) pe_dnewK) (pss_cons (ps_for PassesOwn.never rfl (pi_list (pe_revL (pe_callTy (call_list_dK rfl) (by rfl) T.n_list (by decide +kernel) (pa_cons (pv 3) pa_nil)))) (pg_name (i := 6) sc_law.nd rfl (Or.inl rfl)) (pss_one (ps_dput (by exact hu) (pv 8) (pv 6) (pe_dget (by exact hu) (pv 3) (pv 6) (fun _ _ => rfl)) rfl))) (pss_cons (ps_set (i := 9) sc_law.nd rfl (Or.inl rfl) (pe_call G__law_other (by exact hr.mono (by decide)) (by rfl) T.g__law_other T.F__law_other.kp T.b__law_other .nil pass0 (pa_cons (pv 1) (pa_cons (pv 2) (pa_cons (pv 3) pa_nil))))) (pss_cons (ps_if (PW.pt (pw_or (pt_not (pt_cmpR (Vc.op_eqO G_CodeSetu_equ (by exact hr.mono (by decide)) T.eq_CodeSet T.b_CodeSetu_equ) (pv 7) (pe_call G__law_codes (by exact hr.mono (by decide)) (by rfl) T.g__law_codes T.F__law_codes.kp T.b__law_codes .nil pass0 (pa_cons (pv 2) (pa_cons (pv 8) pa_nil))) (nomark _))) (pw_or (pt_cmpR (Vc.op_eqO G_CodeSetu_equ (by exact hr.mono (by decide)) T.eq_CodeSet T.b_CodeSetu_equ) (pv 7) (pv 9) (nomark _)) (pw_or1 (pt_cmpR (Vc.op_eqO G_CodeSetu_equ (by exact hr.mono (by decide)) T.eq_CodeSet T.b_CodeSetu_equ) (pv 9) (pv 7) (nomark _)))))) (pss_one (ps_ret pe_bl)) pss_nil) (pss_cons (ps_for PassesOwn.never rfl (pi_list (pe_lst (pa_cons (pv 2) (pa_cons (pe_un un_neg pe_int) (pa_cons pe_int (pa_cons (pv 4) (pa_cons (pe_call G__law_draw (by exact hr.mono (by decide)) (by rfl) T.g__law_draw T.F__law_draw.kp T.b__law_draw .nil pass0 (pa_cons (pv 1) (pa_cons pe_int pa_nil))) pa_nil))))))) (pg_name (i := 6) sc_law.nd rfl (Or.inl rfl)) (pss_one (ps_if (PW.pt (pw_and (pt_cmp (pc_dnotin (by exact hu) (pv 6) (pv 3))) (pw_and1 (pt_not (pt_val (pe_call G__law_refused (by exact hr.mono (by decide)) (by rfl) T.g__law_refused T.F__law_refused.kp T.b__law_refused .nil pass0 (pa_cons (pv 7) (pa_cons (pv 6) pa_nil)))))))) (pss_one (ps_ret pe_bl)) pss_nil))) (pss_cons (ps_if (pt_not (pt_val (pe_call G__law_same (by exact hr.mono (by decide)) (by rfl) T.g__law_same T.F__law_same.kp T.b__law_same .nil pass0 (pa_cons (pe_tup (pa_cons (ClX.pe_cval (pe_glob (v := .ref A.C_CodeSet) (by rfl) T.g_CodeSet rfl)) (pa_cons (ClX.pe_cval (pe_glob (v := .ref A.C_CodeSet) (by rfl) T.g_CodeSet rfl)) pa_nil))) (pa_cons (pe_tup (pa_cons pe_int (pa_cons pe_int pa_nil))) pa_nil))))) (pss_one (ps_ret pe_bl)) pss_nil) (pss_cons (ps_set (i := 10) sc_law.nd rfl (Or.inl rfl) (pe_disp (pps_cons pe_int (pe_tup (pa_cons pe_str (pa_cons pe_int (pa_cons pe_str pa_nil)))) (pps_cons pe_int (pe_tup (pa_cons pe_str (pa_cons pe_int (pa_cons pe_str pa_nil)))) (pps_cons pe_int (pe_tup (pa_cons pe_str (pa_cons pe_int (pa_cons pe_str pa_nil)))) (pps_cons pe_int (pe_tup (pa_cons pe_str (pa_cons pe_int (pa_cons pe_str pa_nil)))) pps_nil)))) (by rfl) (by rfl) (fun z => by cases z) (by decide))) (pss_cons (ps_dput (by exact hu) (pv 10) pe_int (pe_tup (pa_cons pe_str (pa_cons pe_int (pa_cons pe_str pa_nil)))) rfl) (pss_cons (ps_dput (by exact hu) (pv 10) pe_int (pe_tup (pa_cons pe_str (pa_cons pe_int (pa_cons pe_str pa_nil)))) rfl) (pss_cons (ps_dput (by exact hu) (pv 10) pe_int (pe_tup (pa_cons pe_str (pa_cons pe_int (pa_cons pe_str pa_nil)))) rfl) (pss_cons (ps_if (PW.pt (pw_or (pt_not (pt_val (pe_call G__law_holds (by exact hr.mono (by decide)) (by rfl) T.g__law_holds T.F__law_holds.kp T.b__law_holds .nil pass0 (pa_cons (Vc.pe_smeth0 (pe_glob (v := .ref A.C_CodeSet) (by rfl) T.g_CodeSet rfl) T.cr_CodeSet T.sm_CodeSet_sample G_CodeSet_sample (by exact hr.mono (by decide)) T.b_CodeSet_sample pass0) (pa_cons pe_int (pa_cons (pv 10) (pa_cons (pv 4) pa_nil))))))) (pw_or1 (PW.pt (pw_and (pt_cmpR (Vc.op_eqO G_CodeSetu_equ (by exact hr.mono (by decide)) T.eq_CodeSet T.b_CodeSetu_equ) (pv 7) (Vc.pe_smeth0 (pe_glob (v := .ref A.C_CodeSet) (by rfl) T.g_CodeSet rfl) T.cr_CodeSet T.sm_CodeSet_sample G_CodeSet_sample (by exact hr.mono (by decide)) T.b_CodeSet_sample pass0) (nomark _)) (pw_and1 (pt_cmpR (Vc.op_neDD (by exact Vc.room66 hr)) (pv 3) (pv 10) (nomark _)))))))) (pss_one (ps_ret pe_bl)) pss_nil) (pss_one (ps_ret (pe_and (pe_call G__law_holds (by exact hr.mono (by decide)) (by rfl) T.g__law_holds T.F__law_holds.kp T.b__law_holds .nil pass0 (pa_cons (pv 7) (pa_cons (pv 2) (pa_cons (pv 3) (pa_cons (pv 4) pa_nil))))) (pe_one (pe_not (pe_cmpR (Vc.op_eqO G_CodeSetu_equ (by exact hr.mono (by decide)) T.eq_CodeSet T.b_CodeSetu_equ) (pv 7) (pv 2) (nomark _)))))))))))))))))))))))))))), ?_⟩
    walk_at "go"
    refine ⟨a, ns, rfl, hS, hl, fun b c H1 e1 hB1 nb nc => ?_⟩
    walk_at "go"
    refine ⟨b, c, 256, rfl, hB1, by omega, by omega, fun halt H2 s0 s1 e2 hB2 => ?_⟩
    walk_at "go"
    refine ⟨b, c, halt, rfl, hB2, s0, by omega, fun f its H3 e3 hB3 nf TA3 Va nms => ?_⟩
    have nfb : f ≠ b := fun z => by
      obtain ⟨_, _, _, _, B⟩ := hB3
      have := TA3.ob
      rw [z, B.ob] at this
      injection this with this; injection this with this; exact kvs_bag this.symm
    have v1 := Va.n1
    have v16 := Va.n16
    rw [List.length_map] at v1 v16
    walk_at "go"
    refine ⟨b, c, _, rfl, hB3, by decide, by decide, fun y0 H4 y00 y01 e4 hB4 => ?_⟩
    have TA4 := TA3.ed1 e4 nfb
    have hy : 257 ≤ 257 + y0 := by omega
    walk_at "go"
    generalize 257 + y0 = y at hy
    intro m nm
    generalize hu5 : upd _ m _ = H5
    obtain ⟨e5, hm5⟩ := Vc.alloc hu5 nm
    have TA5 := TA4.ed0 e5
    have hB5 := hB4.ed0 e5
    have nfm : f ≠ m := ne_of_none TA4.ob nm
    walk_at "go"
    refine Vc.lock_keys rfl TA5.ob [m] (fun H1 i σ H' => ∃ y6 items, σ = [some (.ref a), some (.ref b), some (.int halt), some (.ref f), some (.int y), some (.ref m), y6, none, none, none, none] ∧ Vc.Ed [m] H1 H' ∧ MadeAt A H' m items ∧ (∀ q ∈ items, q.2 ≠ f ∧ q.2 ≠ m) ∧ items.map (·.1) = (its.take i).map (·.1)) (fun _ _ _ _ h => h.choose_spec.choose_spec.2.1) (fun H1 od e1 _ => ⟨none, [], rfl, .refl, ⟨e1.at1 nfm.symm hm5, (by intro p h; cases h)⟩, (by intro p h; cases h), by simp⟩) ?_ ?_
    · rintro H1 od i k' v σ' H' e1 h1 h1' hk ⟨y6, items, rfl, e3, M, nfs, hi⟩
      obtain ⟨p, hp, rfl, rfl⟩ := kvsOf_get hk
      have hmem := List.mem_of_getElem? hp
      have hv := kvsOf_val Va.ndb hmem
      have ok := Va.ok p.1 (List.mem_map.mpr ⟨p, hmem, rfl⟩)
      have htp : H' p.2 = some (.tup [.str p.1.name, .int p.1.len, .str p.1.flow]) := e3.tup _ _ (e1.tup _ _ (TA5.tp p hmem))
      have a0 : atI [V.str p.1.name, .int p.1.len, .str p.1.flow] 0 = some (.str p.1.name) := rfl
      have a1 : atI [V.str p.1.name, .int p.1.len, .str p.1.flow] 1 = some (.int p.1.len) := rfl
      have a2 : atI [V.str p.1.name, .int p.1.len, .str p.1.flow] 2 = some (.str p.1.flow) := rfl
      have hi16 : i < its.length := (List.getElem?_eq_some_iff.mp hp).1
      change gName 6 (V.int p.1.byte) _ _ _
      walk_at "go"
      refine make_form p.1 ok fun x H6 e6 nx hF => ?_
      have M6 : MadeAt A H6 m items := ⟨e6.at0 M.ob, fun q hq => (M.fm q hq).ed0 e6⟩
      have hm6 := M6.ob
      have hil : items.length = i := by
        have := congrArg List.length hi
        rw [List.length_map, List.length_map, List.length_take] at this
        omega
      have kl : (kvsOf items).length ≤ 1000 := by rw [kvsOf_len]; omega
      walk_at "go"
      generalize hu7 : upd _ m _ = H7
      obtain ⟨e7, hm7⟩ := Vc.chg hu7 hm6
      have hn : valV (kvsOf items) (.inl p.1.byte) = none := kvO_none fun q hq => fresh_byte Va.ndb hp q.1 (hi ▸ List.mem_map.mpr ⟨q, hq, rfl⟩)
      rw [kvsOf_put (f := p.1) hn] at hm7
      refine ⟨_, items ++ [(p.1, x)], rfl, (by walk_at "ed"), ⟨hm7, fun q hq => ?_⟩, fun q hq => ?_, ?_⟩
      · rcases List.mem_append.mp hq with hq | hq
        · exact (M6.fm q hq).ed1 e7 hm6 (fun _ _ _ => by intro z; cases z)
        · rw [List.mem_singleton.mp hq]
          exact hF.ed1 e7 hm6 (fun _ _ _ => by intro z; cases z)
      · rcases List.mem_append.mp hq with hq | hq
        · exact nfs q hq
        · rw [List.mem_singleton.mp hq]
          exact ⟨(ne_of_none h1' nx).symm, (ne_of_none M.ob nx).symm⟩
      · rw [List.map_append, hi, List.take_add_one, hp, List.map_append]; rfl
    · rintro G1 σ G2 H6 d1 ⟨y6, items, rfl, d2, M, nfs, hi⟩ e6 hf6 k2
      rw [kvsOf_len, List.take_of_length_le (Nat.le_refl _)] at hi
      have M6 : MadeAt A H6 m items := ⟨k2 _ _ nfm.symm M.ob, fun q hq => by
        obtain ⟨dq, hq'⟩ := M.fm q hq
        exact ⟨dq, k2 _ _ (nfs q hq).1 hq'⟩⟩
      have nmb : m ≠ b := (hB4.fb nm).1.symm
      have nmc : m ≠ c := (hB4.fb nm).2.symm
      have hB6 := hB5.ed1 e6 nmb.symm nmc.symm
      have TA6 : TupsAt H6 f its := ⟨hf6, fun p hp => e6.tup _ _ (TA5.tp p hp)⟩
      clear hm5 d1 d2 k2 hS
      walk_at "go"
      refine make_codes M6 (hi ▸ Va) fun x H7 e7 ncx nox ntx hs hpm ok X7 => ?_
      subst hs
      have M7 : MadeAt A H7 m items := ⟨e7.at0 M6.ob, fun q hq => (M6.fm q hq).ed0 e7⟩
      have hm7 := M7.ob
      have TA7 := TA6.ed0 e7
      have hB7 := hB6.ed0 e7
      have pm : x.fs.Perm (its.map (·.1)) := by
        have := hpm.map (·.1)
        rw [hi] at this
        exact this
      have ntf : x.t ≠ f := fun z => by rw [z, TA6.ob] at ntx; cases ntx
      walk_at "go"
      generalize hu8 : upd _ m _ = H8
      obtain ⟨e8, hm8⟩ := Vc.chg hu8 hm7
      have X8 := X7.gone e8 M6.ob ncx nox ntx fun p hp z => (nfs p (hpm.mem_iff.mp hp)).2 z
      have TA8 := TA7.ed1 e8 nfm
      have hB8 := hB7.ed1 e8 nmb.symm nmc.symm
      clear M7 hm7 hm8 M6 M
      walk_at "go"
      refine ⟨x, f, its, y, rfl, X8, ok, TA8, pm, ntf, hy, fun H9 e9 => ?_⟩
      have X9 := X8.ed0 e9
      have TA9 := TA8.ed0 e9
      have hB9 := hB8.ed0 e9
      have hx9 := X9.ob
      have lk : (codesF x.stop x.o x.t).lookup ("firsts" : Str) = none := rfl
      walk_at "go"
      refine ⟨x, rfl, X9, fun q H10 e10 nq hq => ?_⟩
      walk_at "go"
      generalize hu11 : upd _ q _ = H11
      obtain ⟨e11, hq11⟩ := Vc.chg hu11 hq
      have e911 : Vc.Ed [] H9 H11 := e10.one e11 (.inr nq)
      have X11 := X9.ed0 e911
      have TA11 := TA9.ed0 e911
      have hB11 := hB9.ed0 e911
      clear hx9 hq hq11 X9 X8 X7 TA9 TA8 TA7 TA6 hB9 hB8 hB7
      walk_at "go"
      intro d nd
      generalize hu12 : upd _ d _ = H12
      obtain ⟨e12, hd12⟩ := Vc.alloc hu12 nd
      have TA12 := TA11.ed0 e12
      have hf12 := TA12.ob
      walk_at "go"
      intro L nL
      generalize hu13 : upd _ L _ = H13
      obtain ⟨e13, hL⟩ := Vc.alloc hu13 nL
      have eqk : (kvsOf its).map (fun kv => kV kv.1) = ((its.map (·.1)).map (·.byte)).map V.int := by
        unfold kvsOf
        simp only [List.map_map, Function.comp_def, kV]
      rw [eqk] at hL
      walk_at "go"
      intro R nR
      generalize hu14 : upd _ R _ = H14
      obtain ⟨e14, hR⟩ := Vc.alloc hu14 nR
      have eqr : (((its.map (·.1)).map (·.byte)).map V.int).reverse = (((its.reverse).map (·.1)).map (·.byte)).map V.int := by simp only [List.map_reverse]
      rw [eqr] at hR
      have e1114 : Vc.Ed [] H11 H14 := by walk_at "ed"
      have TA14 := TA11.ed0 e1114
      have X14 := X11.ed0 e1114
      have hB14 := hB11.ed0 e1114
      have hd14 : H14 d = some (.dK []) := e14.at0 (e13.at0 hd12)
      have nRd : R ≠ d := (ne_of_none (e13.at0 hd12) nR).symm
      have nfd : f ≠ d := ne_of_none TA11.ob nd
      have ndR : ((its.reverse.map (·.1)).map (·.byte)).Nodup := by
        rw [List.map_reverse, List.map_reverse]
        exact (List.reverse_perm _).nodup_iff.mpr Va.ndb
      clear hf12 hd12 hL
      walk_at "go"
      refine ⟨⟨_, .of hR⟩, for_list (xs := (((its.reverse).map (·.1)).map (·.byte)).map V.int) (fun i σ H' => ∃ y6, σ = [some (.ref a), some (.ref b), some (.int x.stop), some (.ref f), some (.int y), some (.ref m), y6, some (.ref x.c), some (.ref d), none, none] ∧ Vc.Ed [d] H14 H' ∧ H' d = some (.dK (kvsOf (its.reverse.take i)))) ⟨_, rfl, .refl, hd14⟩ (fun i σ H' _ ⟨_, _, e, _⟩ => .of (e.at1 nRd hR)) ?_ ?_⟩
      · rintro i v σ H15 hi' ⟨y6, rfl, e15, hd15⟩
        rw [List.getElem?_map, List.getElem?_map, List.getElem?_map] at hi'
        obtain ⟨p, hp⟩ : ∃ p, its.reverse[i]? = some p := by
          cases e : its.reverse[i]? with
          | none => rw [e] at hi'; cases hi'
          | some p => exact ⟨p, rfl⟩
        rw [hp] at hi'
        cases hi'
        have hmem : p ∈ its := List.mem_reverse.mp (List.mem_of_getElem? hp)
        have hv := kvsOf_val Va.ndb hmem
        have hf15 := e15.at1 nfd TA14.ob
        have kl : (kvsOf (its.reverse.take i)).length ≤ 1000 := by rw [kvsOf_len, List.length_take, List.length_reverse]; omega
        change gName 6 (V.int p.1.byte) _ _ _
        walk_at "go"
        generalize hu16 : upd _ d _ = H16
        obtain ⟨e16, hd16⟩ := Vc.chg hu16 hd15
        refine ⟨_, rfl, by walk_at "ed", ?_⟩
        rw [hd16, kvOOf_put (kvO_none (nd_take ndR hp)), List.take_add_one, hp]; rfl
      · rintro σ H15 ⟨y6, rfl, e15, hd15⟩
        rw [List.length_map, List.length_map, List.length_map, List.take_of_length_le (Nat.le_refl _)] at hd15
        have e1115 : Vc.Ed [] H11 H15 := e1114.one e15 (.inr nd)
        have TA15 := TA11.ed0 e1115
        have X15 := X11.ed0 e1115
        have hB15 := hB11.ed0 e1115
        have TD15 : TupsAt H15 d its.reverse := ⟨hd15, fun p hp => TA15.tp p (List.mem_reverse.mp hp)⟩
        clear hd14 hR
        walk_at "go"
        refine ⟨b, c, f, x.stop, its, rfl, hB15, TA15, Va, nms, fun z H16 e16 hB16 Z16 okz nz => ?_⟩
        have nbd : d ≠ b := (hB11.fb nd).1.symm
        have TA16 := TA15.ed1 e16 nfb
        have TD16 := TD15.ed1 e16 nbd
        have X16 := X15.bag e16 hB15
        walk_at "go"
        have Vr : Valid x.stop (its.reverse.map (·.1)) := Va.perm (by rw [List.map_reverse]; exact List.reverse_perm _)
        refine ⟨d, x.stop, its.reverse, rfl, TD16, Vr, fun u H17 e17 hus hup oku U17 => ?_⟩
        have X17 := X16.ed0 e17
        have Z17 := Z16.ed0 e17
        have hx17 := X17.ob
        have hu17 := U17.ob
        have hz17 := Z17.ob
        refine Vc.go_eqO hx17 (Vc.ty_ins hu17 T.ic_CodeSet) T.nf_CodeSet_CodeSet ⟨x, _, rfl, X17, ok, .inl ⟨u, rfl, U17, oku, fun H18 e18 => ⟨_, rfl, ?_⟩⟩⟩
        have e1 : decide (x.stop = u.stop ∧ x.fs = u.fs) = true := decide_eq_true ⟨hus.symm, fs_eq ok oku (pm.trans ((by rw [List.map_reverse] at hup; exact hup.trans (List.reverse_perm _) : u.fs.Perm _).symm))⟩
        rw [e1]
        have X18 := X17.ed0 e18
        have Z18 := Z17.ed0 e18
        have ne1 : decide (x.stop = z.stop ∧ x.fs = z.fs) = false := decide_eq_false fun q => nz ⟨q.1.symm, by rw [← q.2]; exact pm⟩
        have ne2 : decide (z.stop = x.stop ∧ z.fs = x.fs) = false := decide_eq_false fun q => nz ⟨q.1, by rw [q.2]; exact pm⟩
        walk_at "go"
        refine Vc.go_eqO X18.ob (Vc.ty_ins Z18.ob T.ic_CodeSet) T.nf_CodeSet_CodeSet ⟨x, _, rfl, X18, ok, .inl ⟨z, rfl, Z18, okz, fun H19 e19 => ⟨_, rfl, ?_⟩⟩⟩
        rw [ne1]
        have X19 := X18.ed0 e19
        have Z19 := Z18.ed0 e19
        walk_at "go"
        refine Vc.go_eqO Z19.ob (Vc.ty_ins X19.ob T.ic_CodeSet) T.nf_CodeSet_CodeSet ⟨z, _, rfl, Z19, okz, .inl ⟨x, rfl, X19, ok, fun H20 e20 => ⟨_, rfl, ?_⟩⟩⟩
        rw [ne2]
        have X20 := X19.ed0 e20
        have e1620 : Vc.Ed [] H16 H20 := ((e17.ex e18).ex e19).ex e20
        have TA20 := TA16.ed0 e1620
        have hB20 := hB16.ed0 e1620
        clear hx17 hu17 hz17 Z17 Z18 Z19 X17 X18 X19 X16 Z16 TA16
        walk_at "go"
        refine ⟨b, c, 256, rfl, hB20, by omega, by omega, fun g H21 g0 g1 e21 hB21 => ?_⟩
        walk_at "go"
        intro LL nLL
        generalize hu22 : upd _ LL _ = H22
        obtain ⟨e22, hLL⟩ := Vc.alloc hu22 nLL
        have X22 := (X20.bag e21 hB20).ed0 e22
        have TA22 := (TA20.ed1 e21 nfb).ed0 e22
        walk_at "go"
        refine ⟨⟨_, .of hLL⟩, for_list (xs := _) (fun i σ H' => ∃ y6, σ = [some (.ref a), some (.ref b), some (.int x.stop), some (.ref f), some (.int y), some (.ref m), y6, some (.ref x.c), some (.ref d), some (.ref z.c), none] ∧ Vc.Ed [] H22 H') ⟨_, rfl, .refl⟩ (fun i σ H' _ ⟨_, _, e⟩ => .of (e.at0 hLL)) ?_ ?_⟩
        · rintro i v σ H23 hi' ⟨y6, rfl, e23⟩
          obtain ⟨n, rfl⟩ : ∃ n : Int, v = .int n := by
            have := List.mem_of_getElem? hi'
            simp only [List.mem_cons, List.not_mem_nil, or_false] at this
            rcases this with rfl | rfl | rfl | rfl | rfl <;> exact ⟨_, rfl⟩
          have X23 := X22.ed0 e23
          have TA23 := TA22.ed0 e23
          have hf23 := TA23.ob
          walk_at "go"
          refine Vc.go_itebn (fun h2 => ?_) (fun h2 => ?_)
          · have hn : valV (kvsOf its) (.inl n) = none := Option.not_isSome_iff_eq_none.mp (by rw [h2]; decide)
            walk_at "go"
            refine ⟨x, n, rfl, X23, ok, fun p hp e => ?_, fun H24 e24 => ?_⟩
            · have : p.1 ∈ its.map (·.1) := pm.mem_iff.mp (List.mem_map.mpr ⟨p, hp, rfl⟩)
              obtain ⟨q, hq, eq⟩ := List.mem_map.mp this
              exact kvs_none hn q hq (by rw [eq]; exact e)
            · walk_at "go"
              exact ⟨_, rfl, by walk_at "ed"⟩
          · walk_at "go"
            exact ⟨_, rfl, by walk_at "ed"⟩
        · rintro σ H23 ⟨y6, rfl, e23⟩
          have X23 := X22.ed0 e23
          have TA23 := TA22.ed0 e23
          clear X22 TA22 X20 TA20 X15 TA15 TD15 TD16 X14 TA14 X11 TA11 hLL
          have cr := T.cr_CodeSet
          obtain ⟨um, cv1⟩ := T.cv_MOST
          obtain ⟨ul, cv2⟩ := T.cv_MOSTL
          walk_at "go"
          intro t1 nt1
          generalize hu24 : upd _ t1 _ = H24
          obtain ⟨e24, ht1⟩ := Vc.alloc hu24 nt1
          walk_at "go"
          intro t2 nt2
          generalize hu25 : upd _ t2 _ = H25
          obtain ⟨e25, ht2⟩ := Vc.alloc hu25 nt2
          walk_at "go"
          refine ⟨_, _, .tuple ([.int 16, .int 4].map vD), rfl, sh_ats (by show 2 ≤ 1000; decide), .tup (.inl (.inl (e25.at0 ht1))) (dp_ats rfl), .tup (.inl (.inl ht2)) (dp_ats rfl), fun H26 e26 => ?_⟩
          have e2326 : Vc.Ed [] H23 H26 := by walk_at "ed"
          have X26 := X23.ed0 e2326
          have TA26 := TA23.ed0 e2326
          clear X23 TA23
          walk_at "go"
          intro sd nsd
          generalize hv1 : upd _ sd _ = G1
          obtain ⟨g1, hsd1⟩ := Vc.alloc hv1 nsd
          walk_at "go"
          intro q1 nq1
          generalize hv2 : upd _ q1 _ = G2
          obtain ⟨g2, hq1⟩ := Vc.alloc hv2 nq1
          walk_at "go"
          intro q2 nq2
          generalize hv3 : upd _ q2 _ = G3
          obtain ⟨g3, hq2⟩ := Vc.alloc hv3 nq2
          walk_at "go"
          intro q3 nq3
          generalize hv4 : upd _ q3 _ = G4
          obtain ⟨g4, hq3⟩ := Vc.alloc hv4 nq3
          walk_at "go"
          intro q4 nq4
          generalize hv5 : upd _ q4 _ = G5
          obtain ⟨g5, hq4⟩ := Vc.alloc hv5 nq4
          walk_at "go"
          have hsd5 : G5 sd = some (.dK []) := g5.at0 (g4.at0 (g3.at0 (g2.at0 hsd1)))
          refine ⟨hsd5, [(.inl 1, .ref q1), (.inl 2, .ref q2), (.inl 3, .ref q3), (.inl 4, .ref q4)], rfl, by show 4 ≤ 15; decide, ?_⟩
          generalize hv6 : upd _ sd _ = G6
          obtain ⟨g6, hsd6⟩ := Vc.chg hv6 hsd5
          have T6 : TupsAt G6 sd [(⟨1, "step", 1, "next"⟩, q1), (⟨2, "load", 2, "next"⟩, q2), (⟨3, "jump", 2, "jump"⟩, q3), (⟨4, "test", 2, "test"⟩, q4)] := by
            refine ⟨hsd6, fun p hp => ?_⟩
            simp only [List.mem_cons, List.not_mem_nil, or_false] at hp
            rcases hp with rfl | rfl | rfl | rfl
            · exact g6.tup _ _ (g5.tup _ _ (g4.tup _ _ (g3.tup _ _ hq1)))
            · exact g6.tup _ _ (g5.tup _ _ (g4.tup _ _ hq2))
            · exact g6.tup _ _ (g5.tup _ _ hq3)
            · exact g6.tup _ _ hq4
          walk_at "go"
          intro q5 nq5
          generalize hv7 : upd _ q5 _ = G7
          obtain ⟨g7, hq5⟩ := Vc.alloc hv7 nq5
          have hsd7 := g7.at0 T6.ob
          have kl4 : (kvsOf [((⟨1, "step", 1, "next"⟩ : FD), q1), (⟨2, "load", 2, "next"⟩, q2), (⟨3, "jump", 2, "jump"⟩, q3), (⟨4, "test", 2, "test"⟩, q4)]).length ≤ 1000 := by rw [kvsOf_len]; show 4 ≤ 1000; decide
          walk_at "go"
          generalize hv8 : upd _ sd _ = G8
          obtain ⟨g8, T8⟩ := T6.put (f := ⟨5, "wide", 3, "next"⟩) g7 hq5 hv8
          have T8 : TupsAt G8 sd [(⟨1, "step", 1, "next"⟩, q1), (⟨2, "load", 2, "next"⟩, q2), (⟨3, "jump", 2, "jump"⟩, q3), (⟨4, "test", 2, "test"⟩, q4), (⟨5, "wide", 3, "next"⟩, q5)] := T8
          walk_at "go"
          intro q6 nq6
          generalize hv9 : upd _ q6 _ = G9
          obtain ⟨g9, hq6⟩ := Vc.alloc hv9 nq6
          have hsd9 := g9.at0 T8.ob
          have kl5 : (kvsOf [((⟨1, "step", 1, "next"⟩ : FD), q1), (⟨2, "load", 2, "next"⟩, q2), (⟨3, "jump", 2, "jump"⟩, q3), (⟨4, "test", 2, "test"⟩, q4), (⟨5, "wide", 3, "next"⟩, q5)]).length ≤ 1000 := by rw [kvsOf_len]; show 5 ≤ 1000; decide
          walk_at "go"
          generalize hv10 : upd _ sd _ = G10
          obtain ⟨g10, T10⟩ := T8.put (f := ⟨6, "store", 2, "next"⟩) g9 hq6 hv10
          have T10 : TupsAt G10 sd [(⟨1, "step", 1, "next"⟩, q1), (⟨2, "load", 2, "next"⟩, q2), (⟨3, "jump", 2, "jump"⟩, q3), (⟨4, "test", 2, "test"⟩, q4), (⟨5, "wide", 3, "next"⟩, q5), (⟨6, "store", 2, "next"⟩, q6)] := T10
          walk_at "go"
          intro q7 nq7
          generalize hv11 : upd _ q7 _ = G11
          obtain ⟨g11, hq7⟩ := Vc.alloc hv11 nq7
          have hsd11 := g11.at0 T10.ob
          have kl6 : (kvsOf [((⟨1, "step", 1, "next"⟩ : FD), q1), (⟨2, "load", 2, "next"⟩, q2), (⟨3, "jump", 2, "jump"⟩, q3), (⟨4, "test", 2, "test"⟩, q4), (⟨5, "wide", 3, "next"⟩, q5), (⟨6, "store", 2, "next"⟩, q6)]).length ≤ 1000 := by rw [kvsOf_len]; show 6 ≤ 1000; decide
          walk_at "go"
          generalize hv12 : upd _ sd _ = G12
          obtain ⟨g12, TS⟩ := T10.put (f := ⟨9, "leave", 1, "end"⟩) g11 hq7 hv12
          have TS : TupsAt G12 sd [(⟨1, "step", 1, "next"⟩, q1), (⟨2, "load", 2, "next"⟩, q2), (⟨3, "jump", 2, "jump"⟩, q3), (⟨4, "test", 2, "test"⟩, q4), (⟨5, "wide", 3, "next"⟩, q5), (⟨6, "store", 2, "next"⟩, q6), (⟨9, "leave", 1, "end"⟩, q7)] := TS
          generalize hI : [((⟨1, "step", 1, "next"⟩ : FD), q1), (⟨2, "load", 2, "next"⟩, q2), (⟨3, "jump", 2, "jump"⟩, q3), (⟨4, "test", 2, "test"⟩, q4), (⟨5, "wide", 3, "next"⟩, q5), (⟨6, "store", 2, "next"⟩, q6), (⟨9, "leave", 1, "end"⟩, q7)] = itS at TS
          have hIS : itS.map (·.1) = SAMPLE := by rw [← hI]; rfl
          have e2612 : Vc.Ed [] H26 G12 := by
            have z5 : Vc.Ed [] H26 G5 := (((g1.ex g2).ex g3).ex g4).ex g5
            have z7 := (z5.one g6 (.inr nsd)).ex g7
            have z9 := (z7.one g8 (.inr nsd)).ex g9
            have z11 := (z9.one g10 (.inr nsd)).ex g11
            exact z11.one g12 (.inr nsd)
          have X12 := X26.ed0 e2612
          have TA12' := TA26.ed0 e2612
          clear hsd1 hq1 hq2 hq3 hq4 hq5 hq6 hq7 hsd5 hsd6 hsd7 hsd9 hsd11 T6 T8 T10 X26 TA26
          walk_at "go"
          refine ⟨rfl, fun x2 G13 g13 nt2' hs2 hp2 ok2 X2 => ?_⟩
          walk_at "go"
          have TS13 := TS.ed0 g13
          refine ⟨x2, sd, itS, y, by rw [hs2], X2, ok2, TS13, by rw [hIS]; exact hp2, (fun z => by rw [z, TS.ob] at nt2'; cases nt2'), hy, fun G14 g14 => ?_⟩
          have X14' := (X12.ed0 g13).ed0 g14
          have TA14' := (TA12'.ed0 g13).ed0 g14
          have TS14 := TS13.ed0 g14
          have rest : ∀ G (R : VK), Vc.Ed [] G14 G → (∀ G', x.At A G' → R (.bl true) G') → spHolds A [.ref x.c, .int x.stop, .ref f, .int y] G R E0 := fun G R g kk =>
            ⟨x, f, its, y, rfl, X14'.ed0 g, ok, TA14'.ed0 g, pm, ntf, hy, fun G' g' => kk G' ((X14'.ed0 g).ed0 g')⟩
          walk_at "go"
          refine ⟨rfl, fun x3 G15 g15 nt3 hs3 hp3 ok3 X3 => ?_⟩
          have X15' := X14'.ed0 g15
          refine Vc.go_eqO X15'.ob (Vc.ty_ins X3.ob T.ic_CodeSet) T.nf_CodeSet_CodeSet ⟨x, _, rfl, X15', ok, .inl ⟨x3, rfl, X3, ok3, fun G16 g16 => ⟨_, rfl, ?_⟩⟩⟩
          walk_at "go"
          refine Vc.go_ite (fun h => ?_) (fun h => ?_)
          · have TA16' := (TA14'.ed0 g15).ed0 g16
            have TS16 := (TS14.ed0 g15).ed0 g16
            have pmS : (its.map (·.1)).Perm (itS.map (·.1)) := by
              rw [hIS]
              exact pm.symm.trans (by rw [h.2]; exact hp3)
            walk_at "go"
            refine ⟨f, sd, _, _, rfl, rfl, TA16'.ob, TS16.ob, ?_, fun kv hkv => ?_, ?_⟩
            · rw [kvsOf_len, kvsOf_len]
              have := pmS.length_eq
              rwa [List.length_map, List.length_map] at this
            · obtain ⟨q, hq, rfl⟩ := List.mem_map.mp hkv
              have : q.1 ∈ itS.map (·.1) := pmS.mem_iff.mp (List.mem_map.mpr ⟨q, hq, rfl⟩)
              obtain ⟨q', hq', eq'⟩ := List.mem_map.mp this
              have ndS : ((itS.map (·.1)).map (·.byte)).Nodup := by rw [hIS]; exact sample_valid.ndb
              have hv' := kvsOf_val ndS hq'
              rw [eq'] at hv'
              have t1 := TA16'.tp q hq
              have t2 := TS16.tp q' hq'
              rw [eq'] at t2
              exact ⟨_, .tuple ([.str q.1.name, .int q.1.len, .str q.1.flow].map vD), hv', .tup (.inl (.inl t1)) (dp_ats rfl), .tup (.inl (.inl t2)) (dp_ats rfl), by have := shp_form q.1 (by rw [← hIS]; exact this); exact this⟩
            · walk_at "go"
              refine rest G16 _ (g15.ex g16) fun G' Xg => ?_
              walk_at "go"
              refine Vc.go_eqO Xg.ob (.base (.int _)) T.nf_int_CodeSet ⟨x, _, rfl, Xg, ok, .inr ⟨_, rfl, _, rfl, ?_⟩⟩
              walk_at "go"
              exact k G'
          · walk_at "go"
            refine rest G16 _ (g15.ex g16) fun G' Xg => ?_
            walk_at "go"
            refine Vc.go_eqO Xg.ob (.base (.int _)) T.nf_int_CodeSet ⟨x, _, rfl, Xg, ok, .inr ⟨_, rfl, _, rfl, ?_⟩⟩
            walk_at "go"
            exact k G'
end

end My
namespace My
open PySem PySem.Spec PyProof.Rows L2
theorem all_mk {w : World} {K : PySem.W.Frag} {h : Heap} {mg : Str → Option Value} {fa : Addr} (X : K.In h) (G : h.Ns mainGlobals mg) (hfa : mg "law" = some (.ref fa))
    {C_Form : Addr}
    {C_CodeSet : Addr}
    {f_is_byte : Addr} {oc1 kV1 dc1 pm1 cd1 ct1 : Value} {od1 an1 : Option Addr} {sl1 : Array (Option Value)}
    {f_is_name : Addr} {oc2 kV2 dc2 pm2 cd2 ct2 : Value} {od2 an2 : Option Addr} {sl2 : Array (Option Value)}
    {f_Formu_initu : Addr} {oc3 kV3 dc3 pm3 cd3 ct3 : Value} {od3 an3 : Option Addr} {sl3 : Array (Option Value)}
    {f_check_forms : Addr} {oc4 kV4 dc4 pm4 cd4 ct4 : Value} {od4 an4 : Option Addr} {sl4 : Array (Option Value)}
    {f_CodeSetu_initu : Addr} {oc5 kV5 dc5 pm5 cd5 ct5 : Value} {od5 an5 : Option Addr} {sl5 : Array (Option Value)}
    {f_Formu_equ : Addr} {oc6 kV6 dc6 pm6 cd6 ct6 : Value} {od6 an6 : Option Addr} {sl6 : Array (Option Value)}
    {f_Formu_stru : Addr} {oc7 kV7 dc7 pm7 cd7 ct7 : Value} {od7 an7 : Option Addr} {sl7 : Array (Option Value)}
    {f_CodeSetu_containsu : Addr} {oc8 kV8 dc8 pm8 cd8 ct8 : Value} {od8 an8 : Option Addr} {sl8 : Array (Option Value)}
    {f_CodeSetu_getitemu : Addr} {oc9 kV9 dc9 pm9 cd9 ct9 : Value} {od9 an9 : Option Addr} {sl9 : Array (Option Value)}
    {f_CodeSetu_lenu : Addr} {oc10 kV10 dc10 pm10 cd10 ct10 : Value} {od10 an10 : Option Addr} {sl10 : Array (Option Value)}
    {f_CodeSet_firsts : Addr} {oc11 kV11 dc11 pm11 cd11 ct11 : Value} {od11 an11 : Option Addr} {sl11 : Array (Option Value)}
    {f_CodeSetu_equ : Addr} {oc12 kV12 dc12 pm12 cd12 ct12 : Value} {od12 an12 : Option Addr} {sl12 : Array (Option Value)}
    {f_CodeSet_sample : Addr} {oc13 kV13 dc13 pm13 cd13 ct13 : Value} {od13 an13 : Option Addr} {sl13 : Array (Option Value)}
    {sm13 : Addr} {rst13 : List Value}
    {f__law_bag : Addr} {oc14 kV14 dc14 pm14 cd14 ct14 : Value} {od14 an14 : Option Addr} {sl14 : Array (Option Value)}
    {f__law_draw : Addr} {oc15 kV15 dc15 pm15 cd15 ct15 : Value} {od15 an15 : Option Addr} {sl15 : Array (Option Value)}
    {f__law_same : Addr} {oc16 kV16 dc16 pm16 cd16 ct16 : Value} {od16 an16 : Option Addr} {sl16 : Array (Option Value)}
    {f__law_forms : Addr} {oc17 kV17 dc17 pm17 cd17 ct17 : Value} {od17 an17 : Option Addr} {sl17 : Array (Option Value)}
    {f__law_codes : Addr} {oc18 kV18 dc18 pm18 cd18 ct18 : Value} {od18 an18 : Option Addr} {sl18 : Array (Option Value)}
    {f__law_form_same : Addr} {oc19 kV19 dc19 pm19 cd19 ct19 : Value} {od19 an19 : Option Addr} {sl19 : Array (Option Value)}
    {f__law_holds : Addr} {oc20 kV20 dc20 pm20 cd20 ct20 : Value} {od20 an20 : Option Addr} {sl20 : Array (Option Value)}
    {f__law_refused : Addr} {oc21 kV21 dc21 pm21 cd21 ct21 : Value} {od21 an21 : Option Addr} {sl21 : Array (Option Value)}
    {f__law_other : Addr} {oc22 kV22 dc22 pm22 cd22 ct22 : Value} {od22 an22 : Option Addr} {sl22 : Array (Option Value)}
    {f_law : Addr} {oc23 kV23 dc23 pm23 cd23 ct23 : Value} {od23 an23 : Option Addr} {sl23 : Array (Option Value)}
    {t_LETTERS : Tok}
    {C_CodeError : Addr}
    {C_BadInput : Addr}
    {C_NotRight : Addr}
    {C_BadByte f_BadByteu_initu cda24 cc24 : Addr} {oc24 kV24 dc24 pm24 ct24 : Value} {od24 an24 : Option Addr} {sl24 : Array (Option Value)}
    {nm24 q24 : Str} {N24 : Addr} {bs24 bm24 sub24 : List Value} {sn24 : List Str} {ab24 : Bool} {col24 : Option Bool} {dd24 : Option Addr} {ka24 kb24 kc24 kd24 ke24 : Option Value}
    {ccl24 ocl24 : Value} {ccd24 ocd24 : Option Addr} {vs24 : Array Value} {ccs24 ocs24 : Array (Option Value)} {file24 : Str} {tf24 : Tok}
    {a_FLOWS : Addr} {odF : Option Addr} {tF1 tF2 tF3 tF4 : Tok} {nF : Nat} {slF : Array (Option Value)}
    {tM : Tok}
    {tL : Tok}
    (aC_Form : PySem.W.nsIn K mainGlobals "Form" = some (some (.ref C_Form)))
    (aC_CodeSet : PySem.W.nsIn K mainGlobals "CodeSet" = some (some (.ref C_CodeSet)))
    (a_is_byte : PySem.W.nsIn K mainGlobals "is_byte" = some (some (.ref f_is_byte)))
    (l_is_byte : K.lookup f_is_byte = some ⟨oc1, od1, .func (PySem.W.fnOf "is_byte" "is_byte" (defArgs s_is_byte) (defBody s_is_byte) (defScope s_is_byte) .none kV1 dc1 pm1 an1 cd1 ct1), sl1⟩)
    (c_is_byte : PySem.W.codeIn K cd1 "is_byte" = true)
    (k_is_byte : PySem.W.keepIn K (.ref f_is_byte) = true)
    (a_is_name : PySem.W.nsIn K mainGlobals "is_name" = some (some (.ref f_is_name)))
    (l_is_name : K.lookup f_is_name = some ⟨oc2, od2, .func (PySem.W.fnOf "is_name" "is_name" (defArgs s_is_name) (defBody s_is_name) (defScope s_is_name) .none kV2 dc2 pm2 an2 cd2 ct2), sl2⟩)
    (c_is_name : PySem.W.codeIn K cd2 "is_name" = true)
    (k_is_name : PySem.W.keepIn K (.ref f_is_name) = true)
    (a_Formu_initu : PySem.W.findIn K (.ref C_Form) "__init__" = some (some (.ref f_Formu_initu)))
    (i_Formu_initu : PySem.W.isFn K (.ref f_Formu_initu) = true)
    (l_Formu_initu : K.lookup f_Formu_initu = some ⟨oc3, od3, .func (PySem.W.fnOf "__init__" "Form.__init__" (defArgs s_Formu_initu) (defBody s_Formu_initu) (defScope s_Formu_initu) .none kV3 dc3 pm3 an3 cd3 ct3), sl3⟩)
    (c_Formu_initu : PySem.W.codeIn K cd3 "Form.__init__" = true)
    (k_Formu_initu : PySem.W.keepIn K (.ref f_Formu_initu) = true)
    (a_check_forms : PySem.W.nsIn K mainGlobals "check_forms" = some (some (.ref f_check_forms)))
    (l_check_forms : K.lookup f_check_forms = some ⟨oc4, od4, .func (PySem.W.fnOf "check_forms" "check_forms" (defArgs s_check_forms) (defBody s_check_forms) (defScope s_check_forms) .none kV4 dc4 pm4 an4 cd4 ct4), sl4⟩)
    (c_check_forms : PySem.W.codeIn K cd4 "check_forms" = true)
    (k_check_forms : PySem.W.keepIn K (.ref f_check_forms) = true)
    (a_CodeSetu_initu : PySem.W.findIn K (.ref C_CodeSet) "__init__" = some (some (.ref f_CodeSetu_initu)))
    (i_CodeSetu_initu : PySem.W.isFn K (.ref f_CodeSetu_initu) = true)
    (l_CodeSetu_initu : K.lookup f_CodeSetu_initu = some ⟨oc5, od5, .func (PySem.W.fnOf "__init__" "CodeSet.__init__" (defArgs s_CodeSetu_initu) (defBody s_CodeSetu_initu) (defScope s_CodeSetu_initu) .none kV5 dc5 pm5 an5 cd5 ct5), sl5⟩)
    (c_CodeSetu_initu : PySem.W.codeIn K cd5 "CodeSet.__init__" = true)
    (k_CodeSetu_initu : PySem.W.keepIn K (.ref f_CodeSetu_initu) = true)
    (a_Formu_equ : PySem.W.findIn K (.ref C_Form) "__eq__" = some (some (.ref f_Formu_equ)))
    (i_Formu_equ : PySem.W.isFn K (.ref f_Formu_equ) = true)
    (l_Formu_equ : K.lookup f_Formu_equ = some ⟨oc6, od6, .func (PySem.W.fnOf "__eq__" "Form.__eq__" (defArgs s_Formu_equ) (defBody s_Formu_equ) (defScope s_Formu_equ) .none kV6 dc6 pm6 an6 cd6 ct6), sl6⟩)
    (c_Formu_equ : PySem.W.codeIn K cd6 "Form.__eq__" = true)
    (k_Formu_equ : PySem.W.keepIn K (.ref f_Formu_equ) = true)
    (a_Formu_stru : PySem.W.findIn K (.ref C_Form) "__str__" = some (some (.ref f_Formu_stru)))
    (i_Formu_stru : PySem.W.isFn K (.ref f_Formu_stru) = true)
    (l_Formu_stru : K.lookup f_Formu_stru = some ⟨oc7, od7, .func (PySem.W.fnOf "__str__" "Form.__str__" (defArgs s_Formu_stru) (defBody s_Formu_stru) (defScope s_Formu_stru) .none kV7 dc7 pm7 an7 cd7 ct7), sl7⟩)
    (c_Formu_stru : PySem.W.codeIn K cd7 "Form.__str__" = true)
    (k_Formu_stru : PySem.W.keepIn K (.ref f_Formu_stru) = true)
    (a_CodeSetu_containsu : PySem.W.findIn K (.ref C_CodeSet) "__contains__" = some (some (.ref f_CodeSetu_containsu)))
    (i_CodeSetu_containsu : PySem.W.isFn K (.ref f_CodeSetu_containsu) = true)
    (l_CodeSetu_containsu : K.lookup f_CodeSetu_containsu = some ⟨oc8, od8, .func (PySem.W.fnOf "__contains__" "CodeSet.__contains__" (defArgs s_CodeSetu_containsu) (defBody s_CodeSetu_containsu) (defScope s_CodeSetu_containsu) .none kV8 dc8 pm8 an8 cd8 ct8), sl8⟩)
    (c_CodeSetu_containsu : PySem.W.codeIn K cd8 "CodeSet.__contains__" = true)
    (k_CodeSetu_containsu : PySem.W.keepIn K (.ref f_CodeSetu_containsu) = true)
    (a_CodeSetu_getitemu : PySem.W.findIn K (.ref C_CodeSet) "__getitem__" = some (some (.ref f_CodeSetu_getitemu)))
    (i_CodeSetu_getitemu : PySem.W.isFn K (.ref f_CodeSetu_getitemu) = true)
    (l_CodeSetu_getitemu : K.lookup f_CodeSetu_getitemu = some ⟨oc9, od9, .func (PySem.W.fnOf "__getitem__" "CodeSet.__getitem__" (defArgs s_CodeSetu_getitemu) (defBody s_CodeSetu_getitemu) (defScope s_CodeSetu_getitemu) .none kV9 dc9 pm9 an9 cd9 ct9), sl9⟩)
    (c_CodeSetu_getitemu : PySem.W.codeIn K cd9 "CodeSet.__getitem__" = true)
    (k_CodeSetu_getitemu : PySem.W.keepIn K (.ref f_CodeSetu_getitemu) = true)
    (a_CodeSetu_lenu : PySem.W.findIn K (.ref C_CodeSet) "__len__" = some (some (.ref f_CodeSetu_lenu)))
    (i_CodeSetu_lenu : PySem.W.isFn K (.ref f_CodeSetu_lenu) = true)
    (l_CodeSetu_lenu : K.lookup f_CodeSetu_lenu = some ⟨oc10, od10, .func (PySem.W.fnOf "__len__" "CodeSet.__len__" (defArgs s_CodeSetu_lenu) (defBody s_CodeSetu_lenu) (defScope s_CodeSetu_lenu) .none kV10 dc10 pm10 an10 cd10 ct10), sl10⟩)
    (c_CodeSetu_lenu : PySem.W.codeIn K cd10 "CodeSet.__len__" = true)
    (k_CodeSetu_lenu : PySem.W.keepIn K (.ref f_CodeSetu_lenu) = true)
    (a_CodeSet_firsts : PySem.W.findIn K (.ref C_CodeSet) "firsts" = some (some (.ref f_CodeSet_firsts)))
    (i_CodeSet_firsts : PySem.W.isFn K (.ref f_CodeSet_firsts) = true)
    (l_CodeSet_firsts : K.lookup f_CodeSet_firsts = some ⟨oc11, od11, .func (PySem.W.fnOf "firsts" "CodeSet.firsts" (defArgs s_CodeSet_firsts) (defBody s_CodeSet_firsts) (defScope s_CodeSet_firsts) .none kV11 dc11 pm11 an11 cd11 ct11), sl11⟩)
    (c_CodeSet_firsts : PySem.W.codeIn K cd11 "CodeSet.firsts" = true)
    (k_CodeSet_firsts : PySem.W.keepIn K (.ref f_CodeSet_firsts) = true)
    (a_CodeSetu_equ : PySem.W.findIn K (.ref C_CodeSet) "__eq__" = some (some (.ref f_CodeSetu_equ)))
    (i_CodeSetu_equ : PySem.W.isFn K (.ref f_CodeSetu_equ) = true)
    (l_CodeSetu_equ : K.lookup f_CodeSetu_equ = some ⟨oc12, od12, .func (PySem.W.fnOf "__eq__" "CodeSet.__eq__" (defArgs s_CodeSetu_equ) (defBody s_CodeSetu_equ) (defScope s_CodeSetu_equ) .none kV12 dc12 pm12 an12 cd12 ct12), sl12⟩)
    (c_CodeSetu_equ : PySem.W.codeIn K cd12 "CodeSet.__eq__" = true)
    (k_CodeSetu_equ : PySem.W.keepIn K (.ref f_CodeSetu_equ) = true)
    (sma_CodeSet_sample : PySem.W.findCls K (.ref C_CodeSet) (.type "type") "sample" = some (.get (.builtin "staticmethod.__get__") (.ref sm13) .none (.ref C_CodeSet)))
    (smr_CodeSet_sample : PySem.W.recIn K sm13 "staticmethod" = some (.ref f_CodeSet_sample :: rst13))
    (l_CodeSet_sample : K.lookup f_CodeSet_sample = some ⟨oc13, od13, .func (PySem.W.fnOf "sample" "CodeSet.sample" (defArgs s_CodeSet_sample) (defBody s_CodeSet_sample) (defScope s_CodeSet_sample) .none kV13 dc13 pm13 an13 cd13 ct13), sl13⟩)
    (c_CodeSet_sample : PySem.W.codeIn K cd13 "CodeSet.sample" = true)
    (k_CodeSet_sample : PySem.W.keepIn K (.ref f_CodeSet_sample) = true)
    (a__law_bag : PySem.W.nsIn K mainGlobals "_law_bag" = some (some (.ref f__law_bag)))
    (l__law_bag : K.lookup f__law_bag = some ⟨oc14, od14, .func (PySem.W.fnOf "_law_bag" "_law_bag" (defArgs s__law_bag) (defBody s__law_bag) (defScope s__law_bag) .none kV14 dc14 pm14 an14 cd14 ct14), sl14⟩)
    (c__law_bag : PySem.W.codeIn K cd14 "_law_bag" = true)
    (k__law_bag : PySem.W.keepIn K (.ref f__law_bag) = true)
    (a__law_draw : PySem.W.nsIn K mainGlobals "_law_draw" = some (some (.ref f__law_draw)))
    (l__law_draw : K.lookup f__law_draw = some ⟨oc15, od15, .func (PySem.W.fnOf "_law_draw" "_law_draw" (defArgs s__law_draw) (defBody s__law_draw) (defScope s__law_draw) .none kV15 dc15 pm15 an15 cd15 ct15), sl15⟩)
    (c__law_draw : PySem.W.codeIn K cd15 "_law_draw" = true)
    (k__law_draw : PySem.W.keepIn K (.ref f__law_draw) = true)
    (a__law_same : PySem.W.nsIn K mainGlobals "_law_same" = some (some (.ref f__law_same)))
    (l__law_same : K.lookup f__law_same = some ⟨oc16, od16, .func (PySem.W.fnOf "_law_same" "_law_same" (defArgs s__law_same) (defBody s__law_same) (defScope s__law_same) .none kV16 dc16 pm16 an16 cd16 ct16), sl16⟩)
    (c__law_same : PySem.W.codeIn K cd16 "_law_same" = true)
    (k__law_same : PySem.W.keepIn K (.ref f__law_same) = true)
    (a__law_forms : PySem.W.nsIn K mainGlobals "_law_forms" = some (some (.ref f__law_forms)))
    (l__law_forms : K.lookup f__law_forms = some ⟨oc17, od17, .func (PySem.W.fnOf "_law_forms" "_law_forms" (defArgs s__law_forms) (defBody s__law_forms) (defScope s__law_forms) .none kV17 dc17 pm17 an17 cd17 ct17), sl17⟩)
    (c__law_forms : PySem.W.codeIn K cd17 "_law_forms" = true)
    (k__law_forms : PySem.W.keepIn K (.ref f__law_forms) = true)
    (a__law_codes : PySem.W.nsIn K mainGlobals "_law_codes" = some (some (.ref f__law_codes)))
    (l__law_codes : K.lookup f__law_codes = some ⟨oc18, od18, .func (PySem.W.fnOf "_law_codes" "_law_codes" (defArgs s__law_codes) (defBody s__law_codes) (defScope s__law_codes) .none kV18 dc18 pm18 an18 cd18 ct18), sl18⟩)
    (c__law_codes : PySem.W.codeIn K cd18 "_law_codes" = true)
    (k__law_codes : PySem.W.keepIn K (.ref f__law_codes) = true)
    (a__law_form_same : PySem.W.nsIn K mainGlobals "_law_form_same" = some (some (.ref f__law_form_same)))
    (l__law_form_same : K.lookup f__law_form_same = some ⟨oc19, od19, .func (PySem.W.fnOf "_law_form_same" "_law_form_same" (defArgs s__law_form_same) (defBody s__law_form_same) (defScope s__law_form_same) .none kV19 dc19 pm19 an19 cd19 ct19), sl19⟩)
    (c__law_form_same : PySem.W.codeIn K cd19 "_law_form_same" = true)
    (k__law_form_same : PySem.W.keepIn K (.ref f__law_form_same) = true)
    (a__law_holds : PySem.W.nsIn K mainGlobals "_law_holds" = some (some (.ref f__law_holds)))
    (l__law_holds : K.lookup f__law_holds = some ⟨oc20, od20, .func (PySem.W.fnOf "_law_holds" "_law_holds" (defArgs s__law_holds) (defBody s__law_holds) (defScope s__law_holds) .none kV20 dc20 pm20 an20 cd20 ct20), sl20⟩)
    (c__law_holds : PySem.W.codeIn K cd20 "_law_holds" = true)
    (k__law_holds : PySem.W.keepIn K (.ref f__law_holds) = true)
    (a__law_refused : PySem.W.nsIn K mainGlobals "_law_refused" = some (some (.ref f__law_refused)))
    (l__law_refused : K.lookup f__law_refused = some ⟨oc21, od21, .func (PySem.W.fnOf "_law_refused" "_law_refused" (defArgs s__law_refused) (defBody s__law_refused) (defScope s__law_refused) .none kV21 dc21 pm21 an21 cd21 ct21), sl21⟩)
    (c__law_refused : PySem.W.codeIn K cd21 "_law_refused" = true)
    (k__law_refused : PySem.W.keepIn K (.ref f__law_refused) = true)
    (a__law_other : PySem.W.nsIn K mainGlobals "_law_other" = some (some (.ref f__law_other)))
    (l__law_other : K.lookup f__law_other = some ⟨oc22, od22, .func (PySem.W.fnOf "_law_other" "_law_other" (defArgs s__law_other) (defBody s__law_other) (defScope s__law_other) .none kV22 dc22 pm22 an22 cd22 ct22), sl22⟩)
    (c__law_other : PySem.W.codeIn K cd22 "_law_other" = true)
    (k__law_other : PySem.W.keepIn K (.ref f__law_other) = true)
    (a_law : PySem.W.nsIn K mainGlobals "law" = some (some (.ref f_law)))
    (l_law : K.lookup f_law = some ⟨oc23, od23, .func (PySem.W.fnOf "law" "law" (defArgs s_law) (defBody s_law) (defScope s_law) .none kV23 dc23 pm23 an23 cd23 ct23), sl23⟩)
    (c_law : PySem.W.codeIn K cd23 "law" = true)
    (k_law : PySem.W.keepIn K (.ref f_law) = true)
    (pg_Form : PySem.W.plainGet K C_Form Str.empty = true)
    (hd_Form : PySem.W.hasDictIn K C_Form = true)
    (po_Form : PySem.W.plainOver K C_Form = true)
    (sa_Form : PySem.W.findIn K (.ref C_Form) "__setattr__" = some (some (.builtin "object.__setattr__")))
    (mk_Form : PySem.W.makesIn K C_Form = true)
    (kc_Form : PySem.W.keepIn K (.ref C_Form) = true)
    (no_Form_name : PySem.W.findIn K (.ref C_Form) "name" = some none)
    (no_Form_length : PySem.W.findIn K (.ref C_Form) "length" = some none)
    (no_Form_flow : PySem.W.findIn K (.ref C_Form) "flow" = some none)
    (pg_CodeSet : PySem.W.plainGet K C_CodeSet Str.empty = true)
    (hd_CodeSet : PySem.W.hasDictIn K C_CodeSet = true)
    (po_CodeSet : PySem.W.plainOver K C_CodeSet = true)
    (sa_CodeSet : PySem.W.findIn K (.ref C_CodeSet) "__setattr__" = some (some (.builtin "object.__setattr__")))
    (mk_CodeSet : PySem.W.makesIn K C_CodeSet = true)
    (kc_CodeSet : PySem.W.keepIn K (.ref C_CodeSet) = true)
    (no_CodeSet_stop : PySem.W.findIn K (.ref C_CodeSet) "stop" = some none)
    (no_CodeSet_order : PySem.W.findIn K (.ref C_CodeSet) "order" = some none)
    (no_CodeSet_table : PySem.W.findIn K (.ref C_CodeSet) "table" = some none)
    (z_len : PySem.W.nsIn K mainGlobals "len" = some none)
    (z_abs : PySem.W.nsIn K mainGlobals "abs" = some none)
    (z_int : PySem.W.nsIn K mainGlobals "int" = some none)
    (z_list : PySem.W.nsIn K mainGlobals "list" = some none)
    (z_range : PySem.W.nsIn K mainGlobals "range" = some none)
    (z_isinstance : PySem.W.nsIn K mainGlobals "isinstance" = some none)
    (z_bool : PySem.W.nsIn K mainGlobals "bool" = some none)
    (z_str : PySem.W.nsIn K mainGlobals "str" = some none)
    (z_tuple : PySem.W.nsIn K mainGlobals "tuple" = some none)
    (z_all : PySem.W.nsIn K mainGlobals "all" = some none)
    (z_set : PySem.W.nsIn K mainGlobals "set" = some none)
    (z_sorted : PySem.W.nsIn K mainGlobals "sorted" = some none)
    (z_ValueError : PySem.W.nsIn K mainGlobals "ValueError" = some none)
    (v_LETTERS : PySem.W.nsIn K mainGlobals "LETTERS" = some (some (.str "abcdefghijklmnopqrstuvwxyz" t_LETTERS)))
    (aC_CodeError : PySem.W.nsIn K mainGlobals "CodeError" = some (some (.ref C_CodeError)))
    (aC_BadInput : PySem.W.nsIn K mainGlobals "BadInput" = some (some (.ref C_BadInput)))
    (aC_NotRight : PySem.W.nsIn K mainGlobals "NotRight" = some (some (.ref C_NotRight)))
    (zsuper : PySem.W.nsIn K mainGlobals "super" = some none)
    (znoop : PySem.W.nsIn K cStatics "thirdparty.any" = some none)
    (zgcn : PySem.W.specialIn K (.builtin "object.__class__") "__get__" = some (some (.builtin "getset_descriptor.__get__")))
    (zgct : PySem.W.takesIn K (.builtin "object.__class__") = some true)
    (ztop : ((PySem.Challenge.pw_codestitch_k03_code_sets).main.scope.names.lookup ("super" : Str)).isSome = false)
    (aC_BadByte : PySem.W.nsIn K mainGlobals "BadByte" = some (some (.ref C_BadByte)))
    (lkC_BadByte : K.lookup C_BadByte = some (excClassObj nm24 q24 C_BadByte N24 bs24 bm24 true sn24 sub24 ab24 col24 dd24 ka24 kb24 kc24 kd24 ke24 "ValueError.__new__"))
    (bmC_BadByte : PySem.HandSPX.refsVE bm24 = true)
    (saC_BadByte : PySem.W.findIn K (.ref C_BadByte) "__setattr__" = some (some (.builtin "object.__setattr__")))
    (exC_BadByte : PySem.W.subIn K (.ref C_BadByte) (.type "BaseException") = some true)
    (tyC_BadByte : PySem.W.typeIn K (.ref C_BadByte) = some (.type "type"))
    (kpC_BadByte : PySem.W.keepIn K (.ref C_BadByte) = true)
    (inC_BadByte : PySem.W.findIn K (.ref C_BadByte) "__init__" = some (some (.ref f_BadByteu_initu)))
    (tiC_BadByte : PySem.W.typeIn K (.ref f_BadByteu_initu) = some (.type "function"))
    (noC_BadByte_at : PySem.W.findIn K (.ref C_BadByte) "at" = some none)
    (gaC_BadByte : PySem.W.findIn K (.ref C_BadByte) "__getattribute__" = some (some (.builtin "BaseException.__getattribute__")))
    (ggC_BadByte : PySem.W.findIn K (.ref C_BadByte) "__getattr__" = some none)
    (hdC_BadByte : PySem.W.hasDictIn K C_BadByte = true)
    (gcC_BadByte : PySem.W.findIn K (.ref C_BadByte) "__class__" = some (some (.builtin "object.__class__")))
    (moC_BadByte : PySem.W.mroIn K C_BadByte (.type "object") = some true)
    (l_BadByteu_initu : K.lookup f_BadByteu_initu = some ⟨oc24, od24, .func (PySem.W.ksFn "__init__" "BadByte.__init__" (defArgs s_BadByteu_initu) (defBody s_BadByteu_initu) (defScope s_BadByteu_initu) .none kV24 dc24 pm24 an24 (.ref cda24) ct24 cc24), sl24⟩)
    (c_BadByteu_initu : PySem.W.codeIn K (.ref cda24) "BadByte.__init__" = true)
    (k_BadByteu_initu : PySem.W.keepIn K (.ref f_BadByteu_initu) = true)
    (cl_BadByteu_initu : K.lookup cda24 = some ⟨ccl24, ccd24, .fields vs24, ccs24⟩)
    (cf_BadByteu_initu : vs24[2]? = some (.str file24 tf24))
    (fe_BadByteu_initu : (((PySem.Challenge.pw_codestitch_k03_code_sets).main.file : Str) == file24) = true)
    (ce_BadByteu_initu : K.lookup cc24 = some ⟨ocl24, ocd24, .cell (some (.ref C_BadByte)), ocs24⟩)
    (mrC_BadByte : PySem.W.mroIn K C_BadByte (.ref C_BadByte) = some true)
    (suC_BadByte : PySem.W.ks_superIn K C_BadByte C_BadByte "__init__" = some (some (.builtin "ValueError.__init__")))
    (svC_BadByte : PySem.W.subIn K (.ref C_BadByte) (.type "ValueError") = some true)
    (kit_BadByte_BadByte : PySem.W.kitOne K (.ref C_BadByte) (.ref C_BadByte) = some true)
    (kit_BadByte_BadInput : PySem.W.kitOne K (.ref C_BadByte) (.ref C_BadInput) = some true)
    (kit_BadByte_NotRight : PySem.W.kitOne K (.ref C_BadByte) (.ref C_NotRight) = some false)
    (exm_BadByte_CodeError : PySem.W.exmOne K (.ref C_BadByte) (.ref C_CodeError) = some true)
    (icc_Form : PySem.W.findIn K (.ref C_Form) "__class__" = some (some (.builtin "object.__class__")))
    (icm_Form : PySem.W.mroIn K C_Form (.type "object") = some true)
    (kit_Form_Form : PySem.W.kitOne K (.ref C_Form) (.ref C_Form) = some true)
    (icc_CodeSet : PySem.W.findIn K (.ref C_CodeSet) "__class__" = some (some (.builtin "object.__class__")))
    (icm_CodeSet : PySem.W.mroIn K C_CodeSet (.type "object") = some true)
    (kit_CodeSet_CodeSet : PySem.W.kitOne K (.ref C_CodeSet) (.ref C_CodeSet) = some true)
    (kit_NoneType_Form : PySem.W.kitOne K (.type "NoneType") (.ref C_Form) = some false)
    (kit_str_Form : PySem.W.kitOne K (.type "str") (.ref C_Form) = some false)
    (kit_tuple_Form : PySem.W.kitOne K (.type "tuple") (.ref C_Form) = some false)
    (kit_list_Form : PySem.W.kitOne K (.type "list") (.ref C_Form) = some false)
    (kit_int_Form : PySem.W.kitOne K (.type "int") (.ref C_Form) = some false)
    (kit_int_CodeSet : PySem.W.kitOne K (.type "int") (.ref C_CodeSet) = some false)
    (nf_Form_Form : PySem.W.notFirst K C_Form (.ref C_Form) = true)
    (nf_NoneType_Form : PySem.W.notFirst K C_Form (.type "NoneType") = true)
    (nf_str_Form : PySem.W.notFirst K C_Form (.type "str") = true)
    (nf_tuple_Form : PySem.W.notFirst K C_Form (.type "tuple") = true)
    (nf_list_Form : PySem.W.notFirst K C_Form (.type "list") = true)
    (nf_int_Form : PySem.W.notFirst K C_Form (.type "int") = true)
    (nf_CodeSet_CodeSet : PySem.W.notFirst K C_CodeSet (.ref C_CodeSet) = true)
    (nf_int_CodeSet : PySem.W.notFirst K C_CodeSet (.type "int") = true)
    (spi_CodeSetu_getitemu : PySem.W.fnIn K f_CodeSetu_getitemu = true)
    (rd_Form : PySem.W.readsIn K C_Form (.type "type") = true)
    (gat_Form : PySem.W.specialIn K (.ref C_Form) "__getattribute__" = some (some (.builtin "type.__getattribute__")))
    (rd_CodeSet : PySem.W.readsIn K C_CodeSet (.type "type") = true)
    (gat_CodeSet : PySem.W.specialIn K (.ref C_CodeSet) "__getattribute__" = some (some (.builtin "type.__getattribute__")))
    (cvF : PySem.W.findCls K (.ref C_Form) (.type "type") "FLOWS" = some (.val (.ref a_FLOWS)))
    (lkF : K.lookup a_FLOWS = some ⟨.type "tuple", odF, .seq #[.str "next" tF1, .str "jump" tF2, .str "test" tF3, .str "end" tF4] nF, slF⟩)
    (cvM : PySem.W.findCls K (.ref C_CodeSet) (.type "type") "MOST_FORMS" = some (.val (.int 16 tM)))
    (cvL : PySem.W.findCls K (.ref C_CodeSet) (.type "type") "MOST_LENGTH" = some (.val (.int 4 tL))) :
    ∃ fd : FuncData, (∀ (s : Shared) (v : Value), BindsTo s fd ⟨[v], []⟩ [("_law_script", v)]) ∧ ∀ base : Heap, K.In base → base.Ns mainGlobals mg → FnOk PySem.Challenge.pw_codestitch_k03_code_sets w K mg base CX0 8 fa fd ["_law_script"] (spLaw K) := by
  have e := hfa.symm.trans (PySem.W.mg_of X G a_law)
  cases e
  have F_is_byte := fun_mk (st := s_is_byte) l_is_byte c_is_byte k_is_byte
  have F_is_name := fun_mk (st := s_is_name) l_is_name c_is_name k_is_name
  have F_Formu_initu := fun_mk (st := s_Formu_initu) l_Formu_initu c_Formu_initu k_Formu_initu
  have F_check_forms := fun_mk (st := s_check_forms) l_check_forms c_check_forms k_check_forms
  have F_CodeSetu_initu := fun_mk (st := s_CodeSetu_initu) l_CodeSetu_initu c_CodeSetu_initu k_CodeSetu_initu
  have F_Formu_equ := fun_mk (st := s_Formu_equ) l_Formu_equ c_Formu_equ k_Formu_equ
  have F_Formu_stru := fun_mk (st := s_Formu_stru) l_Formu_stru c_Formu_stru k_Formu_stru
  have F_CodeSetu_containsu := fun_mk (st := s_CodeSetu_containsu) l_CodeSetu_containsu c_CodeSetu_containsu k_CodeSetu_containsu
  have F_CodeSetu_getitemu := fun_mk (st := s_CodeSetu_getitemu) l_CodeSetu_getitemu c_CodeSetu_getitemu k_CodeSetu_getitemu
  have F_CodeSetu_lenu := fun_mk (st := s_CodeSetu_lenu) l_CodeSetu_lenu c_CodeSetu_lenu k_CodeSetu_lenu
  have F_CodeSet_firsts := fun_mk (st := s_CodeSet_firsts) l_CodeSet_firsts c_CodeSet_firsts k_CodeSet_firsts
  have F_CodeSetu_equ := fun_mk (st := s_CodeSetu_equ) l_CodeSetu_equ c_CodeSetu_equ k_CodeSetu_equ
  have F_CodeSet_sample := fun_mk (st := s_CodeSet_sample) l_CodeSet_sample c_CodeSet_sample k_CodeSet_sample
  have F__law_bag := fun_mk (st := s__law_bag) l__law_bag c__law_bag k__law_bag
  have F__law_draw := fun_mk (st := s__law_draw) l__law_draw c__law_draw k__law_draw
  have F__law_same := fun_mk (st := s__law_same) l__law_same c__law_same k__law_same
  have F__law_forms := fun_mk (st := s__law_forms) l__law_forms c__law_forms k__law_forms
  have F__law_codes := fun_mk (st := s__law_codes) l__law_codes c__law_codes k__law_codes
  have F__law_form_same := fun_mk (st := s__law_form_same) l__law_form_same c__law_form_same k__law_form_same
  have F__law_holds := fun_mk (st := s__law_holds) l__law_holds c__law_holds k__law_holds
  have F__law_refused := fun_mk (st := s__law_refused) l__law_refused c__law_refused k__law_refused
  have F__law_other := fun_mk (st := s__law_other) l__law_other c__law_other k__law_other
  have F_law := fun_mk (st := s_law) l_law c_law k_law
  have F_BadByteu_initu : Vc.FunS PySem.Challenge.pw_codestitch_k03_code_sets K mg "__init__" "BadByte.__init__" s_BadByteu_initu f_BadByteu_initu (PySem.W.ksFn "__init__" "BadByte.__init__" (defArgs s_BadByteu_initu) (defBody s_BadByteu_initu) (defScope s_BadByteu_initu) .none kV24 dc24 pm24 an24 (.ref cda24) ct24 cc24) C_BadByte "self" := ⟨⟨_, _, _, _, _, _, _, _, _, _, rfl, l_BadByteu_initu, c_BadByteu_initu, ⟨⟨_, _, _, l_BadByteu_initu⟩, ⟨_, rfl, rfl⟩, ⟨_, _, _, _, _, _, cl_BadByteu_initu, cf_BadByteu_initu, fe_BadByteu_initu⟩, ⟨_, _, _, ce_BadByteu_initu⟩, mrC_BadByte, suC_BadByte, svC_BadByte, PySem.W.mg_none_of X G zsuper, znoop, ztop⟩⟩, k_BadByteu_initu⟩
  have T : Txt K mg { C_Form := C_Form, C_CodeSet := C_CodeSet, f_is_byte := f_is_byte, d_is_byte := PySem.W.fnOf "is_byte" "is_byte" (defArgs s_is_byte) (defBody s_is_byte) (defScope s_is_byte) .none kV1 dc1 pm1 an1 cd1 ct1, f_is_name := f_is_name, d_is_name := PySem.W.fnOf "is_name" "is_name" (defArgs s_is_name) (defBody s_is_name) (defScope s_is_name) .none kV2 dc2 pm2 an2 cd2 ct2, f_Formu_initu := f_Formu_initu, d_Formu_initu := PySem.W.fnOf "__init__" "Form.__init__" (defArgs s_Formu_initu) (defBody s_Formu_initu) (defScope s_Formu_initu) .none kV3 dc3 pm3 an3 cd3 ct3, f_check_forms := f_check_forms, d_check_forms := PySem.W.fnOf "check_forms" "check_forms" (defArgs s_check_forms) (defBody s_check_forms) (defScope s_check_forms) .none kV4 dc4 pm4 an4 cd4 ct4, f_CodeSetu_initu := f_CodeSetu_initu, d_CodeSetu_initu := PySem.W.fnOf "__init__" "CodeSet.__init__" (defArgs s_CodeSetu_initu) (defBody s_CodeSetu_initu) (defScope s_CodeSetu_initu) .none kV5 dc5 pm5 an5 cd5 ct5, f_Formu_equ := f_Formu_equ, d_Formu_equ := PySem.W.fnOf "__eq__" "Form.__eq__" (defArgs s_Formu_equ) (defBody s_Formu_equ) (defScope s_Formu_equ) .none kV6 dc6 pm6 an6 cd6 ct6, f_Formu_stru := f_Formu_stru, d_Formu_stru := PySem.W.fnOf "__str__" "Form.__str__" (defArgs s_Formu_stru) (defBody s_Formu_stru) (defScope s_Formu_stru) .none kV7 dc7 pm7 an7 cd7 ct7, f_CodeSetu_containsu := f_CodeSetu_containsu, d_CodeSetu_containsu := PySem.W.fnOf "__contains__" "CodeSet.__contains__" (defArgs s_CodeSetu_containsu) (defBody s_CodeSetu_containsu) (defScope s_CodeSetu_containsu) .none kV8 dc8 pm8 an8 cd8 ct8, f_CodeSetu_getitemu := f_CodeSetu_getitemu, d_CodeSetu_getitemu := PySem.W.fnOf "__getitem__" "CodeSet.__getitem__" (defArgs s_CodeSetu_getitemu) (defBody s_CodeSetu_getitemu) (defScope s_CodeSetu_getitemu) .none kV9 dc9 pm9 an9 cd9 ct9, f_CodeSetu_lenu := f_CodeSetu_lenu, d_CodeSetu_lenu := PySem.W.fnOf "__len__" "CodeSet.__len__" (defArgs s_CodeSetu_lenu) (defBody s_CodeSetu_lenu) (defScope s_CodeSetu_lenu) .none kV10 dc10 pm10 an10 cd10 ct10, f_CodeSet_firsts := f_CodeSet_firsts, d_CodeSet_firsts := PySem.W.fnOf "firsts" "CodeSet.firsts" (defArgs s_CodeSet_firsts) (defBody s_CodeSet_firsts) (defScope s_CodeSet_firsts) .none kV11 dc11 pm11 an11 cd11 ct11, f_CodeSetu_equ := f_CodeSetu_equ, d_CodeSetu_equ := PySem.W.fnOf "__eq__" "CodeSet.__eq__" (defArgs s_CodeSetu_equ) (defBody s_CodeSetu_equ) (defScope s_CodeSetu_equ) .none kV12 dc12 pm12 an12 cd12 ct12, f_CodeSet_sample := f_CodeSet_sample, d_CodeSet_sample := PySem.W.fnOf "sample" "CodeSet.sample" (defArgs s_CodeSet_sample) (defBody s_CodeSet_sample) (defScope s_CodeSet_sample) .none kV13 dc13 pm13 an13 cd13 ct13, sm_CodeSet_sample := sm13, f__law_bag := f__law_bag, d__law_bag := PySem.W.fnOf "_law_bag" "_law_bag" (defArgs s__law_bag) (defBody s__law_bag) (defScope s__law_bag) .none kV14 dc14 pm14 an14 cd14 ct14, f__law_draw := f__law_draw, d__law_draw := PySem.W.fnOf "_law_draw" "_law_draw" (defArgs s__law_draw) (defBody s__law_draw) (defScope s__law_draw) .none kV15 dc15 pm15 an15 cd15 ct15, f__law_same := f__law_same, d__law_same := PySem.W.fnOf "_law_same" "_law_same" (defArgs s__law_same) (defBody s__law_same) (defScope s__law_same) .none kV16 dc16 pm16 an16 cd16 ct16, f__law_forms := f__law_forms, d__law_forms := PySem.W.fnOf "_law_forms" "_law_forms" (defArgs s__law_forms) (defBody s__law_forms) (defScope s__law_forms) .none kV17 dc17 pm17 an17 cd17 ct17, f__law_codes := f__law_codes, d__law_codes := PySem.W.fnOf "_law_codes" "_law_codes" (defArgs s__law_codes) (defBody s__law_codes) (defScope s__law_codes) .none kV18 dc18 pm18 an18 cd18 ct18, f__law_form_same := f__law_form_same, d__law_form_same := PySem.W.fnOf "_law_form_same" "_law_form_same" (defArgs s__law_form_same) (defBody s__law_form_same) (defScope s__law_form_same) .none kV19 dc19 pm19 an19 cd19 ct19, f__law_holds := f__law_holds, d__law_holds := PySem.W.fnOf "_law_holds" "_law_holds" (defArgs s__law_holds) (defBody s__law_holds) (defScope s__law_holds) .none kV20 dc20 pm20 an20 cd20 ct20, f__law_refused := f__law_refused, d__law_refused := PySem.W.fnOf "_law_refused" "_law_refused" (defArgs s__law_refused) (defBody s__law_refused) (defScope s__law_refused) .none kV21 dc21 pm21 an21 cd21 ct21, f__law_other := f__law_other, d__law_other := PySem.W.fnOf "_law_other" "_law_other" (defArgs s__law_other) (defBody s__law_other) (defScope s__law_other) .none kV22 dc22 pm22 an22 cd22 ct22, f_law := fa, d_law := PySem.W.fnOf "law" "law" (defArgs s_law) (defBody s_law) (defScope s_law) .none kV23 dc23 pm23 an23 cd23 ct23, C_CodeError := C_CodeError, C_BadInput := C_BadInput, C_NotRight := C_NotRight, C_BadByte := C_BadByte, f_BadByteu_initu := f_BadByteu_initu, d_BadByteu_initu := PySem.W.ksFn "__init__" "BadByte.__init__" (defArgs s_BadByteu_initu) (defBody s_BadByteu_initu) (defScope s_BadByteu_initu) .none kV24 dc24 pm24 an24 (.ref cda24) ct24 cc24, a_FLOWS := a_FLOWS } := {
    g_Form := (PySem.W.mg_of X G aC_Form),
    g_CodeSet := (PySem.W.mg_of X G aC_CodeSet),
    g_is_byte := (PySem.W.mg_of X G a_is_byte),
    F_is_byte := (F_is_byte),
    b_is_byte := (F_is_byte.binds (ps := ["value"]) fun _ _ _ _ _ _ us hl => match us, hl with | [_], _ => rfl),
    g_is_name := (PySem.W.mg_of X G a_is_name),
    F_is_name := (F_is_name),
    b_is_name := (F_is_name.binds (ps := ["value"]) fun _ _ _ _ _ _ us hl => match us, hl with | [_], _ => rfl),
    F_Formu_initu := (F_Formu_initu),
    b_Formu_initu := (F_Formu_initu.binds (ps := ["self", "name", "length", "flow"]) fun _ _ _ _ _ _ us hl => match us, hl with | [_, _, _, _], _ => rfl),
    g_check_forms := (PySem.W.mg_of X G a_check_forms),
    F_check_forms := (F_check_forms),
    b_check_forms := (F_check_forms.binds (ps := ["stop", "forms"]) fun _ _ _ _ _ _ us hl => match us, hl with | [_, _], _ => rfl),
    F_CodeSetu_initu := (F_CodeSetu_initu),
    b_CodeSetu_initu := (F_CodeSetu_initu.binds (ps := ["self", "stop", "forms"]) fun _ _ _ _ _ _ us hl => match us, hl with | [_, _, _], _ => rfl),
    F_Formu_equ := (F_Formu_equ),
    b_Formu_equ := (F_Formu_equ.binds (ps := ["self", "other"]) fun _ _ _ _ _ _ us hl => match us, hl with | [_, _], _ => rfl),
    F_Formu_stru := (F_Formu_stru),
    b_Formu_stru := (F_Formu_stru.binds (ps := ["self"]) fun _ _ _ _ _ _ us hl => match us, hl with | [_], _ => rfl),
    F_CodeSetu_containsu := (F_CodeSetu_containsu),
    b_CodeSetu_containsu := (F_CodeSetu_containsu.binds (ps := ["self", "byte"]) fun _ _ _ _ _ _ us hl => match us, hl with | [_, _], _ => rfl),
    F_CodeSetu_getitemu := (F_CodeSetu_getitemu),
    b_CodeSetu_getitemu := (F_CodeSetu_getitemu.binds (ps := ["self", "byte"]) fun _ _ _ _ _ _ us hl => match us, hl with | [_, _], _ => rfl),
    F_CodeSetu_lenu := (F_CodeSetu_lenu),
    b_CodeSetu_lenu := (F_CodeSetu_lenu.binds (ps := ["self"]) fun _ _ _ _ _ _ us hl => match us, hl with | [_], _ => rfl),
    F_CodeSet_firsts := (F_CodeSet_firsts),
    b_CodeSet_firsts := (F_CodeSet_firsts.binds (ps := ["self"]) fun _ _ _ _ _ _ us hl => match us, hl with | [_], _ => rfl),
    F_CodeSetu_equ := (F_CodeSetu_equ),
    b_CodeSetu_equ := (F_CodeSetu_equ.binds (ps := ["self", "other"]) fun _ _ _ _ _ _ us hl => match us, hl with | [_, _], _ => rfl),
    sm_CodeSet_sample := (⟨sma_CodeSet_sample, ⟨_, smr_CodeSet_sample⟩, k_CodeSet_sample⟩),
    F_CodeSet_sample := (F_CodeSet_sample),
    b_CodeSet_sample := (F_CodeSet_sample.binds (ps := []) fun _ _ _ _ _ _ us hl => match us, hl with | [], _ => rfl),
    g__law_bag := (PySem.W.mg_of X G a__law_bag),
    F__law_bag := (F__law_bag),
    b__law_bag := (F__law_bag.binds (ps := ["_law_script"]) fun _ _ _ _ _ _ us hl => match us, hl with | [_], _ => rfl),
    g__law_draw := (PySem.W.mg_of X G a__law_draw),
    F__law_draw := (F__law_draw),
    b__law_draw := (F__law_draw.binds (ps := ["_law_bag_here", "_law_limit"]) fun _ _ _ _ _ _ us hl => match us, hl with | [_, _], _ => rfl),
    g__law_same := (PySem.W.mg_of X G a__law_same),
    F__law_same := (F__law_same),
    b__law_same := (F__law_same.binds (ps := ["_law_actual", "_law_expected"]) fun _ _ _ _ _ _ us hl => match us, hl with | [_, _], _ => rfl),
    g__law_forms := (PySem.W.mg_of X G a__law_forms),
    F__law_forms := (F__law_forms),
    b__law_forms := (F__law_forms.binds (ps := ["_law_bag_here", "_law_halt"]) fun _ _ _ _ _ _ us hl => match us, hl with | [_, _], _ => rfl),
    g__law_codes := (PySem.W.mg_of X G a__law_codes),
    F__law_codes := (F__law_codes),
    b__law_codes := (F__law_codes.binds (ps := ["_law_halt", "_law_table"]) fun _ _ _ _ _ _ us hl => match us, hl with | [_, _], _ => rfl),
    g__law_form_same := (PySem.W.mg_of X G a__law_form_same),
    F__law_form_same := (F__law_form_same),
    b__law_form_same := (F__law_form_same.binds (ps := ["_law_form", "_law_told"]) fun _ _ _ _ _ _ us hl => match us, hl with | [_, _], _ => rfl),
    g__law_holds := (PySem.W.mg_of X G a__law_holds),
    F__law_holds := (F__law_holds),
    b__law_holds := (F__law_holds.binds (ps := ["_law_codes_here", "_law_halt", "_law_table", "_law_beyond"]) fun _ _ _ _ _ _ us hl => match us, hl with | [_, _, _, _], _ => rfl),
    g__law_refused := (PySem.W.mg_of X G a__law_refused),
    F__law_refused := (F__law_refused),
    b__law_refused := (F__law_refused.binds (ps := ["_law_codes_here", "_law_byte"]) fun _ _ _ _ _ _ us hl => match us, hl with | [_, _], _ => rfl),
    g__law_other := (PySem.W.mg_of X G a__law_other),
    F__law_other := (F__law_other),
    b__law_other := (F__law_other.binds (ps := ["_law_bag_here", "_law_halt", "_law_table"]) fun _ _ _ _ _ _ us hl => match us, hl with | [_, _, _], _ => rfl),
    g_law := (PySem.W.mg_of X G a_law),
    F_law := (F_law),
    b_law := (F_law.binds (ps := ["_law_script"]) fun _ _ _ _ _ _ us hl => match us, hl with | [_], _ => rfl),
    cl_Form := (⟨pg_Form, hd_Form, po_Form, sa_Form⟩),
    mk_Form := (⟨mk_Form, a_Formu_initu, i_Formu_initu, kc_Form⟩),
    no_Form_name := (no_Form_name),
    no_Form_length := (no_Form_length),
    no_Form_flow := (no_Form_flow),
    cl_CodeSet := (⟨pg_CodeSet, hd_CodeSet, po_CodeSet, sa_CodeSet⟩),
    mk_CodeSet := (⟨mk_CodeSet, a_CodeSetu_initu, i_CodeSetu_initu, kc_CodeSet⟩),
    m_CodeSet_firsts := (⟨a_CodeSet_firsts, i_CodeSet_firsts, k_CodeSet_firsts⟩),
    no_CodeSet_stop := (no_CodeSet_stop),
    no_CodeSet_order := (no_CodeSet_order),
    no_CodeSet_table := (no_CodeSet_table),
    n_len := (PySem.W.mg_none_of X G z_len),
    n_abs := (PySem.W.mg_none_of X G z_abs),
    n_int := (PySem.W.mg_none_of X G z_int),
    n_list := (PySem.W.mg_none_of X G z_list),
    n_range := (PySem.W.mg_none_of X G z_range),
    n_isinstance := (PySem.W.mg_none_of X G z_isinstance),
    n_bool := (PySem.W.mg_none_of X G z_bool),
    n_str := (PySem.W.mg_none_of X G z_str),
    n_tuple := (PySem.W.mg_none_of X G z_tuple),
    n_all := (PySem.W.mg_none_of X G z_all),
    n_set := (PySem.W.mg_none_of X G z_set),
    n_sorted := (PySem.W.mg_none_of X G z_sorted),
    n_ValueError := (PySem.W.mg_none_of X G z_ValueError),
    g_LETTERS := (⟨_, PySem.W.mg_of X G v_LETTERS⟩),
    g_CodeError := (PySem.W.mg_of X G aC_CodeError),
    g_BadInput := (PySem.W.mg_of X G aC_BadInput),
    g_NotRight := (PySem.W.mg_of X G aC_NotRight),
    g_BadByte := (PySem.W.mg_of X G aC_BadByte),
    ox_BadByte := (⟨⟨_, _, _, _, _, _, _, _, _, _, _, _, _, _, _, lkC_BadByte, bmC_BadByte⟩, saC_BadByte, exC_BadByte, tyC_BadByte, kpC_BadByte⟩),
    i_BadByte := (inC_BadByte),
    ti_BadByte := (tiC_BadByte),
    no_BadByte_at := (noC_BadByte_at),
    xf_BadByte := (⟨gaC_BadByte, ggC_BadByte, exC_BadByte, hdC_BadByte⟩),
    ec_BadByte := (⟨gaC_BadByte, ggC_BadByte, exC_BadByte, hdC_BadByte, gcC_BadByte, zgcn, zgct, moC_BadByte⟩),
    F_BadByteu_initu := (F_BadByteu_initu),
    b_BadByteu_initu := (F_BadByteu_initu.binds (ps := ["self", "at"]) fun _ _ _ _ _ _ _ us hl => match us, hl with | [_, _], _ => rfl),
    kit_BadByte_BadByte := (kit_BadByte_BadByte),
    kit_BadByte_BadInput := (kit_BadByte_BadInput),
    kit_BadByte_NotRight := (kit_BadByte_NotRight),
    exm_BadByte_CodeError := (exm_BadByte_CodeError),
    ic_Form := (⟨⟨pg_Form, hd_Form, po_Form, sa_Form⟩, icc_Form, zgcn, zgct, icm_Form, kit_Form_Form⟩),
    ic_CodeSet := (⟨⟨pg_CodeSet, hd_CodeSet, po_CodeSet, sa_CodeSet⟩, icc_CodeSet, zgcn, zgct, icm_CodeSet, kit_CodeSet_CodeSet⟩),
    eq_Form := (⟨a_Formu_equ, i_Formu_equ⟩),
    eq_CodeSet := (⟨a_CodeSetu_equ, i_CodeSetu_equ⟩),
    kt_NoneType_Form := (kit_NoneType_Form),
    kt_str_Form := (kit_str_Form),
    kt_tuple_Form := (kit_tuple_Form),
    kt_list_Form := (kit_list_Form),
    kt_int_Form := (kit_int_Form),
    kt_int_CodeSet := (kit_int_CodeSet),
    nf_Form_Form := (nf_Form_Form),
    nf_NoneType_Form := (nf_NoneType_Form),
    nf_str_Form := (nf_str_Form),
    nf_tuple_Form := (nf_tuple_Form),
    nf_list_Form := (nf_list_Form),
    nf_int_Form := (nf_int_Form),
    nf_CodeSet_CodeSet := (nf_CodeSet_CodeSet),
    nf_int_CodeSet := (nf_int_CodeSet),
    sp_CodeSet_CodeSetu_lenu := (⟨a_CodeSetu_lenu, i_CodeSetu_lenu⟩),
    sp_CodeSet_CodeSetu_containsu := (⟨a_CodeSetu_containsu, i_CodeSetu_containsu⟩),
    sp_CodeSet_CodeSetu_getitemu := (⟨a_CodeSetu_getitemu, i_CodeSetu_getitemu⟩),
    spf_CodeSetu_getitemu := (spi_CodeSetu_getitemu),
    sp_Form_Formu_stru := (⟨a_Formu_stru, i_Formu_stru⟩),
    cr_Form := (⟨rd_Form, gat_Form⟩),
    cr_CodeSet := (⟨rd_CodeSet, gat_CodeSet⟩),
    cv_FLOWS := (⟨cvF, rfl⟩),
    q_FLOWS := (fun H => .inr ⟨_, _, _, lkF, rfl, rfl, by show 4 ≤ sizeLine; decide, .cons ⟨_, rfl⟩ (.cons ⟨_, rfl⟩ (.cons ⟨_, rfl⟩ (.cons ⟨_, rfl⟩ .nil)))⟩),
    cv_MOST := (⟨_, cvM, _, rfl⟩),
    cv_MOSTL := (⟨_, cvL, _, rfl⟩) }
  exact ⟨PySem.W.fnOf "law" "law" (defArgs s_law) (defBody s_law) (defScope s_law) .none kV23 dc23 pm23 an23 cd23 ct23, fun s v => .of_eq rfl, fun base _ _ => ok_law T⟩
end My
open PySem PySem.W PyProof.Rows
set_option maxRecDepth 100000 in
set_option maxHeartbeats 0 in
theorem PySem.Challenge.cw_codestitch_k03_code_sets_holds : PySem.Challenge.rw_codestitch_k03_code_sets.Holds := by
  w_on; o_law; k_head; (case hw => w_witness2)
  k_fill
  refine L2.walk_of (l := PySem.Challenge.rw_codestitch_k03_code_sets) (n := 63) (k := 8) (x := "_law_script") (CX := fun _ => L2.CX0) (sp := fun w => My.spLaw _) rfl (by decide) rfl ⟨rfl, by decide, by decide⟩ (fun w h Y => PySem.W.kIn_of Y) ?F (fun _ _ a ns hl _ hS => ⟨a, ns, rfl, hS, hl, fun _ => rfl⟩) (fun _ _ _ _ _ h => h)
  case F =>
    intro w mg fa h KX G hmg
    refine' My.all_mk KX G hmg ?aC_Form ?aC_CodeSet ?a_is_byte ?l_is_byte ?c_is_byte ?k_is_byte ?a_is_name ?l_is_name ?c_is_name ?k_is_name ?a_Formu_initu ?i_Formu_initu ?l_Formu_initu ?c_Formu_initu ?k_Formu_initu ?a_check_forms ?l_check_forms ?c_check_forms ?k_check_forms ?a_CodeSetu_initu ?i_CodeSetu_initu ?l_CodeSetu_initu ?c_CodeSetu_initu ?k_CodeSetu_initu ?a_Formu_equ ?i_Formu_equ ?l_Formu_equ ?c_Formu_equ ?k_Formu_equ ?a_Formu_stru ?i_Formu_stru ?l_Formu_stru ?c_Formu_stru ?k_Formu_stru ?a_CodeSetu_containsu ?i_CodeSetu_containsu ?l_CodeSetu_containsu ?c_CodeSetu_containsu ?k_CodeSetu_containsu ?a_CodeSetu_getitemu ?i_CodeSetu_getitemu ?l_CodeSetu_getitemu ?c_CodeSetu_getitemu ?k_CodeSetu_getitemu ?a_CodeSetu_lenu ?i_CodeSetu_lenu ?l_CodeSetu_lenu ?c_CodeSetu_lenu ?k_CodeSetu_lenu ?a_CodeSet_firsts ?i_CodeSet_firsts ?l_CodeSet_firsts ?c_CodeSet_firsts ?k_CodeSet_firsts ?a_CodeSetu_equ ?i_CodeSetu_equ ?l_CodeSetu_equ ?c_CodeSetu_equ ?k_CodeSetu_equ ?sma_CodeSet_sample ?smr_CodeSet_sample ?l_CodeSet_sample ?c_CodeSet_sample ?k_CodeSet_sample ?a__law_bag ?l__law_bag ?c__law_bag ?k__law_bag ?a__law_draw ?l__law_draw ?c__law_draw ?k__law_draw ?a__law_same ?l__law_same ?c__law_same ?k__law_same ?a__law_forms ?l__law_forms ?c__law_forms ?k__law_forms ?a__law_codes ?l__law_codes ?c__law_codes ?k__law_codes ?a__law_form_same ?l__law_form_same ?c__law_form_same ?k__law_form_same ?a__law_holds ?l__law_holds ?c__law_holds ?k__law_holds ?a__law_refused ?l__law_refused ?c__law_refused ?k__law_refused ?a__law_other ?l__law_other ?c__law_other ?k__law_other ?a_law ?l_law ?c_law ?k_law ?pg_Form ?hd_Form ?po_Form ?sa_Form ?mk_Form ?kc_Form ?no_Form_name ?no_Form_length ?no_Form_flow ?pg_CodeSet ?hd_CodeSet ?po_CodeSet ?sa_CodeSet ?mk_CodeSet ?kc_CodeSet ?no_CodeSet_stop ?no_CodeSet_order ?no_CodeSet_table ?z_len ?z_abs ?z_int ?z_list ?z_range ?z_isinstance ?z_bool ?z_str ?z_tuple ?z_all ?z_set ?z_sorted ?z_ValueError ?v_LETTERS ?aC_CodeError ?aC_BadInput ?aC_NotRight ?zsuper ?znoop ?zgcn ?zgct ?ztop ?aC_BadByte ?lkC_BadByte ?bmC_BadByte ?saC_BadByte ?exC_BadByte ?tyC_BadByte ?kpC_BadByte ?inC_BadByte ?tiC_BadByte ?noC_BadByte_at ?gaC_BadByte ?ggC_BadByte ?hdC_BadByte ?gcC_BadByte ?moC_BadByte ?l_BadByteu_initu ?c_BadByteu_initu ?k_BadByteu_initu ?cl_BadByteu_initu ?cf_BadByteu_initu ?fe_BadByteu_initu ?ce_BadByteu_initu ?mrC_BadByte ?suC_BadByte ?svC_BadByte ?kit_BadByte_BadByte ?kit_BadByte_BadInput ?kit_BadByte_NotRight ?exm_BadByte_CodeError ?icc_Form ?icm_Form ?kit_Form_Form ?icc_CodeSet ?icm_CodeSet ?kit_CodeSet_CodeSet ?kit_NoneType_Form ?kit_str_Form ?kit_tuple_Form ?kit_list_Form ?kit_int_Form ?kit_int_CodeSet ?nf_Form_Form ?nf_NoneType_Form ?nf_str_Form ?nf_tuple_Form ?nf_list_Form ?nf_int_Form ?nf_CodeSet_CodeSet ?nf_int_CodeSet ?spi_CodeSetu_getitemu ?rd_Form ?gat_Form ?rd_CodeSet ?gat_CodeSet ?cvF ?lkF ?cvM ?cvL
    (case aC_Form => k_is); (case aC_CodeSet => k_is); (case a_is_byte => k_is); (case l_is_byte => k_is); (case c_is_byte => k_is); (case k_is_byte => k_is)
    (case a_is_name => k_is); (case l_is_name => k_is); (case c_is_name => k_is); (case k_is_name => k_is); (case a_Formu_initu => k_is); (case i_Formu_initu => k_is)
    (case l_Formu_initu => k_is); (case c_Formu_initu => k_is); (case k_Formu_initu => k_is); (case a_check_forms => k_is); (case l_check_forms => k_is); (case c_check_forms => k_is)
    (case k_check_forms => k_is); (case a_CodeSetu_initu => k_is); (case i_CodeSetu_initu => k_is); (case l_CodeSetu_initu => k_is); (case c_CodeSetu_initu => k_is); (case k_CodeSetu_initu => k_is)
    (case a_Formu_equ => k_is); (case i_Formu_equ => k_is); (case l_Formu_equ => k_is); (case c_Formu_equ => k_is); (case k_Formu_equ => k_is); (case a_Formu_stru => k_is)
    (case i_Formu_stru => k_is); (case l_Formu_stru => k_is); (case c_Formu_stru => k_is); (case k_Formu_stru => k_is); (case a_CodeSetu_containsu => k_is); (case i_CodeSetu_containsu => k_is)
    (case l_CodeSetu_containsu => k_is); (case c_CodeSetu_containsu => k_is); (case k_CodeSetu_containsu => k_is); (case a_CodeSetu_getitemu => k_is); (case i_CodeSetu_getitemu => k_is); (case l_CodeSetu_getitemu => k_is)
    (case c_CodeSetu_getitemu => k_is); (case k_CodeSetu_getitemu => k_is); (case a_CodeSetu_lenu => k_is); (case i_CodeSetu_lenu => k_is); (case l_CodeSetu_lenu => k_is); (case c_CodeSetu_lenu => k_is)
    (case k_CodeSetu_lenu => k_is); (case a_CodeSet_firsts => k_is); (case i_CodeSet_firsts => k_is); (case l_CodeSet_firsts => k_is); (case c_CodeSet_firsts => k_is); (case k_CodeSet_firsts => k_is)
    (case a_CodeSetu_equ => k_is); (case i_CodeSetu_equ => k_is); (case l_CodeSetu_equ => k_is); (case c_CodeSetu_equ => k_is); (case k_CodeSetu_equ => k_is); (case sma_CodeSet_sample => k_is)
    (case smr_CodeSet_sample => k_is); (case l_CodeSet_sample => k_is); (case c_CodeSet_sample => k_is); (case k_CodeSet_sample => k_is); (case a__law_bag => k_is); (case l__law_bag => k_is)
    (case c__law_bag => k_is); (case k__law_bag => k_is); (case a__law_draw => k_is); (case l__law_draw => k_is); (case c__law_draw => k_is); (case k__law_draw => k_is)
    (case a__law_same => k_is); (case l__law_same => k_is); (case c__law_same => k_is); (case k__law_same => k_is); (case a__law_forms => k_is); (case l__law_forms => k_is)
    (case c__law_forms => k_is); (case k__law_forms => k_is); (case a__law_codes => k_is); (case l__law_codes => k_is); (case c__law_codes => k_is); (case k__law_codes => k_is)
    (case a__law_form_same => k_is); (case l__law_form_same => k_is); (case c__law_form_same => k_is); (case k__law_form_same => k_is); (case a__law_holds => k_is); (case l__law_holds => k_is)
    (case c__law_holds => k_is); (case k__law_holds => k_is); (case a__law_refused => k_is); (case l__law_refused => k_is); (case c__law_refused => k_is); (case k__law_refused => k_is)
    (case a__law_other => k_is); (case l__law_other => k_is); (case c__law_other => k_is); (case k__law_other => k_is); (case a_law => k_is); (case l_law => k_is)
    (case c_law => k_is); (case k_law => k_is); (case pg_Form => k_is); (case hd_Form => k_is); (case po_Form => k_is); (case sa_Form => k_is)
    (case mk_Form => k_is); (case kc_Form => k_is); (case no_Form_name => k_is); (case no_Form_length => k_is); (case no_Form_flow => k_is); (case pg_CodeSet => k_is)
    (case hd_CodeSet => k_is); (case po_CodeSet => k_is); (case sa_CodeSet => k_is); (case mk_CodeSet => k_is); (case kc_CodeSet => k_is); (case no_CodeSet_stop => k_is)
    (case no_CodeSet_order => k_is); (case no_CodeSet_table => k_is); (case z_len => k_is); (case z_abs => k_is); (case z_int => k_is); (case z_list => k_is)
    (case z_range => k_is); (case z_isinstance => k_is); (case z_bool => k_is); (case z_str => k_is); (case z_tuple => k_is); (case z_all => k_is)
    (case z_set => k_is); (case z_sorted => k_is); (case z_ValueError => k_is); (case v_LETTERS => k_is); (case aC_CodeError => k_is); (case aC_BadInput => k_is)
    (case aC_NotRight => k_is); (case zsuper => k_is); (case znoop => k_is); (case zgcn => k_is); (case zgct => k_is); (case ztop => decide +kernel)
    (case aC_BadByte => k_is); (case lkC_BadByte => k_is); (case bmC_BadByte => decide +kernel); (case saC_BadByte => k_is); (case exC_BadByte => k_is); (case tyC_BadByte => k_is)
    (case kpC_BadByte => k_is); (case inC_BadByte => k_is); (case tiC_BadByte => k_is); (case noC_BadByte_at => k_is); (case gaC_BadByte => k_is); (case ggC_BadByte => k_is)
    (case hdC_BadByte => k_is); (case gcC_BadByte => k_is); (case moC_BadByte => k_is); (case l_BadByteu_initu => k_is); (case c_BadByteu_initu => k_is); (case k_BadByteu_initu => k_is)
    (case cl_BadByteu_initu => k_is); (case cf_BadByteu_initu => rfl); (case fe_BadByteu_initu => decide +kernel); (case ce_BadByteu_initu => k_is); (case mrC_BadByte => k_is); (case suC_BadByte => ks_is)
    (case svC_BadByte => k_is); (case kit_BadByte_BadByte => kit_is); (case kit_BadByte_BadInput => kit_is); (case kit_BadByte_NotRight => kit_is); (case exm_BadByte_CodeError => kts_exm); (case icc_Form => k_is)
    (case icm_Form => k_is); (case kit_Form_Form => kit_is); (case icc_CodeSet => k_is); (case icm_CodeSet => k_is); (case kit_CodeSet_CodeSet => kit_is); (case kit_NoneType_Form => kit_is)
    (case kit_str_Form => kit_is); (case kit_tuple_Form => kit_is); (case kit_list_Form => kit_is); (case kit_int_Form => kit_is); (case kit_int_CodeSet => kit_is); (case nf_Form_Form => k_is)
    (case nf_NoneType_Form => k_is); (case nf_str_Form => k_is); (case nf_tuple_Form => k_is); (case nf_list_Form => k_is); (case nf_int_Form => k_is); (case nf_CodeSet_CodeSet => k_is)
    (case nf_int_CodeSet => k_is); (case spi_CodeSetu_getitemu => k_is); (case rd_Form => k_is); (case gat_Form => k_is); (case rd_CodeSet => k_is); (case gat_CodeSet => k_is)
    (case cvF => k_is); (case lkF => k_is); (case cvM => k_is); (case cvL => k_is)
