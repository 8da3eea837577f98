import PyProof.Rows.All
import Wide.All
import OpenK.AllK
import Wide.FinOn
import HandS.ForMost
import HandS.Wide
import HandS.IsInst
import HandS.Evl
import HandS.Walk
import HandS.Strs
import HandS.Conv
import HandS.ClsMeth
import HandS.DictComp
import KE.KSuper
import KE.KExcSuper
import KE.KExcIs
import KE.RegKSuper
import KE.RegKIsAll
import KE.RegKTryMore
import HandS.ForExc
import HandS.ExcInit
import HandS.ExcIs
import HandS.ExcField
import HandS.Star
import HandS.Property
import HandS.HotCalls
import HandS.Codes
import HandS.Defaults
import HandS.MakeKw
import HandS.SetFor
import HandS.Iter
import HandS.More
import PyProof.StrBlock2
import PySem.Challenge.RW_codestitch_k04_refused_code_sets
set_option Elab.async false
set_option linter.all false
set_option maxRecDepth 100000
set_option maxHeartbeats 4000000
open PySem PySem.Spec PyProof.Rows L2
/-! Vc: edges between abstract heaps, and readings answered step by step (my own layer over HandS). -/
namespace Vc
open PySem PySem.Spec PyProof.Rows L2

/-! ### edges: H' comes from H; at most the objects of S were changed -/
structure Ed (S : List Addr) (H H' : Hp) : Prop where
  keep : ∀ a o, a ∉ S → H a = some o → H' a = some o
  tup : ∀ a xs, H a = some (.tup xs) → H' a = some (.tup xs)
  frz : ∀ a o u, H a = some (.frz o u) → H' a = some (.frz o u)
  dom : ∀ a, H' a = none → H a = none
theorem Ed.refl {S : List Addr} {H : Hp} : Ed S H H := ⟨fun _ _ _ h => h, fun _ _ h => h, fun _ _ _ h => h, fun _ h => h⟩
theorem Ed.new {S : List Addr} {H : Hp} {p : Addr} {o : HO} (h : H p = none) : Ed S H (upd H p o) where
  keep := fun a u _ e => by rw [upd_ne (ne_of_none e h)]; exact e
  tup := fun a u e => by rw [upd_ne (ne_of_none e h)]; exact e
  frz := fun a _ u e => by rw [upd_ne (ne_of_none e h)]; exact e
  dom := fun a e => by
    by_cases q : a = p
    · rw [q]; exact h
    · rw [upd_ne q] at e; exact e
theorem Ed.mut {H : Hp} {p : Addr} {o u : HO} (h : H p = some u) (m : Mut (some u)) : Ed [p] H (upd H p o) where
  keep := fun a v ha e => by
    have : a ≠ p := fun q => ha (by rw [q]; exact List.mem_singleton.mpr rfl)
    rw [upd_ne this]; exact e
  tup := fun a xs e => by
    have : a ≠ p := fun q => by rw [q, h] at e; cases e; exact m
    rw [upd_ne this]; exact e
  frz := fun a _ xs e => by
    have : a ≠ p := fun q => by rw [q, h] at e; cases e; exact m
    rw [upd_ne this]; exact e
  dom := fun a e => by
    by_cases q : a = p
    · subst q; rw [upd_same] at e; cases e
    · rw [upd_ne q] at e; exact e
theorem Ed.trans {S T : List Addr} {H H1 H2 : Hp} (a : Ed S H H1) (b : Ed T H1 H2) (hs : ∀ x ∈ T, x ∈ S ∨ H x = none) : Ed S H H2 where
  keep := fun x o hx e => by
    have e1 := a.keep x o hx e
    refine b.keep x o (fun z => ?_) e1
    rcases hs x z with q | q
    · exact hx q
    · rw [e] at q; cases q
  tup := fun x o e => b.tup x o (a.tup x o e)
  frz := fun x o u e => b.frz x o u (a.frz x o u e)
  dom := fun x e => a.dom x (b.dom x e)
theorem Ed.mono {S T : List Addr} {H H1 : Hp} (a : Ed S H H1) (hs : ∀ x ∈ S, x ∈ T) : Ed T H H1 :=
  ⟨fun x o hx e => a.keep x o (fun z => hx (hs x z)) e, a.tup, a.frz, a.dom⟩
theorem Ed.ex {S : List Addr} {H H1 H2 : Hp} (a : Ed S H H1) (b : Ed [] H1 H2) : Ed S H H2 := a.trans b fun _ z => nomatch z
theorem Ed.one {S : List Addr} {H H1 H2 : Hp} {p : Addr} (a : Ed S H H1) (b : Ed [p] H1 H2) (h : p ∈ S ∨ H p = none) : Ed S H H2 :=
  a.trans b fun x z => by rw [List.mem_singleton.mp z]; exact h
theorem Ed.same {H H' : Hp} (e : Ed [] H H') : Same H H' := fun a o h => e.keep a o (fun z => nomatch z) h
theorem Ed.at0 {H H' : Hp} {a : Addr} {o : HO} (e : Ed [] H H') (h : H a = some o) : H' a = some o := e.keep a o (fun z => nomatch z) h
theorem Ed.at1 {H H' : Hp} {a p : Addr} {o : HO} (e : Ed [p] H H') (n : a ≠ p) (h : H a = some o) : H' a = some o := e.keep a o (fun z => n (List.mem_singleton.mp z)) h
theorem Ed.at2 {H H' : Hp} {a p q : Addr} {o : HO} (e : Ed [p, q] H H') (n : a ≠ p) (m : a ≠ q) (h : H a = some o) : H' a = some o := e.keep a o (fun z => by
  rcases List.mem_cons.mp z with z | z
  · exact n z
  · exact m (List.mem_singleton.mp z)) h
theorem Ed.rdt {S : List Addr} {H H' : Hp} {a : Addr} {xs : List V} (e : Ed S H H') (h : Rd H a (.tup xs)) : Rd H' a (.tup xs) := by
  rcases h with h | ⟨o, h⟩
  · exact .inl (e.tup _ _ h)
  · exact .inr ⟨o, e.frz _ _ _ h⟩
theorem Ed.sqt {K : PySem.W.Frag} {S : List Addr} {H H' : Hp} {a : Addr} {xs : List V} (e : Ed S H H') (h : SqT K H a xs) : SqT K H' a xs := by
  rcases h with h | h
  · exact .inl (e.rdt h)
  · exact .inr h
theorem Ed.sql {K : PySem.W.Frag} {S : List Addr} {H H' : Hp} {a : Addr} {xs : List V} (e : Ed S H H') (n : a ∉ S) (h : SqL K H a xs) : SqL K H' a xs := by
  rcases h with (h | ⟨o, h⟩) | h
  · exact .inl (.inl (e.keep _ _ n h))
  · exact .inl (.inr ⟨o, e.frz _ _ _ h⟩)
  · exact .inr h
theorem Ed.sql0 {K : PySem.W.Frag} {H H' : Hp} {a : Addr} {xs : List V} (e : Ed [] H H') (h : SqL K H a xs) : SqL K H' a xs := e.sql (fun z => nomatch z) h
theorem Ed.sql1 {K : PySem.W.Frag} {H H' : Hp} {a p : Addr} {xs : List V} (e : Ed [p] H H') (n : a ≠ p) (h : SqL K H a xs) : SqL K H' a xs := e.sql (fun z => n (List.mem_singleton.mp z)) h
/-- a list that is read; p holds no list -/
theorem Ed.sqlk {K : PySem.W.Frag} {H H' : Hp} {a p : Addr} {o : HO} {xs : List V} (e : Ed [p] H H') (hp : H p = some o) (n : ∀ ys, o ≠ .lst ys) (h : SqL K H a xs) : SqL K H' a xs := by
  rcases h with (h | ⟨ob, h⟩) | h
  · exact .inl (.inl (e.keep _ _ (fun z => by rw [List.mem_singleton.mp z, hp] at h; cases h; exact n xs rfl) h))
  · exact .inl (.inr ⟨ob, e.frz _ _ _ h⟩)
  · exact .inr h

/-! ### data stay -/
mutual
theorem Dp.ed {K : PySem.W.Frag} {S : List Addr} {H H' : Hp} (e : Ed S H H') (hS : ∀ a ∈ S, ∀ xs, H a ≠ some (.lst xs)) : ∀ (d : PyData) (v : V), Dp K H v d → Dp K H' v d
  | .none, _, h => by cases h; exact .non
  | .bool b, _, h => by cases h; exact .bl b
  | .int i, _, h => by cases h; exact .int i
  | .str x, _, h => by cases h; exact .str x
  | .list ds, _, h => by
    cases h with
    | lst ha hd =>
      refine .lst ?_ (Dp.edAll e hS ds _ hd)
      rcases ha with (ha | ⟨ob, ha⟩) | ha
      · exact .inl (.inl (e.keep _ _ (fun z => hS _ z _ ha) ha))
      · exact .inl (.inr ⟨ob, e.frz _ _ _ ha⟩)
      · exact .inr ha
  | .tuple ds, _, h => by
    cases h with
    | tup ha hd => exact .tup (e.sqt ha) (Dp.edAll e hS ds _ hd)
theorem Dp.edAll {K : PySem.W.Frag} {S : List Addr} {H H' : Hp} (e : Ed S H H') (hS : ∀ a ∈ S, ∀ xs, H a ≠ some (.lst xs)) : ∀ (ds : List PyData) (vs : List V), DpAll K H vs ds → DpAll K H' vs ds
  | [], _, h => by cases h; exact .nil
  | d :: ds, _, h => by
    cases h with
    | cons h1 h2 => exact .cons (Dp.ed e hS d _ h1) (Dp.edAll e hS ds _ h2)
end
theorem Dp.ed0 {K : PySem.W.Frag} {H H' : Hp} {d : PyData} {v : V} (e : Ed [] H H') (h : Dp K H v d) : Dp K H' v d := Dp.ed e (fun _ z => nomatch z) d v h

/-! ### readings, step by step: what is left is stated without its binders -/
section
variable {K : PySem.W.Frag} {σ : L2.St} {H : Hp} {D : Ends} {Q : VK} {QB : Bool → Hp → Prop} {QA : List V → Hp → Prop} {te ta tb : TE} {tt tu : TT} {t u : TS} {g : TG} {v x y : V} {i j : Int}
-- statements
theorem go_seq (h : t { D with nx := u D } σ H) : tSeq t u D σ H := h
theorem go_asg (h : te σ H fun x H1 => g x σ H1 D.nx) : tAsg te g D σ H := h
theorem go_drop (h : te σ H fun _ H1 => D.nx σ H1) : tDrop te D σ H := h
theorem go_ret (h : te σ H D.rt) : tRet te D σ H := h
theorem go_retN (h : D.rt .non H) : tRetN D σ H := h
theorem go_next (h : D.nx σ H) : tNext D σ H := h
theorem go_break (h : D.bk σ H) : tBreak D σ H := h
theorem go_cont (h : D.ct σ H) : tCont D σ H := h
theorem go_ifS (h : tt σ H fun b H1 => if b = true then t D σ H1 else u D σ H1) : tIfS tt t u D σ H := h
theorem go_name {n : Nat} {R : L2.St → Hp → Prop} (h : R (σ.set n (some v)) H) : gName n v σ H R := h
-- tests
theorem go_test (h : te σ H fun x H' => ∃ k, x = .bl k ∧ QB k H') : tTest te σ H QB := h
theorem go_B (h : te σ H fun x H' => ∃ k, x = .bl k ∧ QB k H') : tB te σ H QB := h
theorem go_bl {b : Bool} {R : Bool → Prop} (h : R b) : ∃ k, V.bl b = .bl k ∧ R k := ⟨b, rfl, h⟩
theorem go_notT (h : tt σ H fun c H1 => QB (!c) H1) : tNot tt σ H QB := h
theorem go_andT (h : tt σ H fun c H1 => if c = true then tu σ H1 QB else QB false H1) : tAnd tt tu σ H QB := h
theorem go_orT (h : tt σ H fun c H1 => if c = true then QB true H1 else tu σ H1 QB) : tOr tt tu σ H QB := h
theorem go_yes (h : QB true H) : tYes σ H QB := h
-- values
theorem go_var {n : Nat} (e : σ[n]? = some (some v)) (h : Q v H) : tVar n σ H Q := ⟨v, e, h⟩
theorem go_c (h : Q v H) : tC v σ H Q := h
theorem go_op {r : R2} (h : ta σ H fun x H1 => tb σ H1 fun y H2 => r x y H2 Q) : tOp r ta tb σ H Q := h
theorem go_un {r : V → Hp → VK → Prop} (h : ta σ H fun x H1 => r x H1 Q) : tUn r ta σ H Q := h
theorem go_andV (h : ta σ H fun x H1 => ∃ c, x = .bl c ∧ if c = true then tb σ H1 Q else Q (.bl false) H1) : tAndV ta tb σ H Q := h
theorem go_orV (h : ta σ H fun x H1 => ∃ c, x = .bl c ∧ if c = true then Q (.bl true) H1 else tb σ H1 Q) : tOrV ta tb σ H Q := h
theorem go_notV (h : ta σ H fun x H1 => ∃ c, x = .bl c ∧ Q (.bl (!c)) H1) : tNotV ta σ H Q := h
theorem go_blP {b : Bool} {P : Bool → Prop} (h : P b) : ∃ c, V.bl b = .bl c ∧ P c := ⟨b, rfl, h⟩
theorem go_if (h : tt σ H fun c H1 => if c = true then ta σ H1 Q else tb σ H1 Q) : tIf tt ta tb σ H Q := h
theorem go_I0 {f : Int → Int → V} (h : Q (f i j) H) : rI0 f (.int i) (.int j) H Q := ⟨i, j, rfl, rfl, h⟩
theorem go_I {C : Int → Int → Prop} {f : Int → Int → V} (hc : C i j) (h : Q (f i j) H) : rI C f (.int i) (.int j) H Q := ⟨i, j, rfl, rfl, hc, h⟩
theorem go_U {f : Int → V} (h : Q (f i) H) : rU f (.int i) H Q := ⟨i, rfl, h⟩
theorem go_eqI (h : Q (.bl (decide (i = j))) H) : rEq (.int i) (.int j) H Q := ⟨rfl, by
  have : decide (V.int i = V.int j) = decide (i = j) := by rw [Bool.eq_iff_iff]; simp
  rw [this]; exact h⟩
theorem go_neI (h : Q (.bl (!decide (i = j))) H) : rNe (.int i) (.int j) H Q := ⟨rfl, by
  have : decide (V.int i = V.int j) = decide (i = j) := by rw [Bool.eq_iff_iff]; simp
  rw [this]; exact h⟩
theorem go_eqS {a b : Str} (h : Q (.bl (decide (a = b))) H) : rEq (.str a) (.str b) H Q := ⟨rfl, by
  have : decide (V.str a = V.str b) = decide (a = b) := by rw [Bool.eq_iff_iff]; simp
  rw [this]; exact h⟩
theorem go_neS {a b : Str} (h : Q (.bl (!decide (a = b))) H) : rNe (.str a) (.str b) H Q := ⟨rfl, by
  have : decide (V.str a = V.str b) = decide (a = b) := by rw [Bool.eq_iff_iff]; simp
  rw [this]; exact h⟩
theorem go_eqB {a b : Bool} (h : Q (.bl (decide (a = b))) H) : rEq (.bl a) (.bl b) H Q := ⟨rfl, by
  have : decide (V.bl a = V.bl b) = decide (a = b) := by rw [Bool.eq_iff_iff]; simp
  rw [this]; exact h⟩
theorem go_neB {a b : Bool} (h : Q (.bl (!decide (a = b))) H) : rNe (.bl a) (.bl b) H Q := ⟨rfl, by
  have : decide (V.bl a = V.bl b) = decide (a = b) := by rw [Bool.eq_iff_iff]; simp
  rw [this]; exact h⟩
theorem go_eqg (hs : scal x y = true) (h : Q (.bl (decide (x = y))) H) : rEq x y H Q := ⟨hs, h⟩
theorem go_neg (hs : scal x y = true) (h : Q (.bl (!decide (x = y))) H) : rNe x y H Q := ⟨hs, h⟩
theorem go_cb {r : List V → Hp → VK → Prop} {ts : TA} (h : ts σ H fun vs H1 => r vs H1 Q) : tCB r ts σ H Q := h
theorem go_nil (h : QA [] H) : tNil σ H QA := h
theorem go_cons {tr : TA} (h : ta σ H fun x H1 => tr σ H1 fun xs H2 => QA (x :: xs) H2) : tCons ta tr σ H QA := h
theorem go_call {sp : Sp} {E : XK} {ts : TA} (h : ts σ H fun vs H1 => sp vs H1 Q E) : tCall sp [] E ts σ H Q := by
  unfold tCall
  simpa only [List.append_nil] using h
theorem go_tup {ts : TA} (h : ts σ H fun xs H1 => xs.length ≤ sizeLine ∧ ∀ p, H1 p = none → Q (.ref p) (upd H1 p (.tup xs))) : tTup ts σ H Q := h
theorem go_lst {ts : TA} (h : ts σ H fun xs H1 => xs.length ≤ sizeLine ∧ ∀ p, H1 p = none → Q (.ref p) (upd H1 p (.lst xs))) : tLst ts σ H Q := h
theorem go_len {xs : List V} {P : Prop} (hl : xs.length ≤ 1000) (h : P) : xs.length ≤ sizeLine ∧ P := ⟨Nat.le_of_lt (small1000 hl), h⟩
theorem go_dnew (h : ∀ p, H p = none → Q (.ref p) (upd H p (.dK []))) : tDNewK σ H Q := h
theorem go_dget (h : ta σ H fun x H1 => tb σ H1 fun y H2 => ∃ a v, x = .ref a ∧ DGet H2 a y (some v) ∧ Q v H2) : tDGet ta tb σ H Q := h
theorem go_dgetS {a : Addr} {k : Str} {kvs : List (Key × V)} {v : V} {R : V → Prop} (e : H a = some (.dK kvs)) (ev : valV kvs (.inr k) = some v) (h : R v) : ∃ a' v', V.ref a = .ref a' ∧ DGet H a' (.str k) (some v') ∧ R v' :=
  ⟨a, v, rfl, by rw [← ev]; exact DGet.k (k := .inr k) e, h⟩
theorem go_dgetI {a : Addr} {k : Int} {kvs : List (Key × V)} {v : V} {R : V → Prop} (e : H a = some (.dK kvs)) (ev : valV kvs (.inl k) = some v) (h : R v) : ∃ a' v', V.ref a = .ref a' ∧ DGet H a' (.int k) (some v') ∧ R v' :=
  ⟨a, v, rfl, by rw [← ev]; exact DGet.k (k := .inl k) e, h⟩
theorem go_din (h : ta σ H fun y H1 => tb σ H1 fun x H2 => ∃ a o, x = .ref a ∧ DGet H2 a y o ∧ Q (.bl o.isSome) H2) : tDIn ta tb σ H Q := h
theorem go_dnotin (h : ta σ H fun y H1 => tb σ H1 fun x H2 => ∃ a o, x = .ref a ∧ DGet H2 a y o ∧ Q (.bl (!o.isSome)) H2) : tDNotIn ta tb σ H Q := h
theorem go_dinI {a : Addr} {k : Int} {kvs : List (Key × V)} {P : Option V → Prop} (e : H a = some (.dK kvs)) (h : P (valV kvs (.inl k))) : ∃ a' o, V.ref a = .ref a' ∧ DGet H a' (.int k) o ∧ P o :=
  ⟨a, _, rfl, DGet.k (k := .inl k) e, h⟩
theorem go_dput {tv : TE} (h : tv σ H fun v H1 => ta σ H1 fun x H2 => tb σ H2 fun y H3 => ∃ a H4, x = .ref a ∧ DPut H3 a y v H4 ∧ D.nx σ H4) : sDPut ta tb tv D σ H := h
theorem go_dputS {a : Addr} {k : Str} {kvs : List (Key × V)} {v : V} {P : Hp → Prop} (e : H a = some (.dK kvs)) (hl : kvs.length ≤ 1000) (h : P (upd H a (.dK (putK kvs (.inr k) v)))) : ∃ a' H4, V.ref a = .ref a' ∧ DPut H a' (.str k) v H4 ∧ P H4 :=
  ⟨a, _, rfl, DPut.k (k := .inr k) e (small1000 hl), h⟩
theorem go_dputI {a : Addr} {k : Int} {kvs : List (Key × V)} {v : V} {P : Hp → Prop} (e : H a = some (.dK kvs)) (hl : kvs.length ≤ 1000) (h : P (upd H a (.dK (putK kvs (.inl k) v)))) : ∃ a' H4, V.ref a = .ref a' ∧ DPut H a' (.int k) v H4 ∧ P H4 :=
  ⟨a, _, rfl, DPut.k (k := .inl k) e (small1000 hl), h⟩
theorem go_ixL {p : Addr} {xs : List V} (hs : SqL K H p xs) (ha : atI xs i = some v) (h : Q v H) : rIxL K (.ref p) (.int i) H Q := ⟨p, xs, i, v, rfl, rfl, hs, ha, h⟩
theorem go_ixT {p : Addr} {xs : List V} (hs : SqT K H p xs) (ha : atI xs i = some v) (h : Q v H) : rIxT K (.ref p) (.int i) H Q := ⟨p, xs, i, v, rfl, rfl, hs, ha, h⟩
theorem go_ixS {z : Str} {c : Nat} (hz : z.length ≤ 1000) (ha : atI z.cps.toList i = some c) (h : Q (.str ⟨#[c]⟩) H) : rIxS (.str z) (.int i) H Q := ⟨z, i, c, rfl, rfl, Nat.le_of_lt (small1000 hz), ha, h⟩
theorem go_sl {r : V → Option Int → Option Int → Hp → VK → Prop} {tl th : TO} (h : te σ H fun x H1 => tl σ H1 fun l H2 => th σ H2 fun u H3 => r x l u H3 Q) : tSl r te tl th σ H Q := h
theorem go_nopart {QO : Option Int → Hp → Prop} (h : QO none H) : tNoPart σ H QO := h
theorem go_part {QO : Option Int → Hp → Prop} (h : te σ H fun x H1 => ∃ i, x = .int i ∧ QO (some i) H1) : tPart te σ H QO := h
theorem go_partI {P : Int → Prop} (h : P i) : ∃ j, V.int i = .int j ∧ P j := ⟨i, rfl, h⟩
theorem go_slL {p : Addr} {xs : List V} {lo hi : Option Int} (hs : SqL K H p xs) (h : ∀ q, H q = none → Q (.ref q) (upd H q (.lst (cutV xs lo hi)))) : rSlL K (.ref p) lo hi H Q := ⟨p, xs, rfl, hs, h⟩
theorem go_slS {z : Str} {lo hi : Option Int} (hz : z.length ≤ 1000) (h : Q (.str (cutS z lo hi)) H) : rSlS (.str z) lo hi H Q := ⟨z, rfl, Nat.le_of_lt (small1000 hz), h⟩
theorem go_abs {R : Int → Prop} (h : R i) : ∃ j, [V.int i] = [.int j] ∧ R j := ⟨i, rfl, h⟩
theorem go_int1 {R : Int → Prop} {R' : Bool → Prop} (h : R i) : (∃ j, [V.int i] = [.int j] ∧ R j) ∨ ∃ k, [V.int i] = [.bl k] ∧ R' k := .inl ⟨i, rfl, h⟩
theorem go_int1b {k : Bool} {R : Int → Prop} {R' : Bool → Prop} (h : R' k) : (∃ j, [V.bl k] = [.int j] ∧ R j) ∨ ∃ k', [V.bl k] = [.bl k'] ∧ R' k' := .inr ⟨k, rfl, h⟩
theorem go_bm {T : String} {r : V → List V → Hp → VK → Prop} {to : TE} {ts : TA} (h : to σ H fun x H1 => tyV K T x H1 ∧ ts σ H1 fun xs H2 => r x xs H2 Q) : tBM K T r to ts σ H Q := h
theorem go_bm0 {T : String} {r : V → List V → Hp → VK → Prop} {to : TE} (h : to σ H fun x H1 => tyV K T x H1 ∧ r x [] H1 Q) : tBM0 K T r to σ H Q := h
theorem go_tyL {p : Addr} {xs : List V} {P : Prop} (e : SqL K H p xs) (h : P) : tyV K "list" (.ref p) H ∧ P := ⟨.inl ⟨rfl, xs, e⟩, h⟩
theorem go_append {p : Addr} {xs : List V} (e : H p = some (.lst xs)) (hl : xs.length ≤ 1000) (h : Q .non (upd H p (.lst (xs ++ [v])))) : rAppend (.ref p) [v] H Q := ⟨p, xs, v, rfl, rfl, e, small1000 hl, h⟩
theorem go_lenL {p : Addr} {xs : List V} {R : List V → Prop} (e : SqL K H p xs) (h : R xs) : ∃ q ys, [V.ref p] = [.ref q] ∧ (SqL K H q ys ∨ SqT K H q ys) ∧ R ys := ⟨p, xs, rfl, .inl e, h⟩
theorem go_lenT {p : Addr} {xs : List V} {R : List V → Prop} (e : SqT K H p xs) (h : R xs) : ∃ q ys, [V.ref p] = [.ref q] ∧ (SqL K H q ys ∨ SqT K H q ys) ∧ R ys := ⟨p, xs, rfl, .inr e, h⟩
theorem go_for {wi : TI} (h : wi σ H fun J H1 => ∃ W : Nat → Nat → L2.St → Hp → Prop, (∃ m, W 0 m σ H1) ∧ ∀ i m σ H, W i m σ H →
  (J.stop i H ∧ D.nx σ H) ∨ (J.go i H ∧ ∃ N : L2.St → Hp → Prop, (∀ σ' H', N σ' H' → ∃ m', m' < m ∧ W (i + 1) m' σ' H') ∧ ∀ x H', J.yld i H x H' → g x σ H' fun σ2 H2 => t { D with nx := N, ct := N, bk := D.nx } σ2 H2)) : tFor wi g t D σ H := h
theorem go_iList {tl : TE} {R : It → Hp → Prop} (h : tl σ H fun x H1 => ∃ a, x = .ref a ∧ (∃ xs, SqL K H1 a xs) ∧ R (Itl K a) H1) : iList K tl σ H R := h
theorem go_iTup {tl : TE} {R : It → Hp → Prop} (h : tl σ H fun x H1 => ∃ a, x = .ref a ∧ (∃ xs, SqT K H1 a xs) ∧ R (Itt K a) H1) : iTup K tl σ H R := h
theorem go_iRng1 {ts : TA} {R : It → Hp → Prop} (h : ts σ H fun vs H1 => ∃ j : Int, vs = [.int j] ∧ -(2 ^ 62) ≤ j ∧ j < 2 ^ 62 ∧ R (Itr 0 j.toNat) H1) : iRng1 ts σ H R := h
theorem go_iRng2 {ts : TA} {R : It → Hp → Prop} (h : ts σ H fun vs H1 => ∃ i j : Int, vs = [.int i, .int j] ∧ (-(2 ^ 62) ≤ i ∧ i < 2 ^ 62 ∧ -(2 ^ 62) ≤ j ∧ j < 2 ^ 62) ∧ R (Itr i (j - i).toNat) H1) : iRng2 ts σ H R := h
theorem go_iStr {tl : TE} {R : It → Hp → Prop} (h : tl σ H fun v H1 => ∃ x, v = .str x ∧ R (Its x) H1) : iStr tl σ H R := h
theorem go_lc {wi : TI} {vs : List Nat} (h : wi σ H fun J H1 => ∀ D, H1 D = none → ∃ W : Nat → Nat → Hp → Prop, (∃ m, W 0 m (upd H1 D (.lst []))) ∧ ∀ i m H, W i m H →
  (J.stop i H ∧ Q (.ref D) H) ∨ (J.go i H ∧ ∃ Nx : Hp → Prop, (∀ H', Nx H' → ∃ m', m' < m ∧ W (i + 1) m' H') ∧ ∀ x H', J.yld i H x H' → g x (wipe σ vs) H' fun σ2 H2 => wipe σ2 vs = wipe σ vs ∧ tt σ2 H2 fun b H3 =>
    if b = true then te σ2 H3 fun y H4 => ∃ acc, H4 D = some (.lst acc) ∧ acc.length < sizeLine ∧ Nx (upd H4 D (.lst (acc ++ [y]))) else Nx H3)) : tLc wi g tt te vs σ H Q := h
/-- a comprehension over n turns that give items one by one: the new list's items so far are told by Pv -/
theorem lc_by {J : It} {n : Nat} {G : Hp → Prop} {Y : Nat → Hp → V → Hp → Prop} {vs : List Nat} {R : Addr → Hp → Prop} (w : Walk J n G Y) (Pv : Addr → Nat → Hp → Prop) (h0 : ∀ D H2, H D = none → Ed [] H H2 → H2 D = some (.lst []) → Pv D 0 H2) (hG : ∀ D i H', H D = none → i ≤ n → Pv D i H' → G H')
    (hs : ∀ D i x H1 H', H D = none → i < n → Pv D i H1 → Y i H1 x H' → g x (wipe σ vs) H' fun σ2 H2 => wipe σ2 vs = wipe σ vs ∧ tt σ2 H2 fun b H3 =>
      if b = true then te σ2 H3 fun y H4 => ∃ acc, H4 D = some (.lst acc) ∧ acc.length < sizeLine ∧ Pv D (i + 1) (upd H4 D (.lst (acc ++ [y]))) else Pv D (i + 1) H3) (hd : ∀ D H', H D = none → Pv D n H' → R D H') :
    ∀ D, H D = none → ∃ W : Nat → Nat → Hp → Prop, (∃ m, W 0 m (upd H D (.lst []))) ∧ ∀ i m H, W i m H →
      (J.stop i H ∧ R D H) ∨ (J.go i H ∧ ∃ Nx : Hp → Prop, (∀ H', Nx H' → ∃ m', m' < m ∧ W (i + 1) m' H') ∧ ∀ x H', J.yld i H x H' → g x (wipe σ vs) H' fun σ2 H2 => wipe σ2 vs = wipe σ vs ∧ tt σ2 H2 fun b H3 =>
        if b = true then te σ2 H3 fun y H4 => ∃ acc, H4 D = some (.lst acc) ∧ acc.length < sizeLine ∧ Nx (upd H4 D (.lst (acc ++ [y]))) else Nx H3) := fun D nD =>
  lc_it w (Pv D) (h0 D _ nD (Ed.new nD) upd_same) (fun i H' hi p => hG D i H' nD hi p) (fun i x H1 H' hi p y => hs D i x H1 H' nD hi p y) (fun H' p => hd D H' nD p)
/-- list(xs) -/
theorem go_listL {p : Addr} {xs : List V} {R : List V → Prop} (e : SqL K H p xs) (h : R xs) : ∃ q ys, [V.ref p] = [.ref q] ∧ (SqL K H q ys ∨ SqT K H q ys) ∧ R ys := ⟨p, xs, rfl, .inl e, h⟩
theorem go_disp {trs : List (TE × TE)} (h : ∀ p, H p = none → tPairs trs σ (upd H p (.dK [])) fun ps H2 => H2 p = some (.dK []) ∧ ∃ kvs : List (Key × V), ps = kvs.map (fun kv => (kV kv.1, kv.2)) ∧ kvs.length ≤ 15 ∧ Q (.ref p) (upd H2 p (.dK (mergeK [] kvs)))) : tDisp trs σ H Q := h
theorem go_pairs {tk tv : TE} {trs : List (TE × TE)} {R : List (V × V) → Hp → Prop} (h : tk σ H fun k H1 => tv σ H1 fun v H2 => tPairs trs σ H2 fun ps H3 => R ((k, v) :: ps) H3) : tPairs ((tk, tv) :: trs) σ H R := h
theorem go_pairs0 {R : List (V × V) → Hp → Prop} (h : R [] H) : tPairs [] σ H R := h
/-- a new object, by name -/
theorem alloc {p : Addr} {o : HO} {H2 : Hp} (hu : upd H p o = H2) (h : H p = none) : Ed [] H H2 ∧ H2 p = some o := by subst hu; exact ⟨Ed.new h, upd_same⟩
/-- an object changed, by name -/
theorem chg {p : Addr} {o u : HO} {H2 : Hp} (hu : upd H p o = H2) (h : H p = some u) (m : Mut (some u) := by trivial) : Ed [p] H H2 ∧ H2 p = some o := by subst hu; exact ⟨Ed.mut h m, upd_same⟩
-- ifs
theorem go_ite {c : Prop} [Decidable c] {A B : Prop} (h1 : c → A) (h2 : ¬ c → B) : if decide c = true then A else B := by
  by_cases h : c
  · rw [if_pos (decide_eq_true h)]; exact h1 h
  · rw [if_neg (fun z => h (of_decide_eq_true z))]; exact h2 h
theorem go_iten {c : Prop} [Decidable c] {A B : Prop} (h1 : ¬ c → A) (h2 : c → B) : if (!decide c) = true then A else B := by
  by_cases h : c
  · rw [decide_eq_true h]; exact iteF (h2 h)
  · rw [decide_eq_false h]; exact iteT (h1 h)
theorem go_iteb {b : Bool} {A B : Prop} (h1 : b = true → A) (h2 : b = false → B) : if b = true then A else B := by
  cases b with
  | true => exact iteT (h1 rfl)
  | false => exact iteF (h2 rfl)
theorem go_itebn {b : Bool} {A B : Prop} (h1 : b = false → A) (h2 : b = true → B) : if (!b) = true then A else B := by
  cases b with
  | true => exact iteF (h2 rfl)
  | false => exact iteT (h1 rfl)
end

/-! ### distinct places -/
theorem ne1 {H : Hp} {a b : Addr} {o : HO} (h' : H b = none) (h : H a = some o) : a ≠ b := ne_of_none h h'
theorem ne2 {H : Hp} {a b : Addr} {o : HO} (h' : H a = none) (h : H b = some o) : a ≠ b := (ne_of_none h h').symm
theorem nek {H : Hp} {a b : Addr} {o u : HO} (h : H a = some o) (h' : H b = some u) (d : o ≠ u) : a ≠ b := ne_of h h' d
theorem Ed.ex' {S : List Addr} {H H1 H2 : Hp} (b : Ed [] H1 H2) (a : Ed S H H1) : Ed S H H2 := a.ex b
theorem Ed.one' {S : List Addr} {H H1 H2 : Hp} {p : Addr} (b : Ed [p] H1 H2) (a : Ed S H H1) (h : p ∈ S ∨ H p = none) : Ed S H H2 := a.one b h
theorem Ed.two' {S : List Addr} {H H1 H2 : Hp} {p q : Addr} (b : Ed [p, q] H1 H2) (a : Ed S H H1) (h : p ∈ S ∨ H p = none) (h' : q ∈ S ∨ H q = none) : Ed S H H2 :=
  a.trans b fun x z => by
    rcases List.mem_cons.mp z with z | z
    · rw [z]; exact h
    · rw [List.mem_singleton.mp z]; exact h'
theorem Ed.back {S : List Addr} {H H' : Hp} {a : Addr} (e : Ed S H H') (h : H' a = none) : H a = none := e.dom a h
theorem sqt_of {K : PySem.W.Frag} {H : Hp} {a : Addr} {xs : List V} (h : H a = some (.tup xs)) : SqT K H a xs := .inl (.inl h)
theorem go_neL {α : Type} [DecidableEq α] {a : α} {A B : Prop} (h : B) : if (!decide (a = a)) = true then A else B := by rw [decide_eq_true rfl]; exact iteF h
theorem go_eqL {α : Type} [DecidableEq α] {a : α} {A B : Prop} (h : A) : if decide (a = a) = true then A else B := by rw [decide_eq_true rfl]; exact iteT h
theorem go_nT {A B : Prop} (h : B) : if (!true) = true then A else B := iteF h
theorem go_nF {A B : Prop} (h : A) : if (!false) = true then A else B := iteT h
theorem go_iteT' {c : Prop} [Decidable c] {A B : Prop} (hc : c) (h : A) : if decide c = true then A else B := by rw [decide_eq_true hc]; exact iteT h
theorem go_iteF' {c : Prop} [Decidable c] {A B : Prop} (hc : ¬ c) (h : B) : if decide c = true then A else B := by rw [decide_eq_false hc]; exact iteF h
theorem go_itenT' {c : Prop} [Decidable c] {A B : Prop} (hc : ¬ c) (h : A) : if (!decide c) = true then A else B := by rw [decide_eq_false hc]; exact iteT h
theorem go_itenF' {c : Prop} [Decidable c] {A B : Prop} (hc : c) (h : B) : if (!decide c) = true then A else B := by rw [decide_eq_true hc]; exact iteF h
theorem go_strE {z : Str} {R : Str → Prop} (h : R z) : ∃ x, V.str z = .str x ∧ R x := ⟨z, rfl, h⟩
theorem go_sign {c : Nat} {z : Str} {R : Nat → Str → Prop} (h : R c z) : ∃ c' z', V.str ⟨#[c]⟩ = .str ⟨#[c']⟩ ∧ V.str z = .str z' ∧ R c' z' := ⟨c, z, rfl, rfl, h⟩
theorem go_lenS {z : Str} {R : Str → Prop} (l : z.length ≤ 1000) (h : R z) : ∃ x, [V.str z] = [.str x] ∧ x.length ≤ sizeLine ∧ R x := ⟨z, rfl, Nat.le_of_lt (small1000 l), h⟩
/-! ### is None -/
theorem go_isN {R : Prop} (h : R) : V.non = V.non ∧ R := ⟨rfl, h⟩
theorem go_iteN {x : V} {A B : Prop} (hx : x ≠ .non) (h : B) : if decide (x = V.non) = true then A else B := by rw [decide_eq_false hx]; exact iteF h
theorem go_iteNT {A B : Prop} (h : A) : if decide (V.non = V.non) = true then A else B := iteT h
/-! ### isinstance -/
theorem kit_int_int : kitB "int" "int" = some true := by decide +kernel
theorem kit_int_bool : kitB "int" "bool" = some false := by decide +kernel
theorem kit_int_str : kitB "int" "str" = some false := by decide +kernel
theorem kit_int_tuple : kitB "int" "tuple" = some false := by decide +kernel
theorem kit_int_list : kitB "int" "list" = some false := by decide +kernel
theorem kit_int_dict : kitB "int" "dict" = some false := by decide +kernel
theorem kit_bool_int : kitB "bool" "int" = some true := by decide +kernel
theorem kit_bool_bool : kitB "bool" "bool" = some true := by decide +kernel
theorem kit_bool_str : kitB "bool" "str" = some false := by decide +kernel
theorem kit_bool_tuple : kitB "bool" "tuple" = some false := by decide +kernel
theorem kit_bool_list : kitB "bool" "list" = some false := by decide +kernel
theorem kit_bool_dict : kitB "bool" "dict" = some false := by decide +kernel
theorem kit_str_int : kitB "str" "int" = some false := by decide +kernel
theorem kit_str_bool : kitB "str" "bool" = some false := by decide +kernel
theorem kit_str_str : kitB "str" "str" = some true := by decide +kernel
theorem kit_str_tuple : kitB "str" "tuple" = some false := by decide +kernel
theorem kit_str_list : kitB "str" "list" = some false := by decide +kernel
theorem kit_str_dict : kitB "str" "dict" = some false := by decide +kernel
theorem kit_NoneType_int : kitB "NoneType" "int" = some false := by decide +kernel
theorem kit_NoneType_bool : kitB "NoneType" "bool" = some false := by decide +kernel
theorem kit_NoneType_str : kitB "NoneType" "str" = some false := by decide +kernel
theorem kit_NoneType_tuple : kitB "NoneType" "tuple" = some false := by decide +kernel
theorem kit_NoneType_list : kitB "NoneType" "list" = some false := by decide +kernel
theorem kit_NoneType_dict : kitB "NoneType" "dict" = some false := by decide +kernel
theorem kit_list_int : kitB "list" "int" = some false := by decide +kernel
theorem kit_list_bool : kitB "list" "bool" = some false := by decide +kernel
theorem kit_list_str : kitB "list" "str" = some false := by decide +kernel
theorem kit_list_tuple : kitB "list" "tuple" = some false := by decide +kernel
theorem kit_list_list : kitB "list" "list" = some true := by decide +kernel
theorem kit_list_dict : kitB "list" "dict" = some false := by decide +kernel
theorem kit_tuple_int : kitB "tuple" "int" = some false := by decide +kernel
theorem kit_tuple_bool : kitB "tuple" "bool" = some false := by decide +kernel
theorem kit_tuple_str : kitB "tuple" "str" = some false := by decide +kernel
theorem kit_tuple_tuple : kitB "tuple" "tuple" = some true := by decide +kernel
theorem kit_tuple_list : kitB "tuple" "list" = some false := by decide +kernel
theorem kit_tuple_dict : kitB "tuple" "dict" = some false := by decide +kernel
theorem kit_dict_int : kitB "dict" "int" = some false := by decide +kernel
theorem kit_dict_bool : kitB "dict" "bool" = some false := by decide +kernel
theorem kit_dict_str : kitB "dict" "str" = some false := by decide +kernel
theorem kit_dict_tuple : kitB "dict" "tuple" = some false := by decide +kernel
theorem kit_dict_list : kitB "dict" "list" = some false := by decide +kernel
theorem kit_dict_dict : kitB "dict" "dict" = some true := by decide +kernel
section
variable {K : PySem.W.Frag} {H : Hp} {Q : VK} {x : V}
theorem tyL {a : Addr} {xs : List V} (h : SqL K H a xs) : TyX K H (.ref a) (.type "list") := by
  rcases h with (h | ⟨o, h⟩) | ⟨o, _, _, h, c, _⟩
  · exact .base (.lst h)
  · exact .base (.frz h)
  · exact .kList h c
theorem tyT {a : Addr} {xs : List V} (h : SqT K H a xs) : TyX K H (.ref a) (.type "tuple") := by
  rcases h with (h | ⟨o, h⟩) | ⟨o, _, _, h, c, _⟩
  · exact .base (.tup h)
  · exact .fTuple h
  · exact .kTuple h c
theorem go_isi {n m : String} {b : Bool} (ht : TyX K H x (.type n)) (hk : kitB n m = some b) (h : Q (.bl b) H) : rIsi K [x, .ty m] H Q := ⟨x, .ty m, .type n, .type m, b, rfl, .ty m, ht, kit_ty hk, h⟩
theorem or_t {b : Bool} : (true || b) = true := rfl
theorem or_f {b : Bool} : (false || b) = b := rfl
theorem go_isiT2 {tp : Addr} {n m m' : String} {b b' c : Bool} (ht : TyX K H x (.type n)) (e : H tp = some (.tup [.ty m, .ty m'])) (hk : kitB n m = some b) (hk' : kitB n m' = some b') (hc : (b || b') = c) (h : Q (.bl c) H) : rIsiT K [x, .ref tp] H Q :=
  ⟨x, tp, _, .type n, [.type m, .type m'], b || b', rfl, e, .cons (.ty m) (.cons (.ty m') .nil), ht,
    kitAny_cons (kit_ty hk) (fun z => by subst z; exact kitAny_cons (kit_ty hk') (fun z => by subst z; exact kitAny_nil) fun z => by subst z; rfl) fun z => by subst z; rfl, by rw [hc]; exact h⟩
end
/-! ### slices -/
theorem cut_take (xs : List V) (k : Nat) : cutV xs none (some (k : Int)) = xs.take k := by
  unfold cutV
  rw [HT.sIx_nat, HT.sIx_none, List.drop_zero, Nat.sub_zero]
  rcases Nat.le_total k xs.length with h | h
  · rw [Nat.min_eq_left h]
  · rw [Nat.min_eq_right h, List.take_length, List.take_of_length_le h]
theorem cut_drop (xs : List V) (k : Nat) : cutV xs (some (k : Int)) none = xs.drop k := by
  unfold cutV
  rw [HT.sIx_nat, HT.sIx_none]
  rcases Nat.le_total k xs.length with h | h
  · rw [Nat.min_eq_left h, List.take_of_length_le (by rw [List.length_drop]; omega)]
  · rw [Nat.min_eq_right h, List.drop_of_length_le h, List.drop_length, List.take_nil]
theorem cut_mid (xs : List V) (j k : Nat) : cutV xs (some (j : Int)) (some (k : Int)) = (xs.drop j).take (k - j) := by
  unfold cutV
  rw [HT.sIx_nat, HT.sIx_nat]
  rcases Nat.le_total j xs.length with h | h
  · rw [Nat.min_eq_left h]
    rcases Nat.le_total k xs.length with h' | h'
    · rw [Nat.min_eq_left h']
    · rw [Nat.min_eq_right h', List.take_of_length_le (by rw [List.length_drop]; omega), List.take_of_length_le (by rw [List.length_drop]; omega)]
  · rw [Nat.min_eq_right h, List.drop_of_length_le h, List.drop_length, List.take_nil, List.take_nil]
/-! ### sizes -/
theorem mulw {i j : Int} (hi : i.natAbs < 2 ^ 200) (hj : j.natAbs < 2 ^ 200) : CMulW i j := wide_mul (a := 200) (b := 200) hi hj (by decide) (by decide) (by decide)
theorem divw {i j : Int} (h : 0 < j) (hj : j.natAbs < 2 ^ 200) : CDivW i j := wide_div (b := 200) h hj (by decide) (by decide)
end Vc

/-! Setn: len(set(xs)) of a list of pairwise different texts (my own; the way is HandS.Strs', which has at most one text). -/
namespace Setn
open PySem PySem.Spec PyProof.Rows L2
theorem getD_take {xs : List Str} {i : Nat} (h : i < xs.length) : xs.take (i + 1) = xs.take i ++ [xs.getD i Str.empty] := by
  rw [List.take_add_one, List.getElem?_eq_getElem h, List.getD_eq_getElem?_getD, List.getElem?_eq_getElem h]; rfl
theorem any_beq (l : List Str) (k : Str) : l.any (· == k) = decide (k ∈ l) := by
  rw [Bool.eq_iff_iff, List.any_eq_true, decide_eq_true_eq]
  constructor
  · rintro ⟨x, hx, e⟩
    have := eq_of_beq e
    subst this
    exact hx
  · exact fun h => ⟨k, h, beq_self_eq_true k⟩
/-- how many different texts stand ahead of place i -/
def cn (xs : List Str) : Nat → Nat
  | 0 => 0
  | i + 1 => if (xs.take i).any (· == xs.getD i Str.empty) = true then cn xs i else cn xs i + 1
theorem cn_le (xs : List Str) : ∀ i, cn xs i ≤ i
  | 0 => Nat.le_refl 0
  | i + 1 => by
    have := cn_le xs i
    unfold cn
    split <;> omega
theorem cn_eq {xs : List Str} : ∀ {i : Nat}, i ≤ xs.length → (cn xs i = i ↔ (xs.take i).Nodup)
  | 0, _ => by simp [cn]
  | i + 1, h => by
    have ih := cn_eq (xs := xs) (i := i) (by omega)
    have le := cn_le xs i
    rw [getD_take (by omega)]
    unfold cn
    rw [any_beq, List.nodup_append]
    by_cases hm : xs.getD i Str.empty ∈ xs.take i
    · rw [if_pos (by simpa using hm)]
      constructor
      · intro e; omega
      · rintro ⟨_, _, d⟩
        exact absurd rfl (d _ hm _ (by simp))
    · rw [if_neg (by simpa using hm)]
      constructor
      · intro e
        refine ⟨ih.mp (by omega), by simp, fun a ha b hb e => ?_⟩
        rw [List.mem_singleton] at hb
        rw [e, hb] at ha
        exact hm ha
      · rintro ⟨d, _⟩
        rw [ih.mpr d]
theorem cn_nd {xs : List Str} (h : xs.Nodup) : cn xs xs.length = xs.length := (cn_eq (Nat.le_refl _)).mpr (by rw [List.take_length]; exact h)
theorem cn_lt {xs : List Str} : cn xs xs.length < xs.length ↔ ¬ xs.Nodup := by
  have a := cn_eq (xs := xs) (Nat.le_refl _)
  rw [List.take_length] at a
  have b := cn_le xs xs.length
  constructor
  · intro h d
    have := a.mpr d
    omega
  · intro h
    have : cn xs xs.length ≠ xs.length := fun e => h (a.mp e)
    omega
section
variable {prog : Program} {w : World} {A : Around} {R : Result → Shared → Prop} {I : Addr} {fp wr : List Addr} {G : Array GenState → Array GenState → Prop} {n : Nat} {P : Nat → Value → Prop} {St : Nat → Shared → Prop}
/-- the set's own loop over different texts -/
theorem loopD (W : WalksS prog w A.in1 I fp wr G n P St) (S : Addr) (hSf : S ∉ fp) (xs : List Str) (hsz : xs.length = n) (hn : n + 1 < scanBound)
    (hval : ∀ i v, P i v → ∃ t, v = .str (xs.getD i Str.empty) t) : ∀ (k i : Nat) (s : Shared), n - i = k → i ≤ n → St i s → s.heap.SetOf (PySem.strKind prog w) S (fun k' => (xs.take i).any (· == k')) (cn xs i) →
      (∀ s', Moved (S :: wr) G s s' → s'.heap.SetOf (PySem.strKind prog w) S (fun k' => (xs.take n).any (· == k')) (cn xs n) → R (.ok (.ret .none)) s') → codeAny (model prog w) A (.builtin "set.update.loop" ⟨[.ref S, .ref I], []⟩) R s := by
  have nw : S ∉ wr := fun h => hSf (W.sub _ h)
  have sw : ∀ b ∈ wr, b ∈ S :: wr := fun b hb => List.mem_cons_of_mem _ hb
  intro k
  induction k with
  | zero =>
    intro i s hk hi st hS hR
    obtain rfl : i = n := by omega
    refine codeAny_builtin F.entry_set_update_loop ?_
    rw [Around.under_plainId F.plain_set_update_loop _]; show wpAny _ A.in1 (pyNext (.ref I) >>= _) _ _ s
    refine wpAny_bind (W.done s _ _ st fun s' hm => ?_); show wpAny _ A.in1 (ret Value.none) _ _ s'
    refine wpAny_pure (hR s' (hm.mono sw) ?_)
    obtain ⟨o, es, ep, t, ho, rest⟩ := hS; exact ⟨o, es, ep, t, hm.heap S _ nw ho, rest⟩
  | succ k ih =>
    intro i s hk hi st hS hR
    have lt : i < n := by omega
    refine codeAny_builtin F.entry_set_update_loop ?_
    rw [Around.under_plainId F.plain_set_update_loop _]; show wpAny _ A.in1 (pyNext (.ref I) >>= _) _ _ s
    refine wpAny_bind (W.item i s _ _ lt st fun v s' hP st' hm => ?_); obtain ⟨t, rfl⟩ := hval i v hP
    have hS' : s'.heap.SetOf (PySem.strKind prog w) S (fun k' => (xs.take i).any (· == k')) (cn xs i) := by
      obtain ⟨o, es, ep, tb, ho, rest⟩ := hS; exact ⟨o, es, ep, tb, hm.heap S _ nw ho, rest⟩
    show wpAny _ A.in1 (holding [Value.str (xs.getD i Str.empty) t] (setAdd S (.str (xs.getD i Str.empty) t)) >>= _) _ _ s'
    refine wpAny_bind (wpAny_holding ?_); unfold setAdd; refine wpAny_holding ?_
    refine wpAny_bind ((PySem.strKind prog w).pyHash (k := xs.getD i Str.empty) (strKind_is _ _ _ _) ?_)
    refine wpAny_setAddHashed_of (knd := PySem.strKind prog w) (s := { s' with toks := s'.toks + 1 }) (strKind_is _ _ _ _) rfl hS' (by have := cn_le xs i; omega) fun h' sb hS2 => ?_
    have hS3 : h'.SetOf (PySem.strKind prog w) S (fun k' => (xs.take (i + 1)).any (· == k')) (cn xs (i + 1)) := SetOf_congr hS2 (fun k' => by
      rw [getD_take (by omega), List.any_append]
      congr 1
      rw [any_beq, Bool.eq_iff_iff]; simp) rfl
    refine wpAny_pure ⟨plainId_quiet F.plain_set_update_loop _, ih (i + 1) _ (by omega) lt (W.frame _ s' _ _ st' (Nat.le_succ _) fun b hb o e => ?_) hS3 fun s'' hm'' hS'' => ?_⟩
    · rw [sb.2 b (fun h : b = S => hSf (h ▸ hb))]; exact e
    · refine hR s'' (Moved.trans W.gtrans ((hm.mono sw).then_heap (Nat.le_succ _) fun b o hb e => ?_) hm'') hS''
      rw [sb.2 b (fun h : b = S => hb (h ▸ List.mem_cons_self))]; exact e
end
abbrev setO (led : Bool) : Obj := { cls := .type "set", dict := none, data := .set #[] 0 (.fresh 0 0 led) }
section
variable {prog : Program} {w : World} {A : Around} {E : Value → Shared → Prop} {s : Shared}
theorem call_setD {l : Addr} {items : Array Value} {xs : List Str} {Q : Value → Shared → Prop} (hh : A.handled = none) (hl : s.heap.IsList l items) (hi : StrsAre items.toList xs) (hn1 : xs.length + 1 < scanBound)
    (h : ∀ (h' : Heap) (tk : Nat), h'.SetOf (PySem.strKind prog w) s.heap.objs.size (fun k' => (xs.take items.size).any (· == k')) (cn xs items.size) → (∀ b o, b < s.heap.objs.size → s.heap.get? b = some o → h'.get? b = some o) → Q (.ref s.heap.objs.size) { s with heap := h', toks := tk }) :
    wpAny (model prog w) A (call (.type "set") [.ref l]) Q E s := by
  obtain ⟨c, tl, hmro⟩ := PySem.F.called_set.mro
  have hmade := PySem.F.called_set.made; have hsub := PySem.F.called_set.sub
  refine wpAny_call (codeAny_of_tree ?_); show wpAny _ _ (callAny (.type "set") _) _ _ _
  refine wpAny_pure ⟨Code.quiet_builtin _ (by decide +kernel), codeAny_builtin PySem.F.entry_type_call ?_⟩; rw [Around.under_plain (weight_type_call_type "set" [.ref l] []) rfl]
  have h1 := PySem.F.called_set.notType; have h2 := PySem.F.called_set.canCreate; have hct := PySem.F.typeCall_set_1 (.ref l)
  repeat (any_goals (first | assumption | wp_step))
  refine codeAny_mono (code_set_new_1 (.ref l) (E := E) (Q₁ := fun obj s₁ => ∃ led : Bool, obj = .ref s.heap.objs.size ∧ s₁ = { s with heap := s.heap.push (setO led) }) fun led => ⟨led, rfl, rfl⟩) fun r s₁ hr => ?_
  cases r with
  | error e => exact hr
  | ok fl =>
    cases fl with
    | ret obj =>
      obtain ⟨led, rfl, rfl⟩ := hr
      have hS : (s.heap.push (setO led)).get? s.heap.objs.size = some (setO led) := Heap.get?_push_size _ rfl
      have hT : Shared.TypeIs { s with heap := s.heap.push (setO led) } (.ref s.heap.objs.size) "set" := ⟨_, hS, rfl⟩
      have hli := PySem.F.called_set.init.lookup; have hbi := PySem.F.called_set.init.bind (.ref s.heap.objs.size)
      repeat (any_goals (first | assumption | wp_step))
      refine codeAny_mono (codeAny_call_builtin (R := wants (fun r s₂ => r = .none ∧ ∃ h' tk, s₂ = { s with heap := h', toks := tk } ∧ h'.SetOf (PySem.strKind prog w) s.heap.objs.size (fun k' => (xs.take items.size).any (· == k')) (cn xs items.size) ∧
          (∀ b o, b < s.heap.objs.size → s.heap.get? b = some o → h'.get? b = some o)) E) PySem.F.called_set.init.plain PySem.F.entry_set_init (check_set_init_1 hT ?_)) fun r₂ s₂ hr₂ => ?_
      · obtain ⟨ol, hol, hcl, nl, hdl⟩ := hl
        obtain ⟨ocls, odict, odata, oslots⟩ := ol
        simp only at hcl hdl; subst hcl; subst hdl
        have hol' : (s.heap.push (setO led)).get? l = some { cls := .type "list", dict := odict, data := .seq items nl, slots := oslots } := Heap.get?_push_of_some _ hol
        have hsls := PySem.F.sub_list_set; have hslf := PySem.F.sub_list_frozenset
        have hne : (Value.type "list" == Value.type "dict") = false := by decide
        have hl1 : (s.heap.push (setO led)).IsList l items := ⟨_, hol', rfl, nl, rfl⟩
        unfold Builtin.«set.__init__» noKeywords Builtin.Frozenset.updateFrom
        generalize hPI : pyIter = PI
        wp_walk
        subst hPI
        refine wpAny_pyIter_list hl1 ?_; refine wpAny_bind (wpAny_runValue ?_)
        have ll : l < s.heap.objs.size := Heap.lt_size hol
        have h3 : A.in1.in1.in1.handled = none := by simp [hh]
        have nI : l ≠ (s.heap.push (setO led)).objs.size := by rw [Heap.size_push]; exact Nat.ne_of_lt (Nat.lt_succ_of_lt ll)
        have hSf : s.heap.objs.size ∉ [(s.heap.push (setO led)).objs.size, l] := by
          rw [Heap.size_push]; simp only [List.mem_cons, List.not_mem_nil, or_false, not_or]; exact ⟨Nat.ne_of_lt (Nat.lt_succ_self _), Nat.ne_of_gt ll⟩
        have hsz : xs.length = items.size := by rw [← StrsAre.len_eq hi, Array.length_toList]
        have hval : ∀ (i : Nat) (v : Value), items[i]? = some v → ∃ t, v = .str (xs.getD i Str.empty) t := fun i v hv => SS.strs_at hi i v (by rw [Array.getElem?_toList]; exact hv)
        refine loopD ((Walks.list h3 _ l nI items).toS) s.heap.objs.size hSf xs hsz (by rw [← hsz]; exact hn1) hval (items.size - 0) 0 _ (by omega) (Nat.zero_le _) ⟨⟨_, Heap.get?_push_size _ rfl, rfl, rfl⟩, (hl1.push _)⟩ ?hS0 ?hR
        case hS0 =>
          have hget : ((s.heap.push (setO led)).push { cls := .type "list_iterator", data := .fields #[.ref l, .int 0 0] }).get? s.heap.objs.size = some (setO led) := Heap.get?_push_of_some _ hS
          exact SetOf_congr ((setObjOf_fresh (knd := PySem.strKind prog w) led).setOf hget (by unfold scanBound; omega)) (fun _ => rfl) rfl
        case hR =>
          intro s' hm hS'
          obtain ⟨h', g', d', tk', os'⟩ := s'
          obtain rfl : g' = s.gens := hm.gens
          obtain rfl : d' = s.drawn := hm.drawn
          obtain rfl : os' = s.os := hm.os
          show wpAny _ _ _ _ _ _; refine wpAny_pure ?_; show wpAny _ _ (ret Value.none) _ _ _
          refine wpAny_pure ⟨rfl, h', tk', rfl, hS', fun b o hb e => ?_⟩
          have b1 : b ≠ s.heap.objs.size := Nat.ne_of_lt hb
          have b2 : b ≠ (s.heap.push (setO led)).objs.size := by rw [Heap.size_push]; exact Nat.ne_of_lt (Nat.lt_succ_of_lt hb)
          exact hm.heap b o (by simp only [List.mem_cons, List.not_mem_nil, or_false, not_or]; exact ⟨b1, b2⟩) (Heap.get?_push_of_some _ (Heap.get?_push_of_some _ e))
      · cases r₂ with
        | error e => exact hr₂
        | ok fl₂ =>
          cases fl₂ with
          | ret r =>
            obtain ⟨rfl, h', tk, rfl, hS', hk'⟩ := hr₂
            repeat (any_goals (first | assumption | wp_step))
            exact h _ _ hS' hk'
          | _ => exact hr₂.elim
    | _ => exact hr.elim
end
/-- len(set(xs)) of different texts -/
def tLenSetN (K : PySem.W.Frag) (ta : TE) : TE := fun σ H Q => ta σ H fun x H1 => ∃ l, ∃ xs : List Str, x = .ref l ∧ SqL K H1 l (xs.map V.str) ∧ xs.length ≤ 1000 ∧ Q (.int (cn xs xs.length)) H1
section
variable {X : Cx}
theorem pe_lenSetN {a : Expr} {ta : TE} {p p2 q pos : Pos} (hc : X.calm = true) (hg : Gl X "len") (hm : X.mg "len" = none) (hg2 : Gl X "set") (hm2 : X.mg "set" = none) (ha : PE X a ta) (na : starEach [a] X.env = (false, eval a X.env) :: starEach [] X.env := by rfl) :
    PE X (.Call (.Name "len" p) [.Call (.Name "set" p2) [a] [] q] [] pos) (tLenSetN X.K ta) := by
  refine ⟨fun pins s σ H Q I h => ?_⟩
  refine Call_ (ld_blt I hg hm boot_len ?_); refine PyProof.Rows.callWith_builtin1 (PyProof.Rows.args_cons ?_ rfl) rfl rfl
  refine Call_ (ld_blt I hg2 hm2 boot_set ?_)
  refine PyProof.Rows.callWith_type1 (PyProof.Rows.args_cons (thn (ha.run pins s σ H _ I h) fun v s1 ⟨x, H1, I1, r1, q1⟩ => PyProof.Rows.args_nil ?_) na) na rfl
  obtain ⟨l, xs, rfl, hq, hz, q1⟩ := q1
  cases r1
  obtain ⟨its, r, pl, _⟩ := I1.list hq
  have hl : its.toArray.size = xs.length := by rw [List.size_toArray, ← r.length, List.length_map]
  refine call_setD (I1.ok.hd hc) pl.isList (by simpa using strsAre_of r) (by unfold scanBound; omega) fun h' tk hS hk => ?_
  refine PyProof.Rows.args_nil ?_
  rw [hl] at hS
  obtain ⟨o, es, ep, t, ho, hex, hd, _, _, _, hf, hn⟩ := hS
  have I2 : Inv X pins σ H1 { s1 with heap := h', toks := tk } := I1.kept fun b o e => hk b o (Heap.lt_size e) e
  exact call_len_set ho hex hd hf (by rw [hn]; have := cn_le xs xs.length; omega) ⟨.int (cn xs xs.length), H1, I2.tok _, ⟨_, by rw [hn]⟩, q1⟩
end
end Setn

namespace Vc
open PySem PySem.Spec PyProof.Rows L2
section
variable {K : PySem.W.Frag} {σ : L2.St} {H : Hp} {Q : VK} {ta : TE}
theorem go_lenSet (h : ta σ H fun x H1 => ∃ l, ∃ xs : List Str, x = .ref l ∧ SqL K H1 l (xs.map V.str) ∧ xs.length ≤ 1000 ∧ Q (.int (Setn.cn xs xs.length)) H1) : Setn.tLenSetN K ta σ H Q := h
theorem go_lenSetC {a : Addr} {xs : List Str} {R : List Str → Prop} (e : SqL K H a (xs.map V.str)) (l : xs.length ≤ 1000) (h : R xs) : ∃ l', ∃ ys : List Str, V.ref a = .ref l' ∧ SqL K H l' (ys.map V.str) ∧ ys.length ≤ 1000 ∧ R ys := ⟨a, xs, rfl, e, l, h⟩
end
end Vc

/-! Vk: further readings by name: chains, classes' constants, fields, new instances, locked dicts, sorted. -/
namespace Vc
open PySem PySem.Spec PyProof.Rows L2
/-- a reading within a comprehension, told without the comprehension's own frame -/
theorem blkE {Y : Cx} {e : Expr} {t' t : TE} (h : PE Y e t') (q : t' = t) : PE Y e t := q ▸ h
theorem blkT {Y : Cx} {e : List Expr} {t' t : TT} (h : PTs Y e t') (q : t' = t) : PTs Y e t := q ▸ h
section
variable {K : PySem.W.Frag} {σ : L2.St} {H : Hp} {D : Ends} {Q : VK} {te ta tb tc tv : TE} {f : Str} {v x y : V} {i j : Int} {ts : TA} {g : TG} {t : TS} {tt : TT}
theorem go_chain {r r' : R2} (h : ta σ H fun x H1 => tb σ H1 fun y H2 => r x y H2 fun z H3 => ∃ k, z = .bl k ∧ (if k = true then tc σ H3 fun w' H4 => r' y w' H4 Q else Q (.bl false) H3)) : tChain r r' ta tb tc σ H Q := h
theorem go_cvalR (h : ta σ H fun x H1 => ∃ C mc v u, x = .ref C ∧ ClX.CRead K C mc ∧ ClX.CVal K C mc f v u ∧ Q v H1) : ClX.tCVal K ta f σ H Q := h
theorem go_cval {C : Addr} {mc u : Value} {R : V → Prop} (hr : ClX.CRead K C mc) (hv : ClX.CVal K C mc f v u) (h : R v) : ∃ C' mc' v' u', V.ref C = .ref C' ∧ ClX.CRead K C' mc' ∧ ClX.CVal K C' mc' f v' u' ∧ R v' := ⟨C, mc, v, u, rfl, hr, hv, h⟩
theorem go_fld (h : ta σ H fun x H1 => ∃ a C dx fs v, x = .ref a ∧ H1 a = some (.ins C dx fs) ∧ Cls K C ∧ NoAttr K C f ∧ fs.lookup f = some v ∧ Q v H1) : tFld K ta f σ H Q := h
theorem go_fldV {a C dx : Addr} {fs : List (Str × V)} {R : V → Prop} (e : H a = some (.ins C dx fs)) (hl : fs.lookup f = some v) (c : Cls K C) (n : NoAttr K C f) (h : R v) :
    ∃ a' C' dx' fs' v', V.ref a = .ref a' ∧ H a' = some (.ins C' dx' fs') ∧ Cls K C' ∧ NoAttr K C' f ∧ fs'.lookup f = some v' ∧ R v' := ⟨a, C, dx, fs, v, rfl, e, c, n, hl, h⟩
theorem go_sfld (h : tv σ H fun y H1 => ta σ H1 fun x H2 => ∃ a C dx fs, x = .ref a ∧ H2 a = some (.ins C dx fs) ∧ Cls K C ∧ NoAttr K C f ∧ fs.length < 1000 ∧ D.nx σ (upd H2 a (.ins C dx (putF f y fs)))) : sFld K ta tv f D σ H := h
theorem go_sfldV {a C dx : Addr} {fs : List (Str × V)} {R : Hp → Prop} (e : H a = some (.ins C dx fs)) (l : fs.length < 1000) (c : Cls K C) (n : NoAttr K C f) (h : R (upd H a (.ins C dx (putF f v fs)))) :
    ∃ a' C' dx' fs', V.ref a = .ref a' ∧ H a' = some (.ins C' dx' fs') ∧ Cls K C' ∧ NoAttr K C' f ∧ fs'.length < 1000 ∧ R (upd H a' (.ins C' dx' (putF f v fs'))) := ⟨a, C, dx, fs, rfl, e, c, n, l, h⟩
theorem go_make {C : Addr} {sp : Sp} {E : XK} (h : ts σ H fun vs H1 => ∀ x dx, H1 x = none → H1 dx = none → dx ≠ x → sp (.ref x :: vs) (upd (upd H1 dx (.own x)) x (.ins C dx [])) (fun v H2 => v = .non ∧ Q (.ref x) H2) E) : tMake C sp [] E ts σ H Q := by
  unfold tMake
  simpa only [List.append_nil] using h
theorem go_meth {C : Addr} {m : Str} {sp : Sp} {E : XK} (h : ta σ H fun x H1 => ∃ a dx fs, x = .ref a ∧ H1 a = some (.ins C dx fs) ∧ fs.lookup m = none ∧ ts σ H1 fun vs H2 => sp (x :: vs) H2 Q E) : tMeth C m sp [] E ta ts σ H Q := by
  unfold tMeth
  simpa only [List.append_nil] using h
theorem go_methV {a C dx : Addr} {fs : List (Str × V)} {m : Str} {R : Prop} (e : H a = some (.ins C dx fs)) (l : fs.lookup m = none) (h : R) : ∃ a' dx' fs', V.ref a = .ref a' ∧ H a' = some (.ins C dx' fs') ∧ fs'.lookup m = none ∧ R := ⟨a, dx, fs, rfl, e, l, h⟩
/-- a new instance, by name -/
theorem allocI {C p dx : Addr} {H2 : Hp} (hu : upd (upd H dx (.own p)) p (.ins C dx []) = H2) (np : H p = none) (nd : H dx = none) (ne : dx ≠ p) : Ed [] H H2 ∧ H2 p = some (.ins C dx []) ∧ H2 dx = some (.own p) := by
  subst hu
  have n1 : (upd H dx (.own p)) p = none := by rw [upd_ne ne.symm]; exact np
  exact ⟨(Ed.new nd).ex (Ed.new n1), upd_same, by rw [upd_ne ne]; exact upd_same⟩
theorem go_dgetIF {a : Addr} {k : Int} {o : Obj} {kvs : List (Key × V)} {R : V → Prop} (e : H a = some (.frz o (.dK kvs))) (ev : valV kvs (.inl k) = some v) (h : R v) : ∃ a' v', V.ref a = .ref a' ∧ DGet H a' (.int k) (some v') ∧ R v' :=
  ⟨a, v, rfl, .inl ⟨kvs, .inl k, .inr ⟨o, e⟩, rfl, ev.symm⟩, h⟩
theorem go_sorted {a : Addr} {ns : List Int} (e : SqL K H a (ns.map V.int)) (l : ns.length < 64) (h : ∀ (ns' : List Int) (p : Addr), ns'.Perm ns → ns'.Pairwise (· ≤ ·) → H p = none → Q (.ref p) (upd H p (.lst (ns'.map V.int)))) : rSorted K [.ref a] H Q := ⟨a, ns, rfl, e, l, h⟩
theorem go_listD {a : Addr} {kvs : List (Key × V)} (e : H a = some (.dK kvs)) (h : ∀ q, H q = none → Q (.ref q) (upd H q (.lst (kvs.map fun kv => kV kv.1)))) : rListD [.ref a] H Q := ⟨a, kvs, rfl, e, h⟩
theorem go_lenD {a : Addr} {kvs : List (Key × V)} {R : List (Key × V) → Prop} (e : H a = some (.dK kvs)) (h : R kvs) : ∃ b ls, [V.ref a] = [V.ref b] ∧ H b = some (.dK ls) ∧ R ls := ⟨a, kvs, rfl, e, h⟩
theorem go_in {a : Addr} {neg : Bool} {xs : List V} (e : SqL K H a xs ∨ SqT K H a xs) (hx : flatV x = true) (hf : xs.all flatV = true) (h : Q (.bl (if neg then !inV x xs else inV x xs)) H) : rIn K neg x (.ref a) H Q := ⟨a, xs, rfl, e, hx, hf, h⟩
theorem go_inL {a : Addr} {xs : List V} (e : SqL K H a xs) (hx : flatV x = true) (hf : xs.all flatV = true) (h : Q (.bl (inV x xs)) H) : rIn K false x (.ref a) H Q := go_in (neg := false) (.inl e) hx hf h
theorem go_inT {a : Addr} {xs : List V} (e : SqT K H a xs) (hx : flatV x = true) (hf : xs.all flatV = true) (h : Q (.bl (inV x xs)) H) : rIn K false x (.ref a) H Q := go_in (neg := false) (.inr e) hx hf h
theorem go_niL {a : Addr} {xs : List V} (e : SqL K H a xs) (hx : flatV x = true) (hf : xs.all flatV = true) (h : Q (.bl (!inV x xs)) H) : rIn K true x (.ref a) H Q := go_in (neg := true) (.inl e) hx hf h
theorem go_niT {a : Addr} {xs : List V} (e : SqT K H a xs) (hx : flatV x = true) (hf : xs.all flatV = true) (h : Q (.bl (!inV x xs)) H) : rIn K true x (.ref a) H Q := go_in (neg := true) (.inr e) hx hf h
theorem go_dc {wi : TI} {tk : TE} {vs : List Nat} (h : wi σ H fun J H1 => ∀ D, H1 D = none → ∃ W : Nat → Nat → Hp → Prop, (∃ m, W 0 m (upd H1 D (.dK []))) ∧ ∀ i m H, W i m H →
  (J.stop i H ∧ Q (.ref D) H) ∨ (J.go i H ∧ ∃ Nx : Hp → Prop, (∀ H', Nx H' → ∃ m', m' < m ∧ W (i + 1) m' H') ∧ ∀ x H', J.yld i H x H' → g x (wipe σ vs) H' fun σ2 H2 => wipe σ2 vs = wipe σ vs ∧ tt σ2 H2 fun b H3 =>
    if b = true then tk σ2 H3 fun y H4 => tv σ2 H4 fun z H5 => ∃ kvs k, y = kV k ∧ H5 D = some (.dK kvs) ∧ kvs.length < sizeLine ∧ Nx (upd H5 D (.dK (putK kvs k z))) else Nx H3)) : tDc wi g tt tk tv vs σ H Q := h
theorem go_aug {n : Nat} {ti : TIp} {x : V} (e : σ[n]? = some (some x)) (h : te σ H fun y H1 => ti x y H1 fun z H2 => D.nx (σ.set n (some z)) H2) : tAug n te ti D σ H := ⟨x, e, h⟩
theorem go_ipI {f : Int → Int → Int} (h : Q (.int (f i j)) H) : ipI f (.int i) (.int j) H Q := ⟨i, j, rfl, rfl, h⟩
theorem go_addS {a b : Str} {R : Str → Str → Prop} (l : a.length + b.length ≤ 1000) (h : R a b) : ∃ i j, V.str a = .str i ∧ V.str b = .str j ∧ i.length + j.length ≤ sizeLine ∧ R i j := ⟨a, b, rfl, rfl, Nat.le_of_lt (small1000 l), h⟩
theorem go_M1 {r : V → List V → Hp → VK → Prop} (h : ta σ H fun x H1 => (∃ a, x = .str a) ∧ tb σ H1 fun y H2 => r x [y] H2 Q) : tM1 r ta tb σ H Q := h
theorem go_M0 {r : V → List V → Hp → VK → Prop} (h : ta σ H fun x H1 => (∃ a, x = .str a) ∧ r x [] H1 Q) : tM0 r ta σ H Q := h
theorem go_isS {z : Str} {R : Prop} (h : R) : (∃ a, V.str z = .str a) ∧ R := ⟨⟨z, rfl⟩, h⟩
theorem go_join {a : Str} {p : Addr} {ys : List Str} {R : Str → List Str → Prop} (e : SqL K H p (ys.map V.str)) (l : (ys.map (·.length)).sum + ys.length * a.length ≤ 16777216) (h : R a ys) :
    ∃ a' p', ∃ zs : List Str, V.str a = .str a' ∧ [V.ref p] = [.ref p'] ∧ (SqL K H p' (zs.map V.str) ∨ SqT K H p' (zs.map V.str)) ∧ (zs.map (·.length)).sum + zs.length * a'.length ≤ 16777216 ∧ R a' zs := ⟨a, p, ys, rfl, rfl, .inl e, l, h⟩
theorem go_sub {to ti : TE} {ts : TSet} {R : L2.St → Hp → Prop} (h : to σ H fun o H1 => ti σ H1 fun i H2 => ts o i v H2 fun H3 => R σ H3) : gSub to ti ts v σ H R := h
theorem go_setL {p : Addr} {xs : List V} {k : Int} {j : Nat} {R : Hp → Prop} (e : H p = some (.lst xs)) (hj : ixN xs.length k = some j) (h : R (upd H p (.lst (xs.set j v)))) : rSetL (.ref p) (.int k) v H R := ⟨p, xs, k, j, rfl, rfl, e, hj, h⟩
theorem go_tupL {p : Addr} {xs : List V} {R : Addr → Hp → Prop} (e : SqL K H p xs) (h : ∀ l, H l = none → R l (upd H l (.tup xs))) : ∃ p' ys, [V.ref p] = [.ref p'] ∧ ((SqL K H p' ys ∧ ∀ l, H l = none → R l (upd H l (.tup ys))) ∨ (SqT K H p' ys ∧ R p' H)) := ⟨p, xs, rfl, .inl ⟨e, h⟩⟩
theorem at_m1 {xs : List V} (h : xs[xs.length - 1]? = some v) : atI xs (-1) = some v := by
  have h0 : 0 < xs.length := by
    rcases Nat.eq_zero_or_pos xs.length with e | e
    · rw [List.eq_nil_of_length_eq_zero e] at h; cases h
    · exact e
  unfold atI ixN
  rw [if_neg (by omega), if_pos (by omega)]
  have : (-1 + (xs.length : Int)).toNat = xs.length - 1 := by omega
  show xs[(-1 + (xs.length : Int)).toNat]? = some v
  rw [this]; exact h
/-- a dict comprehension over n turns that give items one by one -/
theorem dc_by {J : It} {n : Nat} {G : Hp → Prop} {Y : Nat → Hp → V → Hp → Prop} {tk : TE} {vs : List Nat} {R : Addr → Hp → Prop} (w : Walk J n G Y) (Pv : Addr → Nat → Hp → Prop) (h0 : ∀ D H2, H D = none → Ed [] H H2 → H2 D = some (.dK []) → Pv D 0 H2) (hG : ∀ D i H', H D = none → i ≤ n → Pv D i H' → G H')
    (hs : ∀ D i x H1 H', H D = none → i < n → Pv D i H1 → Y i H1 x H' → g x (wipe σ vs) H' fun σ2 H2 => wipe σ2 vs = wipe σ vs ∧ tt σ2 H2 fun b H3 =>
      if b = true then tk σ2 H3 fun y H4 => tv σ2 H4 fun z H5 => ∃ kvs k, y = kV k ∧ H5 D = some (.dK kvs) ∧ kvs.length < sizeLine ∧ Pv D (i + 1) (upd H5 D (.dK (putK kvs k z))) else Pv D (i + 1) H3) (hd : ∀ D H', H D = none → Pv D n H' → R D H') :
    ∀ D, H D = none → ∃ W : Nat → Nat → Hp → Prop, (∃ m, W 0 m (upd H D (.dK []))) ∧ ∀ i m H, W i m H →
      (J.stop i H ∧ R D H) ∨ (J.go i H ∧ ∃ Nx : Hp → Prop, (∀ H', Nx H' → ∃ m', m' < m ∧ W (i + 1) m' H') ∧ ∀ x H', J.yld i H x H' → g x (wipe σ vs) H' fun σ2 H2 => wipe σ2 vs = wipe σ vs ∧ tt σ2 H2 fun b H3 =>
        if b = true then tk σ2 H3 fun y H4 => tv σ2 H4 fun z H5 => ∃ kvs k, y = kV k ∧ H5 D = some (.dK kvs) ∧ kvs.length < sizeLine ∧ Nx (upd H5 D (.dK (putK kvs k z))) else Nx H3) := fun D nD => by
  refine ⟨fun i m H' => m = n - i ∧ i ≤ n ∧ Pv D i H', ⟨n, by simp, Nat.zero_le _, h0 D _ nD (Ed.new nD) upd_same⟩, ?_⟩
  rintro i m H1 ⟨rfl, hi, p⟩
  have q := hG D i H1 nD hi p
  by_cases hlt : i < n
  · exact .inr ⟨w.goes i H1 hlt q, Pv D (i + 1), fun H' p' => ⟨n - (i + 1), by omega, rfl, hlt, p'⟩, fun x H' y => hs D i x H1 H' nD hlt p (w.yields i H1 x H' hlt q y)⟩
  · have : i = n := by omega
    subst this
    exact .inl ⟨w.stops H1 q, hd D H1 nD p⟩
theorem putK_le {κ : Type} [DecidableEq κ] (c : List (κ × V)) (k : κ) (x : V) : (putK c k x).length ≤ c.length + 1 := by
  unfold putK
  split
  · rw [List.length_map]; omega
  · rw [List.length_append]; simp
theorem all_sqt {a : Addr} {xs : List V} (h : ∀ H, SqT K H a xs) (H : Hp) : SqT K H a xs := h H
/-! ### a dict that is locked while it is walked -/
theorem frz' {S : List Addr} {H' : Hp} {a : Addr} {o : Obj} {u : HO} (e : Ed S H H') (h : H a = some (.frz o u)) : H' a = some (.frz o u) := e.frz _ _ _ h
/-- unlocked again: d is what it was, all else as it is -/
theorem unlock {S : List Addr} {d : Addr} {u : HO} {od : Obj} {H1 H' H2 : Hp} (h : H d = some u) (m : Mut (some u)) (e1 : upd H d (.frz od u) = H1) (e2 : Ed S H1 H') (e3 : upd H' d u = H2) :
    Ed S H H2 ∧ H2 d = some u ∧ ∀ a o, a ≠ d → H' a = some o → H2 a = some o := by
  subst e1 e3
  have nf : ∀ ob w, u ≠ .frz ob w := fun ob w z => by rw [z] at m; exact m
  have nt : ∀ xs, u ≠ .tup xs := fun xs z => by rw [z] at m; exact m
  refine ⟨⟨fun a o ha e => ?_, fun a xs e => ?_, fun a ob w e => ?_, fun a e => ?_⟩, upd_same, fun a o n e => by rw [upd_ne n]; exact e⟩
  · by_cases q : a = d
    · subst q; rw [h] at e; cases e; exact upd_same
    · rw [upd_ne q]; exact e2.keep a o ha (by rw [upd_ne q]; exact e)
  · by_cases q : a = d
    · subst q; rw [h] at e; cases e; exact (nt _ rfl).elim
    · rw [upd_ne q]; exact e2.tup a xs (by rw [upd_ne q]; exact e)
  · by_cases q : a = d
    · subst q; rw [h] at e; cases e; exact (nf _ _ rfl).elim
    · rw [upd_ne q]; exact e2.frz a ob w (by rw [upd_ne q]; exact e)
  · by_cases q : a = d
    · subst q; rw [upd_same] at e; cases e
    · rw [upd_ne q] at e
      have := e2.dom a e
      rw [upd_ne q] at this; exact this
/-- for k in d -/
theorem lock_keys {n : Nat} {d : Addr} {kvs : List (Key × V)} (hv : σ[n]? = some (some (.ref d))) (hd : H d = some (.dK kvs)) (S : List Addr) (Pv : Hp → Nat → L2.St → Hp → Prop) (hE : ∀ H1 i σ' H', Pv H1 i σ' H' → Ed S H1 H')
    (h0 : ∀ H1 od, Ed [d] H H1 → H1 d = some (.frz od (.dK kvs)) → Pv H1 0 σ H1)
    (turn : ∀ H1 od i k w σ' H', Ed [d] H H1 → H1 d = some (.frz od (.dK kvs)) → H' d = some (.frz od (.dK kvs)) → kvs[i]? = some (k, w) → Pv H1 i σ' H' →
      g (kV k) σ' H' fun σ2 H2 => t { nx := Pv H1 (i + 1), ct := Pv H1 (i + 1), rt := fun v H3 => H3 d = some (.frz od (.dK kvs)) ∧ D.rt v (upd H3 d (.dK kvs)), bk := fun σ3 H3 => H3 d = some (.frz od (.dK kvs)) ∧ D.nx σ3 (upd H3 d (.dK kvs)) } σ2 H2)
    (done : ∀ H1 σ' H' H2, Ed [d] H H1 → Pv H1 kvs.length σ' H' → Ed S H H2 → H2 d = some (.dK kvs) → (∀ a o, a ≠ d → H' a = some o → H2 a = some o) → D.nx σ' H2) : tLock (tFor (iKeys (tVar n)) g t) D σ H := by
  refine ⟨d, .dK kvs, hd, trivial, fun od => ?_⟩
  generalize hu : upd H d (.frz od (.dK kvs)) = H1
  obtain ⟨e1, h1⟩ := chg hu hd
  refine ⟨_, hv, d, od, rfl, .inl ⟨kvs, h1, for_it walk_keys (Pv H1) (h0 H1 od e1 h1) (fun i σ' H' _ p => (hE _ _ _ _ p).frz _ _ _ h1) (fun i x σ' H' H2 hi p y => ?_) fun σ' H' p => ?_⟩⟩
  · obtain ⟨rfl, k, w, hk, rfl⟩ := y
    exact turn H1 od i k w σ' H2 e1 h1 ((hE _ _ _ _ p).frz _ _ _ h1) hk p
  · obtain ⟨e2, h2, k2⟩ := unlock hd trivial hu (hE _ _ _ _ p) rfl
    exact ⟨(hE _ _ _ _ p).frz _ _ _ h1, done H1 σ' H' _ e1 p e2 h2 k2⟩
/-- [e for k in d] -/
theorem lockE_keys {n : Nat} {d : Addr} {kvs : List (Key × V)} {vs : List Nat} (hv : σ[n]? = some (some (.ref d))) (hd : H d = some (.dK kvs)) (S : List Addr) (Pv : Hp → Addr → Nat → Hp → Prop) (hE : ∀ H1 L i H', Pv H1 L i H' → Ed S H1 H')
    (h0 : ∀ H1 od L H2, Ed [d] H H1 → H1 d = some (.frz od (.dK kvs)) → H1 L = none → Ed [] H1 H2 → H2 L = some (.lst []) → Pv H1 L 0 H2)
    (turn : ∀ H1 od L i k w H', Ed [d] H H1 → H1 L = none → H' d = some (.frz od (.dK kvs)) → kvs[i]? = some (k, w) → Pv H1 L i H' →
      g (kV k) (wipe σ vs) H' fun σ2 H2 => wipe σ2 vs = wipe σ vs ∧ tt σ2 H2 fun b H3 => if b = true then te σ2 H3 fun y H4 => ∃ acc, H4 L = some (.lst acc) ∧ acc.length < sizeLine ∧ Pv H1 L (i + 1) (upd H4 L (.lst (acc ++ [y]))) else Pv H1 L (i + 1) H3)
    (done : ∀ H1 L H' H2, H L = none → Pv H1 L kvs.length H' → Ed S H H2 → H2 d = some (.dK kvs) → (∀ a o, a ≠ d → H' a = some o → H2 a = some o) → Q (.ref L) H2) : tLockE (tLc (iKeys (tVar n)) g tt te vs) σ H Q := by
  refine ⟨d, .dK kvs, hd, trivial, fun od => ?_⟩
  generalize hu : upd H d (.frz od (.dK kvs)) = H1
  obtain ⟨e1, h1⟩ := chg hu hd
  refine ⟨_, hv, d, od, rfl, .inl ⟨kvs, h1, fun L nL => lc_it walk_keys (Pv H1 L) (h0 H1 od L _ e1 h1 nL (Ed.new nL) upd_same) (fun i H' _ p => (hE _ _ _ _ p).frz _ _ _ h1) (fun i x H' H2 hi p y => ?_) fun H' p => ?_⟩⟩
  · obtain ⟨rfl, k, w, hk, rfl⟩ := y
    exact turn H1 od L i k w H2 e1 nL ((hE _ _ _ _ p).frz _ _ _ h1) hk p
  · obtain ⟨e2, h2, k2⟩ := unlock hd trivial hu (hE _ _ _ _ p) rfl
    exact ⟨(hE _ _ _ _ p).frz _ _ _ h1, done H1 L H' _ (e1.dom _ nL) p e2 h2 k2⟩
/-- y = [e for k in d] -/
theorem lockA_keys {n m : Nat} {d : Addr} {kvs : List (Key × V)} {vs : List Nat} (hv : σ[n]? = some (some (.ref d))) (hd : H d = some (.dK kvs)) (S : List Addr) (Pv : Hp → Addr → Nat → Hp → Prop) (hE : ∀ H1 L i H', Pv H1 L i H' → Ed S H1 H')
    (h0 : ∀ H1 od L H2, Ed [d] H H1 → H1 d = some (.frz od (.dK kvs)) → H1 L = none → Ed [] H1 H2 → H2 L = some (.lst []) → Pv H1 L 0 H2)
    (turn : ∀ H1 od L i k w H', Ed [d] H H1 → H1 L = none → H' d = some (.frz od (.dK kvs)) → kvs[i]? = some (k, w) → Pv H1 L i H' →
      g (kV k) (wipe σ vs) H' fun σ2 H2 => wipe σ2 vs = wipe σ vs ∧ tt σ2 H2 fun b H3 => if b = true then te σ2 H3 fun y H4 => ∃ acc, H4 L = some (.lst acc) ∧ acc.length < sizeLine ∧ Pv H1 L (i + 1) (upd H4 L (.lst (acc ++ [y]))) else Pv H1 L (i + 1) H3)
    (done : ∀ H1 L H' H2, H L = none → Pv H1 L kvs.length H' → Ed S H H2 → H2 d = some (.dK kvs) → (∀ a o, a ≠ d → H' a = some o → H2 a = some o) → D.nx (σ.set m (some (.ref L))) H2) : tLock (tAsg (tLc (iKeys (tVar n)) g tt te vs) (gName m)) D σ H := by
  refine ⟨d, .dK kvs, hd, trivial, fun od => ?_⟩
  generalize hu : upd H d (.frz od (.dK kvs)) = H1
  obtain ⟨e1, h1⟩ := chg hu hd
  refine ⟨_, hv, d, od, rfl, .inl ⟨kvs, h1, fun L nL => lc_it walk_keys (Pv H1 L) (h0 H1 od L _ e1 h1 nL (Ed.new nL) upd_same) (fun i H' _ p => (hE _ _ _ _ p).frz _ _ _ h1) (fun i x H' H2 hi p y => ?_) fun H' p => ?_⟩⟩
  · obtain ⟨rfl, k, w, hk, rfl⟩ := y
    exact turn H1 od L i k w H2 e1 nL ((hE _ _ _ _ p).frz _ _ _ h1) hk p
  · obtain ⟨e2, h2, k2⟩ := unlock hd trivial hu (hE _ _ _ _ p) rfl
    exact ⟨(hE _ _ _ _ p).frz _ _ _ h1, done H1 L H' _ (e1.dom _ nL) p e2 h2 k2⟩
end
end Vc

/-! Kw: method calls with keywords (my own; the way is pe_meth's and pe_callK's). -/
namespace Vc
open PySem PySem.Spec PyProof.Rows L2
section
variable {X : Cx} {CX : CXT} {k : Nat} {f C : Addr} {fd : FuncData} {ps ks : List Str} {sp : Sp} {E : XK} {x m : Str} {p pos apos : Pos} {e o : Expr} {es : List Expr} {kws : List Keyword} {ta : TE} {t tk : TA} {g : List Value → List Value → List Value} {gV : List V → List V → List V}
theorem kbinds {K : PySem.W.Frag} {x qual : Str} {st : Stmt} (F : Fun K x qual st f fd)
    (h : ∀ (kV doc pm : Value) (an : Option Addr) (cdv ct : Value) (us ws : List Value), (g us ws).length = ps.length → bindArgs (PySem.W.fnOf x qual (defArgs st) (defBody st) (defScope st) .none kV doc pm an cdv ct) ⟨us, ks.zip ws⟩ = pure (ps.zip (g us ws)))
    (rel : ∀ {vs : List V} {us : List Value} {zs : List V} {ws : List Value}, Vals vs us → Vals zs ws → Vals (gV vs zs) (g us ws)) : KBinds K fd ps ks g gV := by
  obtain ⟨oc, od, kV, doc, pm, an, cdv, ct, osl, rfl, lk, hcd⟩ := F.ex
  exact ⟨fun s us ws _ hl => .of_eq (h kV doc pm an cdv ct us ws hl), rel⟩
def tMethK (C : Addr) (m : Str) (sp : Sp) (gV : List V → List V → List V) (E : XK) (ta : TE) (t tk : TA) : TE := fun σ H Q => ta σ H fun x H1 => ∃ a dx fs, x = .ref a ∧ H1 a = some (.ins C dx fs) ∧ fs.lookup m = none ∧ t σ H1 fun vs H2 => tk σ H2 fun zs H3 => sp (gV (x :: vs) zs) H3 Q E
/-- o.m(k = v, ..) -/
theorem pe_methK0 {pl : Sem Bool} (he : PE X o ta) (c : Cls X.K C) (hm : Meth X.K C m f) (F : FnOk X.prog X.w X.K X.mg X.base CX k f fd ps sp) (hr : Room k X.A) (hb : KBinds X.K fd ps ks g gV) (hx : Passes CX X E) (hkw : PK X kws tk)
    (hall : (backToKw pos (keywordEach kws X.env)).all (·.1.isSome) = true := by rfl) (hks : (backToKw pos (keywordEach kws X.env)).filterMap (·.1) = ks := by rfl)
    (hpl : ((backTo pos (starEach [] X.env)).any (·.1) || (backToKw pos (keywordEach kws X.env)).any (·.1.isNone)) = false := by rfl)
    (ht : eval (.Call (.Attribute o m apos) [] kws pos) X.env = (do
      let ov ← eval o X.env
      standAt apos.atName
      let (f, first) ← holding [ov] (getMethod ov m pl)
      callWith pos f first (backTo pos (starEach [] X.env)) (backToKw pos (keywordEach kws X.env))) := by rfl) :
    PE X (.Call (.Attribute o m apos) [] kws pos) (tMethK C m sp gV E ta tNil tk) := by
  refine ⟨fun pins s σ H Q I h => ?_⟩
  refine PySem.W.methodCall_KW (pl := pl) (thn (he.run pins s σ H _ I h) fun u s1 ⟨x, H1, I1, rx, a, dx, fs, ex, ea, l, q⟩ => ?_) ht
  subst ex
  obtain rfl : u = Value.ref a := rx
  refine getmeth_ok I1 ea c hm l ?_
  refine PySem.W.callWith_KW0 (first := [.ref a]) (h₀ := X.base) I.ok.mod.kin hm.kp hall (thn (hkw.run pos pins s1 σ H1 _ I1 q) fun ws s2 ⟨zs, H2, I2, rz, q2⟩ => ⟨I2.kIn, ?_⟩) hpl
  rw [hks]
  exact run_fnk (us := [.ref a]) (vs := [.ref a]) F hr hb hx I2 (.cons rfl .nil) rz q2
/-- o.m(e, .., k = v, ..) -/
theorem pe_methK {pl : Sem Bool} (he : PE X o ta) (c : Cls X.K C) (hm : Meth X.K C m f) (F : FnOk X.prog X.w X.K X.mg X.base CX k f fd ps sp) (hr : Room k X.A) (hb : KBinds X.K fd ps ks g gV) (hx : Passes CX X E) (ha : PA X (e :: es) t) (hkw : PK X kws tk)
    (hall : (backToKw pos (keywordEach kws X.env)).all (·.1.isSome) = true := by rfl) (hks : (backToKw pos (keywordEach kws X.env)).filterMap (·.1) = ks := by rfl)
    (hst : starEach (e :: es) X.env = (false, eval e X.env) :: starEach es X.env := by rfl)
    (hpl : ((backTo pos (starEach (e :: es) X.env)).any (·.1) || (backToKw pos (keywordEach kws X.env)).any (·.1.isNone)) = false := by rfl)
    (ht : eval (.Call (.Attribute o m apos) (e :: es) kws pos) X.env = (do
      let ov ← eval o X.env
      standAt apos.atName
      let (f, first) ← holding [ov] (getMethod ov m pl)
      callWith pos f first (backTo pos (starEach (e :: es) X.env)) (backToKw pos (keywordEach kws X.env))) := by rfl) :
    PE X (.Call (.Attribute o m apos) (e :: es) kws pos) (tMethK C m sp gV E ta t tk) := by
  refine ⟨fun pins s σ H Q I h => ?_⟩
  refine PySem.W.methodCall_KW (pl := pl) (thn (he.run pins s σ H _ I h) fun u s1 ⟨x, H1, I1, rx, a, dx, fs, ex, ea, l, q⟩ => ?_) ht
  subst ex
  obtain rfl : u = Value.ref a := rx
  refine getmeth_ok I1 ea c hm l ?_
  refine PySem.W.callWith_KW (first := [.ref a]) (h₀ := X.base) I.ok.mod.kin hm.kp hall (thn (ha.run pos pins s1 σ H1 _ I1 q) fun us s2 ⟨vs, H2, I2, r, q2⟩ => ?_) hpl hst
  refine thn (hkw.run pos pins s2 σ H2 _ I2 q2) fun ws s3 ⟨zs, H3, I3, rz, q3⟩ => ⟨I3.kIn, ?_⟩
  rw [hks]
  exact run_fnk (us := .ref a :: us) (vs := .ref a :: vs) F hr hb hx I3 (.cons rfl r) rz q3
end
section
variable {σ : L2.St} {H : Hp} {Q : VK} {ta : TE} {ts tk : TA} {C : Addr} {m : Str} {sp : Sp} {E : XK} {gV : List V → List V → List V}
theorem go_methK (h : ta σ H fun x H1 => ∃ a dx fs, x = .ref a ∧ H1 a = some (.ins C dx fs) ∧ fs.lookup m = none ∧ ts σ H1 fun vs H2 => tk σ H2 fun zs H3 => sp (gV (x :: vs) zs) H3 Q E) : tMethK C m sp gV E ta ts tk σ H Q := h
theorem go_callK (h : ts σ H fun vs H1 => tk σ H1 fun zs H2 => sp (gV vs zs) H2 Q E) : tCallK sp gV E ts tk σ H Q := h
end
end Vc

/-! Sup: an own exception over own classes over ValueError, whose __init__ begins super().__init__('text') (my own; ways of HandS.Call's fn_of, HandS.ExcInit and KE.KExcSuper). -/
namespace Vc
open PySem PySem.Spec PyProof.Rows L2 PySem.W
/-- a def with the free cell __class__ -/
structure SupScope (N P : List Str) (sc : Scope) : Prop where
  kind : sc.kind = .function
  co : sc.isCoroutine = false
  gen : sc.isGenerator = false
  nd : N.Nodup
  pre : N.take P.length = P
  par : ∀ x ∈ P, sc.names.lookup x = some .local
  nocell : ∀ y ∈ sc.names, y.2 ≠ .cell
  free1 : ∀ y ∈ sc.names, y.2 = .free → y.1 = "__class__"
  cls : sc.names.lookup ("__class__" : Str) = some .free
  sup : sc.names.lookup ("super" : Str) = some .globalImplicit
/-- the context of such a def's body -/
def cxS (CX : CXT) (P : Program) (w : World) (K : PySem.W.Frag) (mg : Str → Option Value) (base : Heap) (N : List Str) (qual : Str) (scope : Scope) (f : Addr) (cd : Value) (cc : Addr) (A : Around) (outer : List Env) (s : Shared) (H : Hp) (E : XK) : Cx where
  prog := P
  w := w
  K := K
  mg := mg
  base := base
  A := A.deeper (ksEnv qual scope s.heap.objs.size f cd cc)
  N := N
  s_0 := s
  H_0 := H
  env := ksEnv qual scope s.heap.objs.size f cd cc
  outer := outer
  stack := ksEnv qual scope s.heap.objs.size f cd cc :: outer
  ex := []
  calm := true
  fn := fun y => !(y == ("__class__" : Str))
  pn := []
  xe := fun e s' => wpAny (model P w) (A.deeper (ksEnv qual scope s.heap.objs.size f cd cc)) (leaving (ksEnv qual scope s.heap.objs.size f cd cc) e) (fun _ s'' => CX outer H s E e s'') (fun e' s'' => CX outer H s E e' s'') s'
theorem cell1 {x : Str} {c cc : Addr} (h : List.lookup x [(("__class__" : Str), cc)] = some c) : x = "__class__" ∧ c = cc := by
  by_cases e : (x == ("__class__" : Str)) = true
  · rw [List.lookup_cons, e] at h
    exact ⟨eq_of_beq e, (Option.some.inj h).symm⟩
  · rw [List.lookup_cons, Bool.eq_false_iff.mpr e] at h
    cases h
theorem lookup_rev : ∀ {ps : List Str} {us : List Value} {i : Nat} {y : Str} {u : Value}, ps.Nodup → ps[i]? = some y → us[i]? = some u → (ps.zip us).reverse.lookup y = some u := by
  have key : ∀ {l : List (Str × Value)} {y : Str} {u : Value}, (l.map (·.1)).Nodup → (y, u) ∈ l → l.lookup y = some u := by
    intro l
    induction l with
    | nil => intro y u _ h; cases h
    | cons p r ih =>
      intro y u nd h
      rw [List.map_cons, List.nodup_cons] at nd
      rcases List.mem_cons.mp h with e | h
      · subst e; simp [List.lookup]
      · have ne : (y == p.1) = false := by
          rw [beq_eq_false_iff_ne]
          intro e
          exact nd.1 (e ▸ List.mem_map.mpr ⟨(y, u), h, rfl⟩)
        rw [List.lookup_cons, ne]
        exact ih nd.2 h
  intro ps us i y u nd h1 h2
  refine key ?_ ?_
  · rw [List.map_reverse]
    refine List.pairwise_reverse.mpr ?_
    have h3 : ((ps.zip us).map (·.1)).Nodup := nd.sublist (by
      have : (ps.zip us).map (·.1) = ps.take us.length := by
        clear key h1 h2 nd
        induction ps generalizing us with
        | nil => simp
        | cons p r ih =>
          cases us with
          | nil => simp
          | cons u t => simp [ih]
      rw [this]
      exact List.take_sublist _ _)
    exact h3.imp fun h => h.symm
  · rw [List.mem_reverse]
    refine List.mem_iff_getElem?.mpr ⟨i, ?_⟩
    rw [List.getElem?_zip_eq_some]
    exact ⟨h1, h2⟩
theorem inv_sup {CX : CXT} {P : Program} {w : World} {K : PySem.W.Frag} {mg : Str → Option Value} {base : Heap} {N ps : List Str} {qual : Str} {scope : Scope} {f cc : Addr} {cd : Value} {A : Around} {outer : List Env} {s : Shared} {H : Hp} {E : XK} {us : List Value} {vs : List V} {h1 : Heap} {tk : Nat} {oc cv : Value} {od : Option Addr} {sl : Array (Option Value)}
    (S : SupScope N ps scope) (hd : A.handled = none) (e0 : Env0 P w K mg base A outer s H) (hl : vs.length = ps.length) (r : Vals vs us) (hcell : K.lookup cc = some ⟨oc, od, .cell (some cv), sl⟩)
    (ns : h1.Ns s.heap.objs.size (fun x => (ps.zip us).reverse.lookup x)) (hk : ∀ b o, s.heap.get? b = some o → h1.get? b = some o) :
    Inv (cxS CX P w K mg base N qual scope f cd cc A outer s H E) [] (start N vs) H { s with heap := h1, toks := tk } := by
  have hpl : ps.length ≤ N.length := by have := congrArg List.length S.pre; rw [List.length_take] at this; omega
  have hK : base.get? cc = some ⟨oc, od, .cell (some cv), sl⟩ := e0.mod.kin _ _ hcell
  have hs := e0.bs _ _ hK
  refine ⟨⟨e0.mod, S.kind, rfl, rfl, Nat.le_refl _, fun y z c h1 h2 => ?_, fun y hy => ?_, fun y c hf h => ?_, fun _ => hd, Around.frames_deeper e0.frames, .inr ⟨rfl, rfl⟩, fun b z => absurd (show b ∈ ([] : List Addr) from z) (by simp), e0.bs, e0.bsz, fun b _ _ z => absurd (show b ∈ ([] : List Addr) from z) (by simp), fun b z => absurd (show b ∈ ([] : List Addr) from z) (by simp), e0.funs, e0.frf⟩,
    rfl, e0.bare, Un.kept hk, ⟨_, ns, fun i y v h1 h2 h3 => ?_⟩, fun y c h => ?_, e0.hok.fresh (Nat.le_refl _), fun y c h => ?_, fun p hp => absurd (show p ∈ ([] : List (Addr × Obj)) from hp) (by simp), e0.hok.kept hk, ?_⟩
  · exact (cell1 h1).1.trans (cell1 h2).1.symm
  · have hy : scope.names.lookup y = some .cell ∨ scope.names.lookup y = some .free := hy
    rcases hy with hy | hy
    · exact absurd rfl (S.nocell _ (PySem.mem_of_lookup hy))
    · have := S.free1 _ (PySem.mem_of_lookup hy) rfl
      have : y = "__class__" := this
      subst this
      exact ⟨cc, by show List.lookup _ [_] = _; simp [List.lookup]⟩
  · have := (cell1 h).1
    subst this
    cases (show (!((("__class__" : Str)) == ("__class__" : Str))) = true from hf)
  · have hi : i < vs.length := by
      unfold L2.start at h2
      by_cases hi : i < vs.length
      · exact hi
      · rw [List.getElem?_append_right (by simpa using hi)] at h2
        rw [List.getElem?_replicate] at h2
        split at h2 <;> cases h2
    have ha : vs[i]? = some v := by
      unfold L2.start at h2
      rw [List.getElem?_append_left (by simpa using hi), List.getElem?_map] at h2
      cases e : vs[i]? with
      | none => rw [e] at h2; cases h2
      | some a => rw [e] at h2; cases h2; rfl
    obtain ⟨u, hu, rv⟩ := r.get ha
    have hp : ps[i]? = some y := by
      rw [← S.pre, List.getElem?_take_of_lt (by omega)]; exact h1
    have ndP : ps.Nodup := by rw [← S.pre]; exact S.nd.sublist (List.take_sublist _ _)
    exact ⟨u, rv, .inl ⟨S.par y (List.mem_of_getElem? hp), lookup_rev ndP hp hu⟩⟩
  · rw [(cell1 h).2]
    exact ⟨_, _, hk _ _ hs.1, rfl⟩
  · rw [(cell1 h).2]
    exact hs.2
  · unfold L2.start
    show _ = N.length
    rw [List.length_append, List.length_map, List.length_replicate]
    omega
section
variable {prog : Program} {w : World} {A : Around} {E : Value → Shared → Prop} {h : Heap} {g : Array GenState} {d : Drawn} {t : Nat} {os : OsState}
variable {nm q : Str} {C N : Addr} {bs bm : List Value} {hdct : Bool} {sn : List Str} {sub : List Value} {ab : Bool} {col : Option Bool} {dd : Option Addr} {k0 k1 k2 k3 k5 : Option Value}
/-- the bound ValueError.__init__ called -/
theorem call_bv {u e t0 : Addr} {rest : List Value} {Q : Value → Shared → Prop}
    (hC : h.get? C = some (excClassObj nm q C N bs bm hdct sn sub ab col dd k0 k1 k2 k3 k5 "ValueError.__new__")) (he : h.get? e = some (HandSPX.excO C t0)) (hu : h.get? u = some (kxs_mw "ValueError.__init__" e)) (hrest : rest.length ≤ sizeLine)
    (hq : ∀ h' t1, (∀ b o, b ≠ e → h.get? b = some o → h'.get? b = some o) → h'.get? e = some (HandSPX.excO C t1) → Q .none ⟨h', g, d, t, os⟩) :
    wpAny (model prog w) A (call (.ref u) rest) Q E ⟨h, g, d, t, os⟩ := by
  refine wpAny_call (codeAny_of_tree ?_)
  show wpAny _ A.in1 (callAny (.ref u) ⟨rest, []⟩) _ _ _
  simp only [callAny]
  refine wpAny_bind (wpAny_load hu ?_)
  simp only [kxs_mw, show (Value.type "method-wrapper" == Value.type "method" || Value.type "method-wrapper" == Value.type "builtin_function_or_method" || Value.type "method-wrapper" == Value.type "method-wrapper") = true by decide, if_true]
  refine W.KFB.if_so (by decide) ?_
  refine wpAny_bind (check_bound_init F.excBase_ValueError.toExcCallFacts hC he rfl ?_)
  refine wpAny_bind (wpAny_pure (wpAny_pure ?_))
  refine ⟨Code.quiet_builtin _ (by decide +kernel), codeAny_builtin F.excBase_ValueError.initEntry ?_⟩
  rw [Around.under_plainId F.excBase_ValueError.init.plain _]
  wp_walk
  refine hq _ h.objs.size (fun b o hb ho => ?_) ?_
  · rw [Heap.get?_update_other _ _ (Ne.symm hb)]
    exact Heap.get?_push_of_some _ ho
  · rw [Heap.get?_update_self _ (Heap.get?_push_of_some _ he) rfl]
    rfl
end
/-- what super() asks for in the __init__ of the class at C -/
structure SupF (P : Program) (K : PySem.W.Frag) (mg : Str → Option Value) (f cda cc C : Addr) (fd : FuncData) (sv : Str) : Prop where
  lk : ∃ oc od sl, K.lookup f = some ⟨oc, od, .func fd, sl⟩
  par : ∃ ar : Arg, (fd.params.posonlyargs ++ fd.params.args).head? = some ar ∧ ar.arg = sv
  code : ∃ ccl cdd vs ccs file tf, K.lookup cda = some ⟨ccl, cdd, .fields vs, ccs⟩ ∧ vs[2]? = some (.str file tf) ∧ ((P.main.file : Str) == file) = true
  cell : ∃ cl cld csl, K.lookup cc = some ⟨cl, cld, .cell (some (.ref C)), csl⟩
  sub : mroIn K C (.ref C) = some true
  init : ks_superIn K C C "__init__" = some (some (.builtin "ValueError.__init__"))
  subV : subIn K (.ref C) (.type "ValueError") = some true
  nosup : mg "super" = none
  noop : nsIn K cStatics "thirdparty.any" = some none
  top : (P.main.scope.names.lookup ("super" : Str)).isSome = false
section
variable {CX : CXT} {P : Program} {w : World} {K : PySem.W.Frag} {mg : Str → Option Value} {base : Heap} {N ps : List Str} {qual : Str} {scope : Scope} {f cc cda C a : Addr} {A : Around} {outer : List Env} {s0 s : Shared} {H0 H : Hp} {E0' : XK} {pins : List (Addr × Obj)} {σ : L2.St} {fd : FuncData} {sv : Str} {body : List Stmt} {p0 p1 ap cp pos spos : Pos} {x : Str} {nk : Nat} {pl : Sem Bool}
theorem sup_stmt {e : Expr} {Q : Flow → Shared → Prop} (S : SupScope N ps scope) (SF : SupF P K mg f cda cc C fd sv) (T : OexC K C) (I : Inv (cxS CX P w K mg base N qual scope f (.ref cda) cc A outer s0 H0 E0') pins σ H s) (hN : N[0]? = some sv) (hself : scope.names.lookup sv = some .local) (hσ : σ[0]? = some (some (.ref a))) (ea : H a = some (exo a C none))
    (he : PE (cxS CX P w K mg base N qual scope f (.ref cda) cc A outer s0 H0 E0') e (tC (.str x))) (h : ∀ s', Inv (cxS CX P w K mg base N qual scope f (.ref cda) cc A outer s0 H0 E0') pins σ H s' → Q .next s')
    (hi : interactive (ksEnv qual scope s0.heap.objs.size f (.ref cda) cc) = false)
    (hs : swapsWith (.Call (.Attribute (.Call (.Name "super" p0) [] [] p1) "__init__" ap) [e] [] pos) none spos.line (ksEnv qual scope s0.heap.objs.size f (.ref cda) cc) = pure false)
    (hst : starEach [e] (ksEnv qual scope s0.heap.objs.size f (.ref cda) cc) = (false, eval e (ksEnv qual scope s0.heap.objs.size f (.ref cda) cc)) :: starEach [] (ksEnv qual scope s0.heap.objs.size f (.ref cda) cc))
    (ht : eval (.Call (.Attribute (.Call (.Name "super" p0) [] [] p1) "__init__" ap) [e] [] pos) (ksEnv qual scope s0.heap.objs.size f (.ref cda) cc) = (do
      let ov ← attributeBase (.Call (.Name "super" p0) [] [] p1) "__init__" (ksEnv qual scope s0.heap.objs.size f (.ref cda) cc) (eval (.Call (.Name "super" p0) [] [] p1) (ksEnv qual scope s0.heap.objs.size f (.ref cda) cc))
      standAt ap.atName
      let (fm, first) ← holding [ov] (getMethod ov "__init__" pl)
      callWith pos fm first (backTo pos (starEach [e] (ksEnv qual scope s0.heap.objs.size f (.ref cda) cc))) (backToKw pos (keywordEach [] (ksEnv qual scope s0.heap.objs.size f (.ref cda) cc))))) :
    _root_.PySem.wpAt (model P w) (cxS CX P w K mg base N qual scope f (.ref cda) cc A outer s0 H0 E0').A (.func body (ksEnv qual scope s0.heap.objs.size f (.ref cda) cc)) (exec (.Expr (.Call (.Attribute (.Call (.Name "super" p0) [] [] p1) "__init__" ap) [e] [] pos) spos) (ksEnv qual scope s0.heap.objs.size f (.ref cda) cc)) Q (cxS CX P w K mg base N qual scope f (.ref cda) cc A outer s0 H0 E0').xe s := by
  obtain ⟨_, _, _, lkf⟩ := SF.lk
  obtain ⟨ar, hp, rfl⟩ := SF.par
  obtain ⟨_, _, vs, _, file, tf, lkc, hvs, hfile⟩ := SF.code
  obtain ⟨_, _, _, lkl⟩ := SF.cell
  have KX : K.In s.heap := I.kIn
  refine ks_wpAt_Expr_any ?_ hi hs
  refine ks_wpAt_MethodCall (pl := pl) ?_ ht
  refine ks_wpAt_super_base (env := ksEnv qual scope s0.heap.objs.size f (.ref cda) cc) S.sup S.cls (by decide) rfl (KX _ _ lkf) rfl hp rfl (KX _ _ lkc) rfl hvs hfile SF.top ?_
  obtain ⟨mb, hb1, hb2⟩ := I.mod.blt
  have hboot : bootBuiltins "super" = some (.type "super") := by decide +kernel
  refine ks_loadName_global S.kind S.sup (Calls.loadGlobal_builtin (I.mod.glob.keeps I.bk) SF.nosup (hb1.keeps I.bk) ((hb2 "super" (by decide)).trans hboot) ⟨rfl, ?_⟩)
  refine wpAny_loadName_free S.kind S.cls (c := cc) (by simp [List.lookup]) ⟨_, KX _ _ lkl, rfl⟩ ?_
  obtain ⟨m, ns, hm⟩ := id I.loc
  obtain ⟨u, ru, lu⟩ := hm 0 _ _ hN hσ (.inl hself)
  obtain rfl : u = Value.ref a := ru
  have hma : m ar.arg = some (.ref a) := by
    rcases lu with ⟨_, e⟩ | ⟨k | k, _⟩
    · exact e
    · have k : scope.names.lookup ar.arg = some .cell := k
      rw [hself] at k; cases k
    · have k : scope.names.lookup ar.arg = some .free := k
      rw [hself] at k; cases k
  refine wpAny_loadName_local S.kind hself ns hma ?_
  obtain ⟨nm, q, Nn, bs, bm, sn, sub, ab, col, dd, k0, k1, k2, k3, k5, hC, hbm⟩ := T.cls
  obtain ⟨t1, ho⟩ := exo_at I.hok ea
  have hCh := KX _ _ hC
  obtain ⟨hh, g, d, t, os⟩ := s
  refine ks_wpAny_isType_cls hCh rfl ⟨rfl, ?_⟩
  refine ks_wpAny_call_super hCh rfl ho rfl (fun c z => by cases z) (looks_mroIn KX SF.sub) fun h' hso hk => ?_
  have KX' : K.In h' := KX.keeps hk
  have hcl : clsIn K C = some { name := nm, bases := bs, mro := .ref C :: bm, ns := Nn, qualname := q, hasDict := true, slotNames := sn, subclasses := sub, abstract := ab, collection := col, hasDel := false } := by unfold clsIn; rw [hC] <;> rfl
  have IA : InstAt h' a { cls := .ref C, dict := none, data := .fields #[.ref t1, .none, .none, .none, .bool false, .none] } C none := ⟨hk _ _ ho, rfl, rfl, trivial⟩
  have hsi := SF.init
  unfold ks_superIn at hsi
  rw [hcl, Option.bind_some] at hsi
  refine kxs_getMethod kxs_ValueError hso (looks_opaque KX' SF.noop) (l₀ := .ref C :: bm) ?_ rfl KX' hsi (IA.type.andThen (looks_subIn KX' SF.subV)) (ks_ne KX' IA hcl) (by decide) ?_
  · exact fun A Q E s k q => wpAny_bind ((looks_clsIn KX' hcl) A _ E s k (wpAny_pure q))
  have hk2 : ∀ b o, hh.get? b = some o → (h'.push (kxs_mw "ValueError.__init__" a)).get? b = some o := fun b o z => Heap.get?_push_of_some _ (hk b o z)
  have I2 : Inv (cxS CX P w K mg base N qual scope f (.ref cda) cc A outer s0 H0 E0') pins σ H ⟨h'.push (kxs_mw "ValueError.__init__" a), g, d, t + 1, os⟩ := I.kept (t' := t + 1) hk2
  have hu : (h'.push (kxs_mw "ValueError.__init__" a)).get? h'.objs.size = some (kxs_mw "ValueError.__init__" a) := Heap.get?_push_at rfl rfl
  have hsz : hh.objs.size ≤ h'.objs.size := Nat.le_of_lt (Nat.lt_of_le_of_lt (Nat.le_refl _) (Heap.lt_size hso))
  have I3 := I2.pins_of (pins' := (h'.objs.size, kxs_mw "ValueError.__init__" a) :: pins) fun p hp => by
    rcases List.mem_cons.mp hp with e | hp
    · subst e
      exact ⟨hu, I.hok.fresh hsz, fun z => absurd (Nat.lt_of_lt_of_le I.lt hsz) (by have z : h'.objs.size = _ := z; rw [z]; exact Nat.lt_irrefl _), I.nofs hsz, fun v z => by cases z⟩
    · exact I2.pin p (List.mem_append_right _ hp)
  have hev := (pa_cons he pa_nil (hs := hst)).run pos _ _ σ H (fun vs H1 => vs = [.str x] ∧ H1 = H) I3 ⟨rfl, rfl⟩
  have hst2 : starEach [e] (cxS CX P w K mg base N qual scope f (.ref cda) cc A outer s0 H0 E0').env = (false, eval e (cxS CX P w K mg base N qual scope f (.ref cda) cc A outer s0 H0 E0').env) :: starEach [] (cxS CX P w K mg base N qual scope f (.ref cda) cc A outer s0 H0 E0').env := hst
  rw [hst2] at hev
  show wpAny _ _ (callWith pos (.ref h'.objs.size) [] (backTo pos (starEach [e] (ksEnv qual scope s0.heap.objs.size f (.ref cda) cc))) []) _ _ _
  rw [hst]
  refine kxs_callWith (i := "ValueError.__init__") (x := a) (by rfl) ?_
  refine PySem.Calls.evalArgs_plain (thn hev fun us s1 ⟨vs, H1, I4, r1, ev, eH⟩ => ?_)
  subst ev eH
  have hu4 := (I4.pin (h'.objs.size, kxs_mw "ValueError.__init__" a) (List.mem_append_right _ (List.mem_cons_self ..))).1
  refine ⟨hu4, ?_⟩
  have I5 : Inv (cxS CX P w K mg base N qual scope f (.ref cda) cc A outer s0 H0 E0') pins σ H1 s1 := I4.pins_of fun p hp => I4.pin p (List.mem_append_right _ (List.mem_cons_of_mem _ hp))
  have hC5 := I5.kIn _ _ hC
  obtain ⟨t5, ho5⟩ := exo_at I5.hok ea
  obtain ⟨hh5, g5, d5, tk5, os5⟩ := s1
  have hlen : us.length = 1 := by rw [← Paired.length r1]; rfl
  refine call_bv (rest := [] ++ us) hC5 ho5 hu4 (by rw [List.nil_append, hlen, sizeLine_eq]; omega) fun h6 t6 k6 hx6 => ?_
  have J := I5.write (t' := tk5) (x := a) (e := a) (o := exo a C none) (by rw [ea]; exact True.intro) (.inl rfl) k6 ⟨_, hx6⟩ (exo_ok hx6)
  have eu : upd H1 a (exo a C none) = H1 := by
    funext b
    by_cases hb : b = a
    · rw [hb, upd_same, ea]
    · rw [upd_ne hb]
  rw [eu] at J
  exact h _ J
/-- as Fun, for a def with the free cell __class__ at cc -/
structure FunS (P : Program) (K : PySem.W.Frag) (mg : Str → Option Value) (x qual : Str) (st : Stmt) (f : Addr) (fd : FuncData) (C : Addr) (sv : Str) : Prop where
  ex : ∃ (oc : Value) (od : Option Addr) (kV doc pm : Value) (an : Option Addr) (cda cc : Addr) (ct : Value) (osl : Array (Option Value)),
    fd = ksFn x qual (defArgs st) (defBody st) (defScope st) .none kV doc pm an (.ref cda) ct cc ∧ K.lookup f = some ⟨oc, od, .func fd, osl⟩ ∧ PySem.W.codeIn K (.ref cda) qual = true ∧ SupF P K mg f cda cc C fd sv
  kp : PySem.W.keepIn K (.ref f) = true
theorem FunS.ok {P : Program} {w : World} {K : PySem.W.Frag} {mg : Str → Option Value} {base : Heap} {CX : CXT} {x qual : Str} {st : Stmt} {rest : List Stmt} {f C : Addr} {fd : FuncData} {sv : Str} {N ps : List Str} {k : Nat} {sp : Sp} {e : Expr} {z : Str} {p0 p1 ap pos spos : Pos} {pl : Sem Bool}
    (F : FunS P K mg x qual st f fd C sv) (S : SupScope N ps (defScope st)) (T : OexC K C) (hb : defBody st = .Expr (.Call (.Attribute (.Call (.Name "super" p0) [] [] p1) "__init__" ap) [e] [] pos) spos :: rest) (hN : N[0]? = some sv) (hself : (defScope st).names.lookup sv = some .local)
    (len : ∀ vs H Q E, sp vs H Q E → vs.length = ps.length)
    (hE : ∀ (X : Cx), PE X e (tC (.str z)))
    (hi : ∀ L cd cc, interactive (ksEnv qual (defScope st) L f cd cc) = false)
    (hs : ∀ L cd cc, swapsWith (.Call (.Attribute (.Call (.Name "super" p0) [] [] p1) "__init__" ap) [e] [] pos) none spos.line (ksEnv qual (defScope st) L f cd cc) = pure false)
    (hst : ∀ L cd cc, starEach [e] (ksEnv qual (defScope st) L f cd cc) = (false, eval e (ksEnv qual (defScope st) L f cd cc)) :: starEach [] (ksEnv qual (defScope st) L f cd cc))
    (ht : ∀ L cd cc, eval (.Call (.Attribute (.Call (.Name "super" p0) [] [] p1) "__init__" ap) [e] [] pos) (ksEnv qual (defScope st) L f cd cc) = (do
      let ov ← attributeBase (.Call (.Name "super" p0) [] [] p1) "__init__" (ksEnv qual (defScope st) L f cd cc) (eval (.Call (.Name "super" p0) [] [] p1) (ksEnv qual (defScope st) L f cd cc))
      standAt ap.atName
      let (fm, first) ← holding [ov] (getMethod ov "__init__" pl)
      callWith pos fm first (backTo pos (starEach [e] (ksEnv qual (defScope st) L f cd cc))) (backToKw pos (keywordEach [] (ksEnv qual (defScope st) L f cd cc)))))
    (hbody : ∀ (cda cc : Addr) (A : Around) (outer : List Env) (s : Shared) (H : Hp) (vs : List V) (Q : VK) (E : XK), sp vs H Q E →
      ∃ a, vs[0]? = some (.ref a) ∧ H a = some (exo a C none) ∧ ∃ t, PSs (cxS CX P w K mg base N qual (defScope st) f (.ref cda) cc A outer s H E) rest t ∧ t { nx := fun _ H' => Q .non H', rt := Q } (start N vs) H) :
    FnOk P w K mg base CX (k + 1) f fd ps sp := by
  obtain ⟨oc, od, kV, doc, pm, an, cda, cc, ct, osl, rfl, lk, hcd, SF⟩ := F.ex
  refine ⟨len, fun A outer s H args us vs Q E hr e0 hbd r hsp => ?_⟩
  have hl := len _ _ _ _ hsp
  have KX : K.In s.heap := e0.mod.kin.keeps fun b o e => (e0.bs b o e).1
  have lim : s.heap.NoLimit := e0.mod.nolimit.keeps fun b o e => (e0.bs b o e).1
  obtain ⟨_, _, _, lkl⟩ := SF.cell
  obtain ⟨a, ha, ea, t, ht2, hq⟩ := hbody cda cc A outer s H vs Q E hsp
  refine ks_codeAny_call_defAt hr.depth (KX _ _ lk) rfl lim (PySem.W.codeRec_of KX hcd) rfl hbd S.nocell (fun y hy => S.par y.1 (List.of_mem_zip (show (y.1, y.2) ∈ _ from hy)).1) (fun h₀ hns hk => ?_) S.co S.gen S.kind
  have I : Inv (cxS CX P w K mg base N qual (defScope st) f (.ref cda) cc A outer s H E) [] (start N vs) H { s with heap := h₀, toks := s.toks + (ps.zip us).length } := inv_sup S hr.hd e0 hl r lkl hns hk
  have fin : ∀ {σ' : L2.St} {H' : Hp} {v : V} {u : Value} {s' : Shared}, Inv (cxS CX P w K mg base N qual (defScope st) f (.ref cda) cc A outer s H E) [] σ' H' s' → RelV v u → Q v H' → CE outer P w H s Q u s' :=
    fun {σ' H' v u s'} J rv q => ⟨v, H', J.os, J.bare, J.base, J.hok, rv, q⟩
  have hσ : (start N vs)[0]? = some (some (.ref a)) := by
    have h0 : 0 < vs.length := by
      rcases Nat.eq_zero_or_pos vs.length with z | z
      · rw [List.eq_nil_of_length_eq_zero z] at ha; cases ha
      · exact z
    unfold L2.start
    rw [List.getElem?_append_left (by simpa using h0), List.getElem?_map, ha]; rfl
  rw [hb]
  refine ks_wpAt_execs_cons (sup_stmt S SF T I hN hself hσ ea (hE _) (fun s' I' => ?_) (hi _ _ _) (hs _ _ _) (hst _ _ _) (ht _ _ _))
  refine wpAt_of_wpAny (wpAny_mono (ht2.run [] s' (start N vs) H _ I' hq) (fun fl s2 hs2 => ?_) fun e s' hs => hs)
  cases fl with
  | ret u =>
    obtain ⟨v, σ', H', J, rv, q⟩ := hs2
    exact fin J rv q
  | next =>
    obtain ⟨σ', H', J, q⟩ := hs2
    exact fin (v := V.non) (u := Value.none) J rfl q
  | brk =>
    obtain ⟨_, _, _, q⟩ := hs2
    exact False.elim q
  | cont =>
    obtain ⟨_, _, _, q⟩ := hs2
    exact False.elim q
/-- how its arguments bind (no defaults) -/
theorem FunS.binds {P : Program} {K : PySem.W.Frag} {mg : Str → Option Value} {x qual : Str} {st : Stmt} {f C : Addr} {fd : FuncData} {sv : Str} {ps : List Str} (F : FunS P K mg x qual st f fd C sv)
    (h : ∀ (kV doc pm : Value) (an : Option Addr) (cda cc : Addr) (ct : Value) (us : List Value), us.length = ps.length → bindArgs (ksFn x qual (defArgs st) (defBody st) (defScope st) .none kV doc pm an (.ref cda) ct cc) ⟨us, []⟩ = pure (ps.zip us)) : Binds K fd ps [] := by
  obtain ⟨oc, od, kV, doc, pm, an, cda, cc, ct, osl, rfl, lk, hcd, SF⟩ := F.ex
  exact .all (h kV doc pm an cda cc ct)
end
end Vc

/-! Exc: own errors raised with their fields, asked and read in a suite; calls of instances that may raise (my own, over HandS' rules for exceptions). -/
namespace Vc
open PySem PySem.Spec PyProof.Rows L2
/-! ### __init__ of an error with one field, with two -/
def spErr1 (C : Addr) (f : Str) : Sp := fun vs H Q _ => ∃ (a : Addr) (v : V), vs = [.ref a, v] ∧ H a = some (exo a C none) ∧ ∀ d, H d = none → d ≠ a → Q .non (upd (upd H d (exd d [(f, v)])) a (exo a C (some d)))
def spErr2 (C : Addr) (f g : Str) : Sp := fun vs H Q _ => ∃ (a : Addr) (v u : V), vs = [.ref a, v, u] ∧ H a = some (exo a C none) ∧ ∀ d, H d = none → d ≠ a → Q .non (upd (upd (upd H d (exd d [(f, v)])) a (exo a C (some d))) d (exd d [(g, u), (f, v)]))
/-- what X(v) leaves, in one word -/
theorem mk_err {C : Addr} {fs : List (Str × V)} {H1 H2 : Hp} {Q : XK} {a d : Addr} (na : H1 a = none) (nd : H1 d = none) (ne : d ≠ a) (hx : ∀ b, b ≠ a → b ≠ d → H2 b = H1 b)
    (q : ∀ d H', H1 d = none → Ed [] H1 H' → H' d = some (.xd fs) → Q (.ref C) (some d) H') : Q (.ref C) (some d) (upd (del H2 a) d (.xd fs)) := by
  have keep : ∀ b o, H1 b = some o → (upd (del H2 a) d (.xd fs)) b = some o := fun b o e => by
    have ha : b ≠ a := ne_of_none e na
    have hd : b ≠ d := ne_of_none e nd
    rw [upd_ne hd, del_ne ha, hx b ha hd]; exact e
  refine q d _ nd ⟨fun b o _ e => keep b o e, fun b xs e => keep b _ e, fun b o u e => keep b _ e, fun b e => ?_⟩ upd_same
  by_cases hd : b = d
  · rw [hd, upd_same] at e; cases e
  · rw [upd_ne hd] at e
    by_cases ha : b = a
    · rw [ha]; exact na
    · rw [del_ne ha, hx b ha hd] at e; exact e
theorem go_err1 {C : Addr} {f : Str} {v : V} {H1 : Hp} {Q : XK} (q : ∀ d H', H1 d = none → Ed [] H1 H' → H' d = some (.xd [(f, v)]) → Q (.ref C) (some d) H') :
    [v].length ≤ 1000 ∧ ∀ a, H1 a = none → spErr1 C f (.ref a :: ([v] ++ [])) (upd H1 a (exo a C none)) (fun v' H2 => v' = .non ∧ ∃ (d : Addr) (fs : List (Str × V)), H2 a = some (exo a C (some d)) ∧ H2 d = some (exd d fs) ∧ H1 d = none ∧ Q (.ref C) (some d) (upd (del H2 a) d (.xd fs))) (fun _ _ _ => False) := by
  refine ⟨by show 1 ≤ 1000; decide, fun a na => ⟨a, v, rfl, upd_same, fun d nd ne => ⟨rfl, d, [(f, v)], upd_same, ?_, ?_, ?_⟩⟩⟩
  · rw [upd_ne ne]; exact upd_same
  · rw [upd_ne ne] at nd; exact nd
  · refine mk_err na (by rw [upd_ne ne] at nd; exact nd) ne (fun b h1 h2 => ?_) q
    rw [upd_ne h1, upd_ne h2, upd_ne h1]
theorem go_err2 {C : Addr} {f g : Str} {v u : V} {H1 : Hp} {Q : XK} (q : ∀ d H', H1 d = none → Ed [] H1 H' → H' d = some (.xd [(g, u), (f, v)]) → Q (.ref C) (some d) H') :
    [v, u].length ≤ 1000 ∧ ∀ a, H1 a = none → spErr2 C f g (.ref a :: ([v, u] ++ [])) (upd H1 a (exo a C none)) (fun v' H2 => v' = .non ∧ ∃ (d : Addr) (fs : List (Str × V)), H2 a = some (exo a C (some d)) ∧ H2 d = some (exd d fs) ∧ H1 d = none ∧ Q (.ref C) (some d) (upd (del H2 a) d (.xd fs))) (fun _ _ _ => False) := by
  refine ⟨by show 2 ≤ 1000; decide, fun a na => ⟨a, v, u, rfl, upd_same, fun d nd ne => ⟨rfl, d, [(g, u), (f, v)], ?_, upd_same, ?_, ?_⟩⟩⟩
  · rw [upd_ne ne.symm]; exact upd_same
  · rw [upd_ne ne] at nd; exact nd
  · refine mk_err na (by rw [upd_ne ne] at nd; exact nd) ne (fun b h1 h2 => ?_) q
    rw [upd_ne h2, upd_ne h1, upd_ne h2, upd_ne h1]
theorem go_mkO {C : Addr} {sp : Sp} {ta : TA} {σ : L2.St} {H : Hp} {Q : XK} (h : ta σ H fun vs H1 => vs.length ≤ 1000 ∧ ∀ a, H1 a = none → sp (.ref a :: (vs ++ [])) (upd H1 a (exo a C none))
  (fun v H2 => v = .non ∧ ∃ (d : Addr) (fs : List (Str × V)), H2 a = some (exo a C (some d)) ∧ H2 d = some (exd d fs) ∧ H1 d = none ∧ Q (.ref C) (some d) (upd (del H2 a) d (.xd fs))) (fun _ _ _ => False)) : tMkO C sp [] ta σ H Q := h
/-- raise X(..) -/
theorem go_raise {t : L2.St → Hp → XK → Prop} {W : WX} {D : Ends} {σ : L2.St} {H : Hp} (h : t σ H fun cls d H' => W cls d σ H') : (fun (_ : Ends) σ H => t σ H fun cls d H' => W cls d σ H') D σ H := h
/-- self.f = e, the first; a further one -/
theorem go_ost {K : PySem.W.Frag} {f : Str} {to te : TE} {D : Ends} {σ : L2.St} {H : Hp} (h : te σ H fun y H1 => to σ H1 fun x H2 => ∃ a C : Addr, x = .ref a ∧ OexC K C ∧ PySem.W.findIn K (.ref C) f = some none ∧
  ((H2 a = some (exo a C none) ∧ ∀ dx, H2 dx = none → dx ≠ a → D.nx σ (upd (upd H2 dx (exd dx [(f, y)])) a (exo a C (some dx)))) ∨
    ∃ (dx : Addr) (fs : List (Str × V)), H2 a = some (exo a C (some dx)) ∧ H2 dx = some (exd dx fs) ∧ fs.length ≤ 900 ∧ D.nx σ (upd H2 dx (exd dx ((f, y) :: fs))))) : tOst K f to te D σ H := h
theorem err_ends1 {K : PySem.W.Frag} {C : Addr} {f : Str} {vs : List V} {H : Hp} {Q : VK} {E : XK} {N : List Str} (T : OexC K C) (no : PySem.W.findIn K (.ref C) f = some none) (h : spErr1 C f vs H Q E) :
    ∃ a, vs[0]? = some (.ref a) ∧ H a = some (exo a C none) ∧ tOst K f (tVar 0) (tVar 1) { nx := fun _ H' => Q .non H', rt := Q } (start N vs) H := by
  obtain ⟨a, v, rfl, ea, q⟩ := h
  exact ⟨a, rfl, ea, v, rfl, .ref a, rfl, a, C, rfl, T, no, .inl ⟨ea, q⟩⟩
theorem err_ends2 {K : PySem.W.Frag} {C : Addr} {f g : Str} {vs : List V} {H : Hp} {Q : VK} {E : XK} {N : List Str} (T : OexC K C) (no : PySem.W.findIn K (.ref C) f = some none) (no2 : PySem.W.findIn K (.ref C) g = some none) (h : spErr2 C f g vs H Q E) :
    ∃ a, vs[0]? = some (.ref a) ∧ H a = some (exo a C none) ∧ tSeq (tOst K f (tVar 0) (tVar 1)) (tOst K g (tVar 0) (tVar 2)) { nx := fun _ H' => Q .non H', rt := Q } (start N vs) H := by
  obtain ⟨a, v, u, rfl, ea, q⟩ := h
  refine ⟨a, rfl, ea, v, rfl, .ref a, rfl, a, C, rfl, T, no, .inl ⟨ea, fun d nd ne => ?_⟩⟩
  exact ⟨u, rfl, .ref a, rfl, a, C, rfl, T, no2, .inr ⟨d, _, upd_same, by rw [upd_ne ne]; exact upd_same, by show 1 ≤ 900; decide, q d nd ne⟩⟩
/-! ### in a suite: isinstance of the error, its fields -/
/-- at d stands the dict of the error -/
def XdAt (H : Hp) (d : Option Addr) : Prop := d = none ∨ ∃ dd fs, d = some dd ∧ H dd = some (.xd fs)
def rIsX (K : PySem.W.Frag) (a : Addr) (cls : Value) (d : Option Addr) : List V → Hp → VK → Prop := fun xs H Q => ∃ (D : Addr) (c : V) (cv : Value) (b : Bool), cls = .ref D ∧ ExcC K D ∧ XdAt H d ∧ xs = [.ref a, c] ∧ (∀ u, RelV c u → u = cv) ∧ PySem.W.kitOne K (.ref D) cv = some b ∧ Q (.bl b) H
theorem call_isX {X : Cx} {a : Addr} {cls : Value} {d : Option Addr} {oe : Obj} {pn : List (Addr × Obj)} (hz : Zc cls d oe) (hf : ∃ vs, oe.data = .fields vs) : CallR (X.suite a ((a, oe) :: pn)) (.builtin "isinstance") (rIsX X.K a cls d) := by
  intro pins s σ H xs us Q I r h
  obtain ⟨D, c, cv, b, rfl, C, hd, rfl, hcv, e, q⟩ := h
  cases r with
  | cons rx rr =>
    cases rr with
    | cons rt rr =>
      cases rr
      cases rx
      have ec := hcv _ rt
      subst ec
      obtain ⟨hget, _⟩ := I.pin (a, oe) (List.mem_append.mpr (.inl List.mem_cons_self))
      obtain ⟨vs, hv⟩ := hf
      obtain ⟨oc, od, oda, osl⟩ := oe
      obtain ⟨h1, h2⟩ := hz
      dsimp only at h1 h2 hv
      subst h1 h2 hv
      have hsome : (PySem.W.clsIn X.K D).isSome = true := by obtain ⟨cd, hc, _⟩ := PySem.W.any_some C.hd; rw [hc]; rfl
      rcases hd with hd | ⟨dd, fs, hd, hxd⟩
      · subst hd
        have J : PySem.W.InstAt s.heap a { cls := .ref D, dict := none, data := .fields vs, slots := osl } D none := ⟨hget, rfl, rfl, trivial⟩
        exact PySem.W.kia_one (PySem.W.handS_kitx_exc C.hg C.hk C.hs C.hd C.ha C.hn C.ht C.hm) I.kIn J e (fun z => nomatch z) fun tk => ⟨.bl b, H, I.kept (t' := tk) fun _ _ z => z, rfl, q⟩
      · subst hd
        have hx : ObjOk X.prog X.w H s.heap dd (.xd fs) := I.hok dd _ hxd
        obtain ⟨mA, hns, hr⟩ := hx
        obtain ⟨odo, ho, hl⟩ := lookIn_ns hns
        have J : PySem.W.InstAt s.heap a { cls := .ref D, dict := some dd, data := .fields vs, slots := osl } D (some odo) := ⟨hget, rfl, rfl, ho⟩
        exact PySem.W.kia_one (PySem.W.kitx_exc hsome C.hg C.hk C.hs C.ha C.hn C.ht C.hm) I.kIn J e (fun z => nomatch z) fun tk => ⟨.bl b, H, I.kept (t' := tk) fun _ _ z => z, rfl, q⟩
section
variable {K : PySem.W.Frag} {a D : Addr} {d : Option Addr} {H : Hp} {Q : VK} {b : Bool}
theorem go_isXC {c : Addr} (C : ExcC K D) (hd : XdAt H d) (hk : PySem.W.kitOne K (.ref D) (.ref c) = some b) (q : Q (.bl b) H) : rIsX K a (.ref D) d [.ref a, .ref c] H Q :=
  ⟨D, .ref c, .ref c, b, rfl, C, hd, rfl, fun _ r => r, hk, q⟩
theorem go_isXT {t : String} (C : ExcC K D) (hd : XdAt H d) (hk : PySem.W.kitOne K (.ref D) (.type t) = some b) (q : Q (.bl b) H) : rIsX K a (.ref D) d [.ref a, .ty t] H Q :=
  ⟨D, .ty t, .type t, b, rfl, C, hd, rfl, fun _ r => r, hk, q⟩
theorem go_xf {C : Addr} {f : Str} {te : TE} {σ : L2.St} {cls : Value} (h : te σ H fun x H1 => x = .ref a ∧ cls = .ref C ∧ ∃ (dd : Addr) (fs : List (Str × V)) (v : V), d = some dd ∧ H1 dd = some (.xd fs) ∧ fs.lookup f = some v ∧ Q v H1) : tXf a cls d C f te σ H Q := h
theorem go_xfV {f : Str} {dd : Addr} {fs : List (Str × V)} {v : V} {R : V → Prop} (e : H dd = some (.xd fs)) (l : fs.lookup f = some v) (h : R v) :
    V.ref a = .ref a ∧ (Value.ref D) = .ref D ∧ ∃ (d' : Addr) (fs : List (Str × V)) (v : V), some dd = some d' ∧ H d' = some (.xd fs) ∧ fs.lookup f = some v ∧ R v := ⟨rfl, rfl, dd, fs, v, rfl, e, l, h⟩
theorem xdAt {dd : Addr} {fs : List (Str × V)} (e : H dd = some (.xd fs)) : XdAt H (some dd) := .inr ⟨dd, fs, rfl, e⟩
end
/-! ### an instance called; what is raised is wished for at the caller's slots -/
section
variable {X : Cx} {CX : CXT} {k : Nat} {C g : Addr} {fd : FuncData} {ps ks : List Str} {sp : Sp} {E : L2.St → XK} {pos : Pos} {fe e : Expr} {es : List Expr} {tf : TE} {t tk : TA} {kws : List Keyword} {gk : List Value → List Value → List Value} {gV : List V → List V → List V}
def InsD (H : Hp) (a C : Addr) : Prop := ∃ dx fs, H a = some (.ins C dx fs)
theorem insD_at {pins : List (Addr × Obj)} {σ : L2.St} {H : Hp} {s : Shared} {a : Addr} (I : Inv X pins σ H s) (h : InsD H a C) : ∃ ox od, PySem.W.InstAt s.heap a ox C od ∧ ox.data = .plain := by
  obtain ⟨dx, fs, h⟩ := h
  obtain ⟨mA, O, _⟩ := ins_get I.hok h
  obtain ⟨od, J, _⟩ := O.look
  exact ⟨_, _, J, rfl⟩
def tCallI (C : Addr) (sp : Sp) (E : L2.St → XK) (tf : TE) (t : TA) : TE := fun σ H Q => tf σ H fun y H1 => ∃ a, y = V.ref a ∧ t σ H1 fun vs H2 => InsD H2 a C ∧ sp (V.ref a :: vs) H2 Q (E σ)
theorem run_callI {pins : List (Addr × Obj)} {σ : L2.St} {H : Hp} {s : Shared} {Q : VK} {a : Addr} {us : List Value} {vs : List V} (c : StX.CallO X.K C g) (F : FnOk X.prog X.w X.K X.mg X.base CX k g fd ps sp) (hr : Room k X.A) (hb : Binds X.K fd ps []) (hx : ∀ σ, PassesAt CX X σ (E σ)) (I : Inv X pins σ H s) (hi : InsD H a C) (r : Vals vs us)
    (h : sp (V.ref a :: vs) H Q (E σ)) : wpAny (model X.prog X.w) X.A (call (.ref a) us) (EP X pins σ Q) X.xe s := by
  obtain ⟨ox, od, J, hd⟩ := insD_at I hi
  have h2 : sp ((V.ref a :: vs) ++ []) H Q (E σ) := by rw [List.append_nil]; exact h
  have hl : (Value.ref a :: us).length = ps.length := by
    have r2 : Vals (V.ref a :: vs) (Value.ref a :: us) := .cons rfl r
    rw [← r2.length]; exact F.len _ _ _ _ h
  have hb' := hb s (.ref a :: us) I.kIn (by rw [List.append_nil]; exact hl)
  rw [List.append_nil] at hb'
  refine wpAny_call (PySem.W.kco_code I.kIn J hd c.at_ c.fn c.fi (codeAny_mono (F.run X.A X.stack s H ⟨.ref a :: us, []⟩ (.ref a :: us) (.ref a :: vs) Q (E σ) hr I.env0 hb' (.cons rfl r) h) fun r s' hq => ?_))
  cases r with
  | error e => exact hx σ pins H s e s' I hq
  | ok fl =>
    cases fl with
    | ret u => exact I.after hq
    | next => exact False.elim hq
    | brk => exact False.elim hq
    | cont => exact False.elim hq
theorem pe_callI (hf : PE X fe tf) (c : StX.CallO X.K C g) (F : FnOk X.prog X.w X.K X.mg X.base CX k g fd ps sp) (hr : Room k X.A) (hb : Binds X.K fd ps []) (hx : ∀ σ, PassesAt CX X σ (E σ)) (ha : PA X (e :: es) t)
    (ht : eval (.Call fe (e :: es) [] pos) X.env = (do callWith pos (← eval fe X.env) [] (backTo pos (starEach (e :: es) X.env)) (backToKw pos (keywordEach [] X.env))) := by rfl)
    (he : starEach (e :: es) X.env = (false, eval e X.env) :: starEach es X.env := by rfl) (hpl : (backTo pos (starEach es X.env)).any (·.1) = false := by rfl) : PE X (.Call fe (e :: es) [] pos) (tCallI C sp E tf t) := by
  refine ⟨fun pins s σ H Q I h => ?_⟩
  refine Call_ (thn (hf.run pins s σ H _ I h) fun u s1 ⟨y, H1, I1, ry, a, ey, q⟩ => ?_) ht
  subst ey
  obtain rfl : u = Value.ref a := ry
  refine StX.callO_with (thn (ha.run pos pins s1 σ H1 _ I1 q) fun us s2 ⟨vs, H2, I2, r, hi, q2⟩ => ?_) he hpl
  obtain ⟨ox, od, J, hd⟩ := insD_at I2 hi
  exact ⟨⟨C, ox, od, J, hd⟩, run_callI c F hr hb hx I2 hi r q2⟩
end
section
variable {σ : L2.St} {H : Hp} {Q : VK} {tf : TE} {ts : TA} {C : Addr} {sp : Sp} {E : L2.St → XK}
theorem go_callI (h : tf σ H fun y H1 => ∃ a, y = V.ref a ∧ ts σ H1 fun vs H2 => InsD H2 a C ∧ sp (V.ref a :: vs) H2 Q (E σ)) : tCallI C sp E tf ts σ H Q := h
theorem go_insD {a dx : Addr} {fs : List (Str × V)} {P : Prop} (e : H a = some (.ins C dx fs)) (h : P) : InsD H a C ∧ P := ⟨⟨dx, fs, e⟩, h⟩
theorem go_refE {a : Addr} {P : Addr → Prop} (h : P a) : ∃ a', V.ref a = .ref a' ∧ P a' := ⟨a, rfl, h⟩
end
/-! ### what is raised is wished for at the caller's slots: methods, instances made, keywords -/
theorem passS0 {X : Cx} {E : L2.St → XK} : ∀ σ, PassesAt CX0 X σ (E σ) := fun _ _ _ _ _ _ _ h => h.elim
theorem passSL {X : Cx} : ∀ σ, PassesAt (L2.CX X.prog X.w) X σ ((fun (_ : L2.St) => E0) σ) := fun σ pins H s e s' I h => passL pins σ H s e s' I h
section
variable {X : Cx} {CX : CXT} {k : Nat} {C f g : Addr} {fd : FuncData} {ps ks : List Str} {sp : Sp} {E : L2.St → XK} {x m : Str} {p pos apos : Pos} {fe e o : Expr} {es : List Expr} {tf ta : TE} {t tk : TA} {kws : List Keyword} {gk : List Value → List Value → List Value} {gV : List V → List V → List V}
def tMethS (C : Addr) (m : Str) (sp : Sp) (E : L2.St → XK) (ta : TE) (t : TA) : TE := fun σ H Q => ta σ H fun x H1 => ∃ a dx fs, x = .ref a ∧ H1 a = some (.ins C dx fs) ∧ fs.lookup m = none ∧ t σ H1 fun vs H2 => sp (x :: vs) H2 Q (E σ)
theorem pe_methS {pl : Sem Bool} (he : PE X o ta) (c : Cls X.K C) (hm : Meth X.K C m f) (F : FnOk X.prog X.w X.K X.mg X.base CX k f fd ps sp) (hr : Room k X.A) (hb : Binds X.K fd ps []) (hx : ∀ σ, PassesAt CX X σ (E σ)) (ha : PA X (e :: es) t)
    (hst : starEach (e :: es) X.env = (false, eval e X.env) :: starEach es X.env := by rfl) (hpl : (backTo pos (starEach es X.env)).any (·.1) = false := by rfl)
    (ht : eval (.Call (.Attribute o m apos) (e :: es) [] pos) X.env = (do
      let ov ← eval o X.env
      standAt apos.atName
      let (f, first) ← holding [ov] (getMethod ov m pl)
      callWith pos f first (backTo pos (starEach (e :: es) X.env)) (backToKw pos (keywordEach [] X.env))) := by rfl) :
    PE X (.Call (.Attribute o m apos) (e :: es) [] pos) (tMethS C m sp E ta t) := by
  refine ⟨fun pins s σ H Q I h => ?_⟩
  refine PySem.W.methodCall_KW (pl := pl) (thn (he.run pins s σ H _ I h) fun u s1 ⟨x, H1, I1, rx, a, dx, fs, ex, ea, l, q⟩ => ?_) ht
  subst ex
  obtain rfl : u = Value.ref a := rx
  refine getmeth_ok I1 ea c hm l ?_
  refine PySem.W.callWith_K (first := [.ref a]) (h₀ := X.base) I.ok.mod.kin hm.kp (thn (ha.run pos pins s1 σ H1 _ I1 q) fun us s2 ⟨vs, H2, I2, r, q2⟩ => ⟨I2.kIn, ?_⟩) hst hpl
  exact run_fnS (us := .ref a :: us) (vs := .ref a :: vs) F hr hb (hx σ) I2 (.cons rfl r) q2
theorem pe_methS0 {pl : Sem Bool} (he : PE X o ta) (c : Cls X.K C) (hm : Meth X.K C m f) (F : FnOk X.prog X.w X.K X.mg X.base CX k f fd ps sp) (hr : Room k X.A) (hb : Binds X.K fd ps []) (hx : ∀ σ, PassesAt CX X σ (E σ))
    (ht : eval (.Call (.Attribute o m apos) [] [] pos) X.env = (do
      let ov ← eval o X.env
      standAt apos.atName
      let (f, first) ← holding [ov] (getMethod ov m pl)
      callWith pos f first (backTo pos (starEach [] X.env)) (backToKw pos (keywordEach [] X.env))) := by rfl) :
    PE X (.Call (.Attribute o m apos) [] [] pos) (tMethS C m sp E ta tNil) := by
  refine ⟨fun pins s σ H Q I h => ?_⟩
  refine PySem.W.methodCall_KW (pl := pl) (thn (he.run pins s σ H _ I h) fun u s1 ⟨x, H1, I1, rx, a, dx, fs, ex, ea, l, q⟩ => ?_) ht
  subst ex
  obtain rfl : u = Value.ref a := rx
  refine getmeth_ok I1 ea c hm l ?_
  exact PySem.W.callWith_K0 (first := [.ref a]) I1.kIn hm.kp (run_fnS (us := [.ref a]) (vs := [.ref a]) F hr hb (hx σ) I1 (.cons rfl .nil) q)
def tMakeS (C : Addr) (sp : Sp) (E : L2.St → XK) (t : TA) : TE := fun σ H Q => t σ H fun vs H1 => ∀ x dx, H1 x = none → H1 dx = none → dx ≠ x → sp (.ref x :: vs) (upd (upd H1 dx (.own x)) x (.ins C dx [])) (fun v H2 => v = .non ∧ Q (.ref x) H2) (E σ)
theorem run_makeS {pins : List (Addr × Obj)} {σ : L2.St} {H : Hp} {s : Shared} {Q : VK} {us : List Value} {vs : List V} (M : Mk X.K C f) (F : FnOk X.prog X.w X.K X.mg X.base CX k f fd ps sp) (hr : Room (k + 1) X.A) (hb : Binds X.K fd ps [])
    (hx : PassesAt CX X σ (E σ)) (I : Inv X pins σ H s) (r : Vals vs us)
    (h : ∀ x dx, H x = none → H dx = none → dx ≠ x → sp (.ref x :: vs) (upd (upd H dx (.own x)) x (.ins C dx [])) (fun v H2 => v = .non ∧ Q (.ref x) H2) (E σ)) :
    wpAny (model X.prog X.w) X.A (call (.ref C) us) (EP X pins σ Q) X.xe s := by
  have hq := h (s.heap.objs.size + 1) s.heap.objs.size (I.hok.fresh (Nat.le_succ _)) (I.hok.fresh (Nat.le_refl _)) (Nat.ne_of_lt (Nat.lt_succ_self _))
  have I2 := Inv.made (C := C) I
  have r2 : Vals (V.ref (s.heap.objs.size + 1) :: vs) (Value.ref (s.heap.objs.size + 1) :: us) := .cons rfl r
  have hl : (Value.ref (s.heap.objs.size + 1) :: us).length = ps.length := by
    have e := r2.length
    rw [F.len _ _ _ _ hq] at e
    exact e.symm
  have hb' := hb _ (Value.ref (s.heap.objs.size + 1) :: us) I2.kIn (by rw [List.append_nil]; exact hl)
  rw [List.append_nil] at hb'
  refine wpAny_call (make_map (f := f) I.kIn M.makes M.init (beq_iff_eq.mp M.fn) (codeAny_mono (F.run _ X.stack _ _ ⟨Value.ref (s.heap.objs.size + 1) :: us, []⟩ (Value.ref (s.heap.objs.size + 1) :: us) _ _ (E σ) (hr.make C us [])
    (I2.env0.make C us []) hb' r2 hq) fun r s' hq' => ?_))
  cases r with
  | error e => exact hx pins _ _ e s' I2 hq'
  | ok fl =>
    cases fl with
    | ret u =>
      obtain ⟨v, H', I3, rv, ev, q3⟩ := I2.after hq'
      subst ev
      exact ⟨rv, ⟨V.ref (s.heap.objs.size + 1), H', I3, rfl, q3⟩⟩
    | next => exact False.elim hq'
    | brk => exact False.elim hq'
    | cont => exact False.elim hq'
theorem pe_makeS (M : Mk X.K C f) (F : FnOk X.prog X.w X.K X.mg X.base CX k f fd ps sp) (hr : Room (k + 1) X.A) (hg : Gl X x) (hm : X.mg x = some (.ref C)) (hb : Binds X.K fd ps []) (hx : ∀ σ, PassesAt CX X σ (E σ))
    (ha : PA X (e :: es) t) (hdb : (x == ("__debug__" : Str)) = false := by decide) (he : starEach (e :: es) X.env = (false, eval e X.env) :: starEach es X.env := by rfl) (hpl : (backTo pos (starEach es X.env)).any (·.1) = false := by rfl) :
    PE X (.Call (.Name x p) (e :: es) [] pos) (tMakeS C sp E t) := by
  refine ⟨fun pins s σ H Q I h => ?_⟩
  refine wpAny_Call_Name_kw (ld_glob I hg hm ?_ hdb)
  refine PySem.W.callWith_K (h₀ := X.base) I.ok.mod.kin M.kp (thn (ha.run pos pins s σ H _ I h) fun us s1 ⟨vs, H1, I1, r, q⟩ => ⟨I1.kIn, ?_⟩) he hpl
  exact run_makeS M F hr hb (hx σ) I1 r q
/-- f(k = v, ..), f an instance -/
def tCallIK (C : Addr) (sp : Sp) (gV : List V → List V → List V) (E : L2.St → XK) (tf : TE) (tk : TA) : TE := fun σ H Q => tf σ H fun y H1 => ∃ a, y = V.ref a ∧ tk σ H1 fun zs H2 => InsD H2 a C ∧ sp (gV [V.ref a] zs) H2 Q (E σ)
theorem callK_of {M : Model} {A : Around} {E : Value → Shared → Prop} {s : Shared} {a : Addr} {pos : Pos} {Q : Value → Shared → Prop} {args : List (Bool × Sem Value)} {kw : List (Option Str × Sem Value)} (hplain : (args.any (·.1) || kw.any (·.1.isNone)) = false)
    (h : wpAny M A (evalArgs (.ref a) true args kw) (fun z s₁ => (∃ C ox od, PySem.W.InstAt s₁.heap a ox C od ∧ ox.data = .plain) ∧ wpAny M A (call (.ref a) ([] ++ z.pos) z.kw) Q E s₁) E s) : wpAny M A (callWith pos (.ref a) [] args kw) Q E s := by
  unfold callWith
  refine wpAny_bind (wpAny_holding (wpAny_mono h (fun z s₁ h₁ => wpAny_bind (wpAny_standAt ?_)) fun _ _ y => y))
  obtain ⟨⟨C, ox, od, J, hd⟩, h₁⟩ := h₁
  have L := PySem.W.kco_keeper (M := M) J hd
  simp only [hplain]
  refine wpAny_bind (L.here ?_)
  have tail : ∀ {t : Sem Value}, wpAny M A t Q E s₁ → wpAny M A (t >>= fun r => holding [r] point >>= fun _ => pure r) Q E s₁ :=
    fun ht => wpAny_bind (wpAny_mono ht (fun r s₂ hr => wpAny_bind (wpAny_holding (wpAny_point (wpAny_pure hr)))) fun _ _ y => y)
  exact tail (wpAny_operateT h₁)
theorem pe_callIK (hf : PE X fe tf) (c : StX.CallO X.K C g) (F : FnOk X.prog X.w X.K X.mg X.base CX k g fd ps sp) (hr : Room k X.A) (hb : KBinds X.K fd ps ks gk gV) (hx : ∀ σ, PassesAt CX X σ (E σ)) (hkw : PK X kws tk)
    (hall : (backToKw pos (keywordEach kws X.env)).all (·.1.isSome) = true := by rfl) (hks : (backToKw pos (keywordEach kws X.env)).filterMap (·.1) = ks := by rfl)
    (hpl : ((backTo pos (starEach [] X.env)).any (·.1) || (backToKw pos (keywordEach kws X.env)).any (·.1.isNone)) = false := by rfl)
    (ht : eval (.Call fe [] kws pos) X.env = (do callWith pos (← eval fe X.env) [] (backTo pos (starEach [] X.env)) (backToKw pos (keywordEach kws X.env))) := by rfl) : PE X (.Call fe [] kws pos) (tCallIK C sp gV E tf tk) := by
  refine ⟨fun pins s σ H Q I h => ?_⟩
  rw [ht]
  refine wpAny_bind (thn (hf.run pins s σ H _ I h) fun u s1 ⟨y, H1, I1, ry, a, ey, q⟩ => ?_)
  subst ey
  obtain rfl : u = Value.ref a := ry
  refine callK_of hpl (PyProof.Rows.evalArgs_kw2_nil hall (thn (hkw.run pos pins s1 σ H1 _ I1 q) fun ws s2 ⟨zs, H2, I2, r, hi, q2⟩ => ?_))
  rw [hks]
  obtain ⟨ox, od, J, hd⟩ := insD_at I2 hi
  have r2 := hb.rel (us := [Value.ref a]) (vs := [V.ref a]) (.cons rfl .nil) r
  have hl : (gk [Value.ref a] ws).length = ps.length := by rw [← r2.length]; exact F.len _ _ _ _ q2
  refine ⟨⟨C, ox, od, J, hd⟩, wpAny_call (PySem.W.kco_code I2.kIn J hd c.at_ c.fn c.fi (codeAny_mono (F.run X.A X.stack s2 H2 ⟨[.ref a], ks.zip ws⟩ (gk [.ref a] ws) (gV [.ref a] zs) Q (E σ) hr I2.env0 (hb.to s2 [.ref a] ws I2.kIn hl) r2 q2) fun r s' hq => ?_))⟩
  cases r with
  | error e => exact hx σ pins H2 s2 e s' I2 hq
  | ok fl =>
    cases fl with
    | ret u => exact I2.after hq
    | next => exact False.elim hq
    | brk => exact False.elim hq
    | cont => exact False.elim hq
end
section
variable {σ : L2.St} {H : Hp} {Q : VK} {tf ta : TE} {ts tk : TA} {C : Addr} {m : Str} {sp : Sp} {E : L2.St → XK} {gV : List V → List V → List V}
theorem go_methS (h : ta σ H fun x H1 => ∃ a dx fs, x = .ref a ∧ H1 a = some (.ins C dx fs) ∧ fs.lookup m = none ∧ ts σ H1 fun vs H2 => sp (x :: vs) H2 Q (E σ)) : tMethS C m sp E ta ts σ H Q := h
theorem go_makeS (h : ts σ H fun vs H1 => ∀ x dx, H1 x = none → H1 dx = none → dx ≠ x → sp (.ref x :: vs) (upd (upd H1 dx (.own x)) x (.ins C dx [])) (fun v H2 => v = .non ∧ Q (.ref x) H2) (E σ)) : tMakeS C sp E ts σ H Q := h
theorem go_callIK (h : tf σ H fun y H1 => ∃ a, y = V.ref a ∧ tk σ H1 fun zs H2 => InsD H2 a C ∧ sp (gV [V.ref a] zs) H2 Q (E σ)) : tCallIK C sp gV E tf tk σ H Q := h
theorem go_callS (h : ts σ H fun vs H1 => sp vs H1 Q (E σ)) : tCallS sp E ts σ H Q := h
end
/-- the error's field, whatever its class -/
def tXfX (K : PySem.W.Frag) (a : Addr) (cls : Value) (d : Option Addr) (f : Str) (te : TE) : TE := fun σ H Q => te σ H fun x H1 => x = .ref a ∧ ∃ C, cls = .ref C ∧ XfC K C ∧ PySem.W.findIn K (.ref C) f = some none ∧ ∃ (dd : Addr) (fs : List (Str × V)) (v : V), d = some dd ∧ H1 dd = some (.xd fs) ∧ fs.lookup f = some v ∧ Q v H1
theorem pe_xfX {X : Cx} {a : Addr} {oe : Obj} {cls : Value} {d : Option Addr} {pn : List (Addr × Obj)} {e : Expr} {te : TE} {pos : Pos} {n : Str} (hz : Zc cls d oe) (hf : ∃ vs, oe.data = .fields vs) (he : PE (X.suite a ((a, oe) :: pn)) e te) (hb : attributeBase e n X.env (eval e X.env) = eval e X.env := by rfl) :
    PE (X.suite a ((a, oe) :: pn)) (.Attribute e n pos) (tXfX X.K a cls d n te) := by
  refine ⟨fun pins s σ H Q I h => ?_⟩
  refine attr_of hb (thn (he.run pins s σ H _ I h) fun u s1 hh => ?_)
  obtain ⟨x, H1, I1, rx, ex, C, ec, T, hno, dd, fs, v, ed, ea, l, q⟩ := hh
  subst ex
  obtain rfl : u = Value.ref a := rx
  subst ec
  subst ed
  obtain ⟨ha, _⟩ := I1.pin (a, oe) (List.mem_append_left _ List.mem_cons_self)
  obtain ⟨vs, hd⟩ := hf
  have hx : ObjOk X.prog X.w H1 s1.heap dd (.xd fs) := I1.hok dd _ ea
  obtain ⟨mA, hns, hr⟩ := hx
  obtain ⟨od, ho, hl⟩ := lookIn_ns hns
  obtain ⟨u, hu, ru⟩ := RelO.some_of (v := v) (o := mA n) (by rw [← l]; exact hr n)
  have J : PySem.W.InstAt s1.heap a oe C (some od) := ⟨ha, hz.1, by unfold PySem.W.notCls; rw [hd] <;> rfl, by rw [hz.2]; exact ho⟩
  exact HandSPX.exc_get I1.kIn J T.ga T.gg T.exC (PySem.W.findObj_own T.hdC hno rfl (by rw [hl, hu])) (handed_of ru) ⟨v, H1, I1.tok _, ru, q⟩
theorem go_xfX {K : PySem.W.Frag} {a : Addr} {cls : Value} {d : Option Addr} {f : Str} {te : TE} {σ : L2.St} {H : Hp} {Q : VK} (h : te σ H fun x H1 => x = .ref a ∧ ∃ C, cls = .ref C ∧ XfC K C ∧ PySem.W.findIn K (.ref C) f = some none ∧ ∃ (dd : Addr) (fs : List (Str × V)) (v : V), d = some dd ∧ H1 dd = some (.xd fs) ∧ fs.lookup f = some v ∧ Q v H1) : tXfX K a cls d f te σ H Q := h
theorem go_xfXV {K : PySem.W.Frag} {a D dd : Addr} {f : Str} {H : Hp} {fs : List (Str × V)} {v : V} {R : V → Prop} (T : XfC K D) (no : PySem.W.findIn K (.ref D) f = some none) (e : H dd = some (.xd fs)) (l : fs.lookup f = some v) (h : R v) :
    V.ref a = .ref a ∧ ∃ C, (Value.ref D) = .ref C ∧ XfC K C ∧ PySem.W.findIn K (.ref C) f = some none ∧ ∃ (d' : Addr) (fs : List (Str × V)) (v : V), some dd = some d' ∧ H d' = some (.xd fs) ∧ fs.lookup f = some v ∧ R v := ⟨rfl, D, rfl, T, no, dd, fs, v, rfl, e, l, h⟩
/-! ### raise and try, by name -/
def tRaise (W : WX) (t : L2.St → Hp → XK → Prop) : TS := fun _ σ H => t σ H fun cls d H' => W cls d σ H'
theorem ps_raiseT {X : Cx} {W : WX} {e : Expr} {t : L2.St → Hp → XK → Prop} {pos : Pos} (hc : X.calm = true) (tk : Takes X W) (he : PMk X e t) : PS X (.Raise (some e) none pos) (tRaise W t) := ps_raise hc tk he
theorem go_raiseT {t : L2.St → Hp → XK → Prop} {W : WX} {D : Ends} {σ : L2.St} {H : Hp} (h : t σ H fun cls d H' => W cls d σ H') : tRaise W t D σ H := h
def tTryAs (K : PySem.W.Frag) (c : Value) (i : Nat) (ts : Addr → Value → Option Addr → TS) (Wout : WX) (tb : WX → TS) : TS := fun D σ H => tb (wAs K c i ts Wout D) D σ H
def tTryOnly (K : PySem.W.Frag) (c : Value) (ts : Addr → Value → Option Addr → TS) (Wout : WX) (tb : WX → TS) : TS := fun D σ H => tb (wOnly K c ts Wout D) D σ H
section
variable {X : Cx} {x n : Str} {c : Value} {i : Nat} {body suite : List Stmt} {b₀ : Stmt} {np pos pos' : Pos} {tb : WX → TS} {ts : Addr → Value → Option Addr → TS} {Wout : WX}
theorem ps_tryAs (hs : X.stack = X.env :: X.outer) (hf : X.env.frame = some X.env.locals) (hN : X.N.Nodup) (hi : X.N[i]? = some n) (hln : X.env.kindOf n = some .local) (hc : Names X x c) (tk : Takes X Wout)
    (hb : ∀ (W : WX) (pn : List (Addr × Obj)) (xe : Value → Shared → Prop), Takes (X.tr pn xe) W → PassesOwn (model X.prog X.w) X.A X.env xe → PSs (X.tr pn xe) body (tb W))
    (hsu : ∀ (a : Addr) (oe : Obj) (cls : Value) (d : Option Addr) (pn : List (Addr × Obj)), Zc cls d oe → (∃ vs, oe.data = .fields vs) → PSs (X.suite a ((a, oe) :: pn)) (b₀ :: suite) (ts a cls d)) :
    PS X (.Try body [.ExceptHandler (some (.Name x np)) (some n) (b₀ :: suite) pos'] [] [] pos) (tTryAs X.K c i ts Wout tb) := ps_try_as hs hf hN hi hln hc tk hb hsu
theorem ps_tryOnly (hs : X.stack = X.env :: X.outer) (hf : X.env.frame = some X.env.locals) (hc : Names X x c) (tk : Takes X Wout)
    (hb : ∀ (W : WX) (pn : List (Addr × Obj)) (xe : Value → Shared → Prop), Takes (X.tr pn xe) W → PassesOwn (model X.prog X.w) X.A X.env xe → PSs (X.tr pn xe) body (tb W))
    (hsu : ∀ (a : Addr) (oe : Obj) (cls : Value) (d : Option Addr) (pn : List (Addr × Obj)), Zc cls d oe → (∃ vs, oe.data = .fields vs) → PSs (X.suite a ((a, oe) :: pn)) (b₀ :: suite) (ts a cls d)) :
    PS X (.Try body [.ExceptHandler (some (.Name x np)) none (b₀ :: suite) pos'] [] [] pos) (tTryOnly X.K c ts Wout tb) := ps_try_only hs hf hc tk hb hsu
end
section
variable {K : PySem.W.Frag} {c : Value} {i : Nat} {tb : WX → TS} {ts : Addr → Value → Option Addr → TS} {Wout : WX} {D : Ends} {σ : L2.St} {H : Hp} {cls : Value} {d : Option Addr}
theorem go_tryAs (h : tb (wAs K c i ts Wout D) D σ H) : tTryAs K c i ts Wout tb D σ H := h
theorem go_tryOnly (h : tb (wOnly K c ts Wout D) D σ H) : tTryOnly K c ts Wout tb D σ H := h
theorem go_wAs (e : PySem.W.exmOne K cls c = some true) (h : ∀ a, H a = none → ts a cls d { nx := fun σ' H' => D.nx (σ'.set i none) H', rt := D.rt, bk := fun σ' H' => D.bk (σ'.set i none) H', ct := fun σ' H' => D.ct (σ'.set i none) H' } (σ.set i (some (.ref a))) H) : wAs K c i ts Wout D cls d σ H :=
  ⟨true, e, fun _ => h, fun q => nomatch q⟩
theorem go_wOnly (e : PySem.W.exmOne K cls c = some true) (h : ∀ a, H a = none → ts a cls d D σ H) : wOnly K c ts Wout D cls d σ H :=
  ⟨true, e, fun _ => h, fun q => nomatch q⟩
end
theorem go_nNone {A B : Prop} (h : A) : if (!(none : Option V).isSome) = true then A else B := iteT h
theorem go_nSome {v : V} {A B : Prop} (h : B) : if (!(some v).isSome) = true then A else B := iteF h
theorem go_None {A B : Prop} (h : B) : if (none : Option V).isSome = true then A else B := iteF h
theorem go_Some {v : V} {A B : Prop} (h : A) : if (some v).isSome = true then A else B := iteT h
/-! ### tuple(x), list(x): readings with a name -/
def rTupOf (K : PySem.W.Frag) : List V → Hp → VK → Prop := fun vs H Q => ∃ p xs, vs = [.ref p] ∧ ((SqL K H p xs ∧ ∀ l, H l = none → Q (.ref l) (upd H l (.tup xs))) ∨ (SqT K H p xs ∧ Q (.ref p) H))
theorem call_tupD {X : Cx} : CallR X (.type "tuple") (rTupOf X.K) := call_tuple_of
def rLstOf (K : PySem.W.Frag) : List V → Hp → VK → Prop := fun vs H Q => ∃ p xs, vs = [.ref p] ∧ (SqL K H p xs ∨ SqT K H p xs) ∧ ∀ l, H l = none → Q (.ref l) (upd H l (.lst xs))
theorem call_lstD {X : Cx} : CallR X (.type "list") (rLstOf X.K) := call_list_of
section
variable {K : PySem.W.Frag} {H : Hp} {Q : VK} {p : Addr} {xs : List V}
theorem go_tupD (e : SqL K H p xs) (h : ∀ l, H l = none → Q (.ref l) (upd H l (.tup xs))) : rTupOf K [.ref p] H Q := ⟨p, xs, rfl, .inl ⟨e, h⟩⟩
theorem go_tupDT (e : SqT K H p xs) (h : Q (.ref p) H) : rTupOf K [.ref p] H Q := ⟨p, xs, rfl, .inr ⟨e, h⟩⟩
theorem go_lstD (e : SqL K H p xs) (h : ∀ l, H l = none → Q (.ref l) (upd H l (.lst xs))) : rLstOf K [.ref p] H Q := ⟨p, xs, rfl, .inl e, h⟩
theorem go_lstDT (e : SqT K H p xs) (h : ∀ l, H l = none → Q (.ref l) (upd H l (.lst xs))) : rLstOf K [.ref p] H Q := ⟨p, xs, rfl, .inr e, h⟩
theorem go_lstDO (e : SqL K H p xs ∨ SqT K H p xs) (h : ∀ l, H l = none → Q (.ref l) (upd H l (.lst xs))) : rLstOf K [.ref p] H Q := ⟨p, xs, rfl, e, h⟩
end
theorem go_cat {H : Hp} {Q : VK} {p q : Addr} {xs ys : List V} (h1 : H p = some (.lst xs)) (h2 : H q = some (.lst ys)) (l : xs.length + ys.length ≤ 1000) (h : ∀ r, H r = none → Q (.ref r) (upd H r (.lst (xs ++ ys)))) : rCat (.ref p) (.ref q) H Q :=
  ⟨p, q, xs, ys, rfl, rfl, h1, h2, Nat.le_of_lt (small1000 l), h⟩
theorem go_prop {C : Addr} {sp : Sp} {E : XK} {ta : TE} {σ : L2.St} {H : Hp} {Q : VK} {dvs : List V} (h : ta σ H fun x H1 => ∃ a dx fs, x = .ref a ∧ H1 a = some (.ins C dx fs) ∧ sp (.ref a :: dvs) H1 Q E) : tProp C sp dvs E ta σ H Q := h
end Vc

/-! Xt: a caught error as a tracked object: held by a name, handed to defs, also where it is still being handled (my own; the way of HandS.Exc's ps_try_as and HandS.HotCalls). -/
namespace Vc
open PySem PySem.Spec PyProof.Rows L2
/-- a caught error: its class, its dict -/
def xco (a : Addr) (cls : Value) (d : Option Addr) : HO := .ext fun h => ∃ (oe : Obj) (vs : Array Value), h.get? a = some oe ∧ Zc cls d oe ∧ oe.data = .fields vs
theorem xco_own {a x : Addr} {cls : Value} {d : Option Addr} : xco a cls d ≠ .own x := fun z => by
  have z' : HO.ext _ = HO.own x := z
  cases z'
theorem xco_ok {P : Program} {w : World} {H : Hp} {h : Heap} {a : Addr} {cls : Value} {d : Option Addr} {oe : Obj} {vs : Array Value} (he : h.get? a = some oe) (hz : Zc cls d oe) (hd : oe.data = .fields vs) : ObjOk P w H h a (xco a cls d) :=
  ⟨⟨oe, vs, he, hz, hd⟩, ⟨_, he⟩, fun h1 h2 z k => by
    obtain ⟨o, v, q1, q2, q3⟩ := z
    exact ⟨o, v, k _ q1, q2, q3⟩⟩
theorem xco_at {P : Program} {w : World} {H : Hp} {h : Heap} {a : Addr} {cls : Value} {d : Option Addr} (hok : HOk P w H h) (he : H a = some (xco a cls d)) : ∃ (oe : Obj) (vs : Array Value), h.get? a = some oe ∧ Zc cls d oe ∧ oe.data = .fields vs := by
  have x : ObjOk P w H h a (.ext fun h => ∃ (oe : Obj) (vs : Array Value), h.get? a = some oe ∧ Zc cls d oe ∧ oe.data = .fields vs) := hok a _ he
  exact x.1
section
variable {X : Cx} {pins : List (Addr × Obj)} {σ : L2.St} {H : Hp} {s sI : Shared} {a : Addr} {o : HO}
/-- what was not there ahead becomes tracked -/
theorem track (J : Inv X pins σ H sI) (I : Inv X pins σ H s) (n : sI.heap.get? a = none) (na : H a = none) (ob : ObjOk X.prog X.w (upd H a o) s.heap a o) : Inv X pins σ (upd H a o) s := by
  have nb : ∀ {b : Addr} {o' : Obj}, sI.heap.get? b = some o' → b ≠ a := fun {b o'} e z => by rw [z, n] at e; cases e
  have nH : ∀ {b : Addr} {o' : HO}, H b = some o' → b ≠ a := fun {b o'} e z => by rw [z, na] at e; cases e
  refine ⟨I.ok, I.os, I.bare, ⟨I.base.keep, I.base.slot, fun b o' e n' hx => ?_, I.base.there, fun b xs e => ?_, fun b o' u e => ?_, fun b ps e => ?_⟩, I.loc, I.cell, ?_, fun y c e => ?_, fun p hp => ?_, fun b o' e => ?_, I.len⟩
  · obtain ⟨o2, e2⟩ := J.base.there b o' e hx
    rw [upd_ne (nb e2)]
    exact I.base.free b o' e n' hx
  · have q := I.base.tups b xs e
    rw [upd_ne (nH q)]; exact q
  · have q := I.base.frzs b o' u e
    rw [upd_ne (nH q)]; exact q
  · obtain ⟨more, q⟩ := I.base.tbls b ps e
    exact ⟨more, by rw [upd_ne (nH q)]; exact q⟩
  · obtain ⟨m, ⟨oL, _, _, hoL, _⟩, _⟩ := id J.loc
    rw [upd_ne (nb hoL)]; exact I.free
  · obtain ⟨v, hv⟩ := J.cell y c e
    obtain ⟨oc, hoc, _⟩ := hv
    rw [upd_ne (nb hoc)]; exact I.freeC y c e
  · obtain ⟨q1, q2, q3⟩ := I.pin p hp
    obtain ⟨z1, _⟩ := J.pin p hp
    exact ⟨q1, by rw [upd_ne (nb z1)]; exact q2, q3⟩
  · by_cases hb : b = a
    · subst hb
      rw [upd_same] at e
      cases e
      exact ob
    · rw [upd_ne hb] at e
      exact (I.hok b o' e).stay (fun _ _ _ q => q) (fun c hc => by rw [upd_ne (nH hc)]; exact hc) (fun c xs hc => by rw [upd_ne (nH hc)]; exact hc)
theorem suiteT (I : Inv X pins σ H s) (a : Addr) : Inv (X.suite a (X.pn ++ pins)) [] σ H s :=
  ⟨I.ok.suite _ _, I.os, I.bare, I.base, I.loc, I.cell, I.free, I.freeC, fun p hp => I.pin p (by rw [List.append_nil] at hp; exact hp), I.hok, I.len⟩
theorem unsuiteT {pn' : List (Addr × Obj)} (I : Inv (X.suite a (X.pn ++ pins)) pn' σ H s) (ok : X.Ok) : Inv X pins σ H s :=
  ⟨ok, I.os, I.bare, I.base, I.loc, I.cell, I.free, I.freeC, fun p hp => I.pin p (List.mem_append_left _ hp), I.hok, I.len⟩
end
/-- what the clause 'except x as n' wishes of an exception of the body: the error is tracked from there on -/
def wX (K : PySem.W.Frag) (c : Value) (i : Nat) (ts : TS) (Wout : WX) (D : Ends) : WX := fun cls d σ H =>
  ∃ b, PySem.W.exmOne K cls c = some b ∧ (b = true → ∀ a, H a = none → ts { nx := fun σ' H' => D.nx (σ'.set i none) H', rt := D.rt, bk := fun σ' H' => D.bk (σ'.set i none) H', ct := fun σ' H' => D.ct (σ'.set i none) H' } (σ.set i (some (.ref a))) (upd H a (xco a cls d))) ∧
    (b = false → Wout cls d σ H)
def tTryX (K : PySem.W.Frag) (c : Value) (i : Nat) (ts : TS) (Wout : WX) (tb : WX → TS) : TS := fun D σ H => tb (wX K c i ts Wout D) D σ H
section
variable {X : Cx} {x n : Str} {c : Value} {i : Nat} {body suite : List Stmt} {b₀ : Stmt} {np pos pos' : Pos} {tb : WX → TS} {ts : TS} {Wout : WX}
theorem ps_tryX (hs : X.stack = X.env :: X.outer) (hf : X.env.frame = some X.env.locals) (hN : X.N.Nodup) (hi : X.N[i]? = some n) (hln : X.env.kindOf n = some .local) (hc : Names X x c) (tk : Takes X Wout)
    (hb : ∀ (W : WX) (pn : List (Addr × Obj)) (xe : Value → Shared → Prop), Takes (X.tr pn xe) W → PassesOwn (model X.prog X.w) X.A X.env xe → PSs (X.tr pn xe) body (tb W))
    (hsu : ∀ (a : Addr) (pn : List (Addr × Obj)), PSs (X.suite a pn) (b₀ :: suite) ts) :
    PS X (.Try body [.ExceptHandler (some (.Name x np)) (some n) (b₀ :: suite) pos'] [] [] pos) (tTryX X.K c i ts Wout tb) := by
  refine ⟨fun pins s σ H D I h => ?_⟩
  have ok := I.ok
  have hfr : X.A.frames = some (X.env :: X.outer) := by rw [ok.frames, hs]
  have hloc : Loc X.env.scope n := .inl hln
  refine wpAny_Try_except ?_
  refine wpAny_mono ((hb (wX X.K c i ts Wout D) (X.pn ++ pins) (fun e s₁ => wpAny (model X.prog X.w) X.A (noteFrame e X.env) (fun _ s₂ => wpAny (model X.prog X.w) X.A (setFlight e none) (fun _ s₃ =>
    wpAny (model X.prog X.w) X.A (handleBy e X.env [.ExceptHandler (some (.Name x np)) (some n) (b₀ :: suite) pos']) (SP X pins D) X.xe s₃) X.xe s₂) X.xe s₁) (fun u s' xx => ?_) PassesOwn.looking).run [] s σ H D (I.toTry _) h) (fun f s1 hsp => ?_) (fun e s1 he => he)
  · -- the catch
    obtain ⟨a, B, sI, pins', σ', H', cls, d, rfl, J', nb, up, sky, na, os, ag, b, hb1, hyes, hno⟩ := xx
    have J : Inv X pins σ' H' sI := J'.ofTry ok
    have sky' : Sky B (X.env :: X.outer) a (Zc cls d) X.env.locals s'.heap := by rw [← hs]; exact sky
    show wpAny (model X.prog X.w) X.A (noteFrame (.ref a) X.env) _ _ _
    refine Sky.land Zc.steady hfr hf sky' fun h3 fl3 up3 => ?_
    have J3 : Inv X pins σ' H' { s' with heap := h3 } := J.landed nb fl3.1 (up.trans up3) os ag
    obtain ⟨oe3, vs3, he3, hz3, hd3⟩ := fl3.there
    have notFr : ∀ {h : Heap} {o : Obj} {vs : Array Value}, h.FunFrames B (X.env :: X.outer) → h.get? a = some o → o.data = .fields vs → a ∉ frs (X.env :: X.outer) := fun {h o vs} ff e dd hm => by
      obtain ⟨_, o', e', hnf⟩ := ff.mem hm
      rw [e] at e'; cases e'
      exact hnf _ dd
    have nfr := notFr fl3.2.2.1 he3 hd3
    have nL : a ≠ X.env.locals := fun z => nfr (List.mem_filterMap.mpr ⟨X.env, List.mem_cons_self, by rw [hf, z]⟩)
    have nF : a ∉ X.fs := fun hm => by
      obtain ⟨e, he, q⟩ := List.mem_filterMap.mp hm
      exact nfr (List.mem_filterMap.mpr ⟨e, List.mem_cons_of_mem _ he, q⟩)
    have nI : sI.heap.get? a = none := by
      cases e : sI.heap.get? a with
      | none => rfl
      | some o =>
        have q := nb a o e (by rw [hs]; exact nfr)
        rw [fl3.2.1] at q; cases q
    have S3 := J3.suite he3 hd3 na nL nF
    refine wpAny_handleBy_cons (codeAny_handlers_test ?_) (by intro q; cases q)
    have LT : PySem.W.Looks (model X.prog X.w) h3 (typeOf (.ref a)) cls := fun A Q E s k q => wpAny_typeOf_ref (k _ _ he3) (by rw [hz3.1]; exact q)
    have LM := PySem.W.exm_one (M := model X.prog X.w) (J3.kIn) LT hb1
    have test : ∀ {Q : Value → Shared → Prop} {E : Value → Shared → Prop}, Q c { s' with heap := h3 } → wpAny (model X.prog X.w) (X.A.mark (some (.ref a))) (eval (.Name x np) X.env) Q E { s' with heap := h3 } := fun {Q E} q => by
      obtain ⟨hg, hdbg, hm | ⟨hm, hv, hnn⟩⟩ := hc
      · exact ld_glob (X := X.suite a ((a, oe3) :: (X.pn ++ pins))) S3 hg hm q hdbg
      · exact ld_blt (X := X.suite a ((a, oe3) :: (X.pn ++ pins))) S3 hg hm hv q hnn hdbg
    refine test (LM.here ?_)
    cases b with
    | true =>
      refine codeAny_handlers_suite_as ?_
      refine HandSPX.lands_againZ fl3 fun h4 fl4 up4 => ?_
      have J4 : Inv X pins σ' H' { s' with heap := h4 } := J.landed nb fl4.1 ((up.trans up3).trans up4) os ag
      obtain ⟨oe4, vs4, he4, hz4, hd4⟩ := fl4.there
      have S4 : Inv (X.suite a (X.pn ++ pins)) [] σ' (upd H' a (xco a cls d)) { s' with heap := h4 } := suiteT (track J J4 nI na (xco_ok he4 hz4 hd4)) a
      refine store_ok (X := X.suite a (X.pn ++ pins)) (v := .ref a) S4 hN hi hloc rfl (fun s5 S5 => ?_) (.inr hln)
      refine wpAny_mono ((hsu a (X.pn ++ pins)).run [] s5 _ _ _ S5 (hyes rfl a na)) (fun f s6 hsp => ?_) (fun _ _ z => False.elim z)
      have end_ : ∀ {σ6 : L2.St} {H6 : Hp} {Q : Shared → Prop}, Inv (X.suite a (X.pn ++ pins)) [] σ6 H6 s6 → (∀ s7, Inv X pins (σ6.set i none) H6 s7 → Q s7) →
          wpAny (model X.prog X.w) X.A (do bindName X.env n .none; unbindBehindTheSuite X.env n pos') (fun _ s7 => Q s7) X.xe s6 := fun {σ6 H6 Q} S6 hq => gone_ok (unsuiteT S6 ok) hN hi hln hq
      cases f with
      | next =>
        obtain ⟨σ6, H6, S6, q6⟩ := hsp
        exact end_ S6 fun s7 J7 => ⟨_, _, J7, q6⟩
      | brk =>
        obtain ⟨σ6, H6, S6, q6⟩ := hsp
        exact end_ S6 fun s7 J7 => ⟨_, _, J7, q6⟩
      | cont =>
        obtain ⟨σ6, H6, S6, q6⟩ := hsp
        exact end_ S6 fun s7 J7 => ⟨_, _, J7, q6⟩
      | ret u =>
        obtain ⟨v6, σ6, H6, S6, r6, q6⟩ := hsp
        exact end_ S6 fun s7 J7 => ⟨_, _, _, J7, r6, q6⟩
    | false =>
      show wpAny _ X.A (handleBy (.ref a) X.env []) _ _ _
      refine wpAny_handleBy_nil ?_
      obtain ⟨k1, k2, k3, oe, vs, T, oT, ts', he, hz, hd, h1, hr⟩ := id fl3
      unfold PySem.passOn
      refine wpAny_bind (wpAny_field he hd h1 ?_)
      rw [if_neg (show ¬ ((Value.ref T == Value.none) = true) from by simp)]
      have fin : wpAny (model X.prog X.w) X.A (setFlight (.ref a) X.env.frame) (fun _ s4 => wpAny (model X.prog X.w) X.A (throw (.ref a) : Sem Flow) (SP X pins D) X.xe s4) X.xe { s' with heap := h3 } := by
        rw [hf]
        refine HandSPX.setFlight_upZ fl3 fun h4 hh4 up4 => wpAny_throw (tk _ _ ?_)
        exact ⟨a, B, sI, pins, σ', H', cls, d, rfl, J, nb, (up.trans up3).trans up4, .inr (.inr (by rw [hs]; exact hh4)), na, os, ag, hno rfl⟩
      first
        | exact wpAny_bind (wpAny_pure (wpAny_bind fin))
        | exact wpAny_bind fin
  · cases f with
    | next =>
      obtain ⟨σ', H', J', q⟩ := hsp
      exact wpAny_execs_nil ⟨σ', H', J'.ofTry ok, q⟩
    | brk =>
      obtain ⟨σ', H', J', q⟩ := hsp
      exact ⟨σ', H', J'.ofTry ok, q⟩
    | cont =>
      obtain ⟨σ', H', J', q⟩ := hsp
      exact ⟨σ', H', J'.ofTry ok, q⟩
    | ret u =>
      obtain ⟨v, σ', H', J', r, q⟩ := hsp
      exact ⟨v, σ', H', J'.ofTry ok, r, q⟩
end
section
variable {K : PySem.W.Frag} {c : Value} {i : Nat} {tb : WX → TS} {ts : TS} {Wout : WX} {D : Ends} {σ : L2.St} {H : Hp} {cls : Value} {d : Option Addr}
theorem go_tryX (h : tb (wX K c i ts Wout D) D σ H) : tTryX K c i ts Wout tb D σ H := h
/-- it is caught -/
theorem go_wX (e : PySem.W.exmOne K cls c = some true) (h : ∀ a H2, H a = none → Ed [] H H2 → H2 a = some (xco a cls d) → ts { nx := fun σ' H' => D.nx (σ'.set i none) H', rt := D.rt, bk := fun σ' H' => D.bk (σ'.set i none) H', ct := fun σ' H' => D.ct (σ'.set i none) H' } (σ.set i (some (.ref a))) H2) : wX K c i ts Wout D cls d σ H :=
  ⟨true, e, fun _ a na => h a _ na (Ed.new na) upd_same, fun q => nomatch q⟩
end
/-! ### isinstance of a tracked error, its fields -/
/-- what the heap tells of the error at a: its class at C, its dict with the fields fs -/
structure ErrAt (H : Hp) (a C : Addr) (fs : List (Str × V)) : Prop where
  ex : ∃ dd, H a = some (xco a (.ref C) (some dd)) ∧ H dd = some (.xd fs)
theorem ErrAt.ed {H H' : Hp} {a C : Addr} {fs : List (Str × V)} {S : List Addr} (e : Ed S H H') (hS : ∀ b ∈ S, ∃ o, H b = some o ∧ (∀ cls d, o ≠ xco a cls d) ∧ ∀ fs, o ≠ .xd fs) (h : ErrAt H a C fs) : ErrAt H' a C fs := by
  obtain ⟨dd, h1, h2⟩ := h
  refine ⟨dd, e.keep _ _ (fun z => ?_) h1, e.keep _ _ (fun z => ?_) h2⟩
  · obtain ⟨o, q, n, _⟩ := hS _ z
    rw [h1] at q; cases q; exact n _ _ rfl
  · obtain ⟨o, q, _, n⟩ := hS _ z
    rw [h2] at q; cases q; exact n _ rfl
theorem ErrAt.ed0 {H H' : Hp} {a C : Addr} {fs : List (Str × V)} (e : Ed [] H H') (h : ErrAt H a C fs) : ErrAt H' a C fs := h.ed e fun _ z => nomatch z
theorem ErrAt.of {H0 H : Hp} {a C dd : Addr} {fs : List (Str × V)} (h1 : H a = some (xco a (.ref C) (some dd))) (e : Ed [] H0 H) (h2 : H0 dd = some (.xd fs)) : ErrAt H a C fs := ⟨dd, h1, e.at0 h2⟩
theorem err_inst {X : Cx} {pins : List (Addr × Obj)} {σ : L2.St} {H : Hp} {s : Shared} {a C : Addr} {fs : List (Str × V)} (I : Inv X pins σ H s) (h : ErrAt H a C fs) : ∃ ox od, PySem.W.InstAt s.heap a ox C (some od) ∧ ∀ f, ∃ mf, PySem.W.lookIn f od = some mf ∧ RelO (fs.lookup f) mf := by
  obtain ⟨dd, h1, h2⟩ := h
  obtain ⟨oe, vs, ho, hz, hd⟩ := xco_at I.hok h1
  have hx : ObjOk X.prog X.w H s.heap dd (.xd fs) := I.hok dd _ h2
  obtain ⟨mA, hns, hr⟩ := hx
  obtain ⟨od, hod, hl⟩ := lookIn_ns hns
  exact ⟨oe, od, ⟨ho, hz.1, by unfold PySem.W.notCls; rw [hd] <;> rfl, by rw [hz.2]; exact hod⟩, fun f => ⟨mA f, hl f, hr f⟩⟩
/-- isinstance(e, C), e a tracked error -/
def rIsT (K : PySem.W.Frag) : List V → Hp → VK → Prop := fun xs H Q => ∃ (a D : Addr) (fs : List (Str × V)) (c : V) (cv : Value) (b : Bool), ErrAt H a D fs ∧ ExcC K D ∧ xs = [.ref a, c] ∧ (∀ u, RelV c u → u = cv) ∧ PySem.W.kitOne K (.ref D) cv = some b ∧ Q (.bl b) H
theorem err_clsIn {K : PySem.W.Frag} {D : Addr} (C : ExcC K D) : (PySem.W.clsIn K D).isSome = true := by obtain ⟨cd, hc, _⟩ := PySem.W.any_some C.hd; rw [hc]; rfl
theorem call_isT {X : Cx} : CallR X (.builtin "isinstance") (rIsT X.K) := by
  intro pins s σ H xs us Q I r h
  obtain ⟨a, D, fs, c, cv, b, hE, C, rfl, hcv, e, q⟩ := h
  cases r with
  | cons rx rr =>
    cases rr with
    | cons rt rr =>
      cases rr
      cases rx
      have ec := hcv _ rt
      subst ec
      obtain ⟨ox, od, J, _⟩ := err_inst I hE
      exact PySem.W.kia_one (PySem.W.kitx_exc (err_clsIn C) C.hg C.hk C.hs C.ha C.hn C.ht C.hm) I.kIn J e (fun z => nomatch z) fun tk => ⟨.bl b, H, I.tok tk, rfl, q⟩
/-- isinstance(e, (C1, C2, ..)) -/
def rIsTT (K : PySem.W.Frag) : List V → Hp → VK → Prop := fun xs H Q => ∃ (a D tp : Addr) (fs : List (Str × V)) (cs : List V) (ws : List Value) (b : Bool), ErrAt H a D fs ∧ ExcC K D ∧ xs = [.ref a, .ref tp] ∧ H tp = some (.tup cs) ∧ (∀ us, Vals cs us → us = ws) ∧ PySem.W.kitAny K (.ref D) ws = some b ∧ Q (.bl b) H
theorem call_isTT {X : Cx} : CallR X (.builtin "isinstance") (rIsTT X.K) := by
  intro pins s σ H xs us Q I r h
  obtain ⟨a, D, tp, fs, cs, ws, b, hE, C, rfl, hT, hcv, e, q⟩ := h
  cases r with
  | cons rx rr =>
    cases rr with
    | cons rt rr =>
      cases rr
      cases rx
      cases rt
      obtain ⟨ox, od, J, _⟩ := err_inst I hE
      obtain ⟨_, its, rv, o, h1, h2, n, h3⟩ := (show ObjOk X.prog X.w H s.heap tp (.tup cs) from I.hok tp _ hT)
      have e3 := hcv _ rv
      subst e3
      obtain ⟨oc, od', dt, sl⟩ := o
      simp only at h2 h3
      subst h2 h3
      exact PySem.W.kia_tup (PySem.W.kitx_exc (err_clsIn C) C.hg C.hk C.hs C.ha C.hn C.ht C.hm) I.kIn J h1 e (fun z => nomatch z) fun tk => ⟨.bl b, H, I.tok tk, rfl, q⟩
/-- e.f -/
def tXfT (K : PySem.W.Frag) (f : Str) (te : TE) : TE := fun σ H Q => te σ H fun x H1 => ∃ (a C : Addr) (fs : List (Str × V)) (v : V), x = .ref a ∧ ErrAt H1 a C fs ∧ XfC K C ∧ PySem.W.findIn K (.ref C) f = some none ∧ fs.lookup f = some v ∧ Q v H1
theorem pe_xfT {X : Cx} {e : Expr} {te : TE} {pos : Pos} {n : Str} (he : PE X e te) (hb : attributeBase e n X.env (eval e X.env) = eval e X.env := by rfl) : PE X (.Attribute e n pos) (tXfT X.K n te) := by
  refine ⟨fun pins s σ H Q I h => ?_⟩
  refine attr_of hb (thn (he.run pins s σ H _ I h) fun u s1 hh => ?_)
  obtain ⟨x, H1, I1, rx, a, C, fs, v, ex, hE, T, hno, l, q⟩ := hh
  subst ex
  obtain rfl : u = Value.ref a := rx
  obtain ⟨ox, od, J, hl⟩ := err_inst I1 hE
  obtain ⟨mf, hm, hr⟩ := hl n
  obtain ⟨u, hu, ru⟩ := RelO.some_of (v := v) (o := mf) (by rw [← l]; exact hr)
  exact HandSPX.exc_get I1.kIn J T.ga T.gg T.exC (PySem.W.findObj_own T.hdC hno rfl (by rw [hm, hu])) (handed_of ru) ⟨v, H1, I1.tok _, ru, q⟩
section
variable {K : PySem.W.Frag} {a D : Addr} {fs : List (Str × V)} {H : Hp} {Q : VK} {b : Bool}
theorem go_isTC {c : Addr} (hE : ErrAt H a D fs) (C : ExcC K D) (hk : PySem.W.kitOne K (.ref D) (.ref c) = some b) (q : Q (.bl b) H) : rIsT K [.ref a, .ref c] H Q :=
  ⟨a, D, fs, .ref c, .ref c, b, hE, C, rfl, fun _ r => r, hk, q⟩
theorem go_isTT {t : String} (hE : ErrAt H a D fs) (C : ExcC K D) (hk : PySem.W.kitOne K (.ref D) (.type t) = some b) (q : Q (.bl b) H) : rIsT K [.ref a, .ty t] H Q :=
  ⟨a, D, fs, .ty t, .type t, b, hE, C, rfl, fun _ r => r, hk, q⟩
theorem go_xfT {f : Str} {te : TE} {σ : L2.St} (h : te σ H fun x H1 => ∃ (a C : Addr) (fs : List (Str × V)) (v : V), x = .ref a ∧ ErrAt H1 a C fs ∧ XfC K C ∧ PySem.W.findIn K (.ref C) f = some none ∧ fs.lookup f = some v ∧ Q v H1) : tXfT K f te σ H Q := h
theorem go_xfTV {f : Str} {v : V} {R : V → Prop} (hE : ErrAt H a D fs) (T : XfC K D) (no : PySem.W.findIn K (.ref D) f = some none) (l : fs.lookup f = some v) (h : R v) :
    ∃ (a' C : Addr) (fs : List (Str × V)) (v : V), V.ref a = .ref a' ∧ ErrAt H a' C fs ∧ XfC K C ∧ PySem.W.findIn K (.ref C) f = some none ∧ fs.lookup f = some v ∧ R v := ⟨a, D, fs, v, rfl, hE, T, no, l, h⟩
end
/-! ### defs that are also called while an error is being handled (they raise nothing) -/
structure FnHt (P : Program) (w : World) (K : PySem.W.Frag) (mg : Str → Option Value) (base : Heap) (k : Nat) (f : Addr) (fd : FuncData) (ps : List Str) (sp : Sp) : Prop where
  len : ∀ vs H Q E, sp vs H Q E → vs.length = ps.length
  run : ∀ (A : Around) (outer : List Env) (s : Shared) (H : Hp) (args : Args) (us : List Value) (vs : List V) (Q : VK) (E : XK), L2H.RoomH k A → Env0 P w K mg base A outer s H → BindsTo s fd args (ps.zip us) → Vals vs us → sp vs H Q E →
    codeAny (model P w) A (.call (.ref f) args) (CR CX0 outer P w H s Q E) s
theorem FnHt.ok {P : Program} {w : World} {K : PySem.W.Frag} {mg : Str → Option Value} {base : Heap} {k : Nat} {f : Addr} {fd : FuncData} {ps : List Str} {sp : Sp} (F : FnHt P w K mg base k f fd ps sp) : FnOk P w K mg base CX0 k f fd ps sp :=
  ⟨F.len, fun A outer s H args us vs Q E hr => F.run A outer s H args us vs Q E (L2H.roomH_of hr)⟩
/-- the context of such a def's body -/
def cxT (P : Program) (w : World) (K : PySem.W.Frag) (mg : Str → Option Value) (base : Heap) (N : List Str) (qual : Str) (scope : Scope) (f : Addr) (cd : Value) (A : Around) (outer : List Env) (s : Shared) (H : Hp) (E : XK) : Cx :=
  { cxOf CX0 P w K mg base N qual scope f cd A outer s H E with calm := false }
theorem inv_startT {P : Program} {w : World} {K : PySem.W.Frag} {mg : Str → Option Value} {base : Heap} {N ps : List Str} {qual : Str} {scope : Scope} {f : Addr} {cd : Value} {A : Around} {outer : List Env} {s s1 : Shared} {H : Hp} {E : XK} {us : List Value} {vs : List V}
    (S : FnScope N ps scope) (e0 : Env0 P w K mg base A outer s H) (hl : vs.length = ps.length) (r : Vals vs us)
    (x : InCallC s s.heap.objs.size (bindL (envOfC qual scope s.heap.objs.size f cd).kindOf (ps.zip us) fun _ => none) (cellsFrom (s.heap.objs.size + 1) scope.names []) (bindC (envOfC qual scope s.heap.objs.size f cd).kindOf (ps.zip us) fun _ => none) s1) :
    Inv (cxT P w K mg base N qual scope f cd A outer s H E) [] (L2.start N vs) H s1 := by
  have hpl : ps.length ≤ N.length := by have := congrArg List.length S.pre; rw [List.length_take] at this; omega
  obtain ⟨h1, tk, rfl, hk⟩ := x.done
  have noA : ∀ b : Addr, b ∉ (cxT P w K mg base N qual scope f cd A outer s H E).ex := fun b z => absurd (show b ∈ ([] : List Addr) from z) (by simp)
  refine ⟨⟨e0.mod, S.kind, rfl, rfl, Nat.le_refl _, fun y z c h1 h2 => ?_, fun y hy => ?_, fun y c _ h => ?_, (fun z => Bool.noConfusion (show false = true from z)), Around.frames_deeper e0.frames, .inr ⟨rfl, rfl⟩, fun b z => absurd z (noA b), e0.bs, e0.bsz, fun b _ _ => noA b, fun b z => absurd z (noA b), e0.funs, e0.frf⟩,
    rfl, e0.bare, Un.kept hk, ⟨_, x.toInCall.ns, fun i y v h1 h2 h3 => ?_⟩, fun y c h => ⟨_, x.cell y c h⟩, e0.hok.fresh (Nat.le_refl _), fun y c h => ?_, fun q hq => ?_, e0.hok.kept hk, ?_⟩
  · exact name_of_addr x.apart (PySem.mem_of_lookup h1) (PySem.mem_of_lookup h2)
  · have hy : scope.names.lookup y = some .cell ∨ scope.names.lookup y = some .free := hy
    rcases hy with hy | hy
    · exact cell_has hy
    · exact absurd rfl (S.nofree _ (PySem.mem_of_lookup hy))
  · exact Nat.le_of_lt (x.above y c (PySem.mem_of_lookup h))
  · have hi : i < vs.length := by
      unfold L2.start at h2
      by_cases hi : i < vs.length
      · exact hi
      · rw [List.getElem?_append_right (by simpa using hi)] at h2
        rw [List.getElem?_replicate] at h2
        split at h2 <;> cases h2
    have ha : vs[i]? = some v := by
      unfold L2.start at h2
      rw [List.getElem?_append_left (by simpa using hi), List.getElem?_map] at h2
      cases e : vs[i]? with
      | none => rw [e] at h2; cases h2
      | some a => rw [e] at h2; cases h2; rfl
    obtain ⟨u, hu, rv⟩ := r.get ha
    have hp : ps[i]? = some y := by
      rw [← S.pre, List.getElem?_take_of_lt (by omega)]; exact h1
    have ndP : ps.Nodup := by rw [← S.pre]; exact S.nd.sublist (List.take_sublist _ _)
    refine ⟨u, rv, ?_⟩
    rcases S.par y (List.mem_of_getElem? hp) with k | k
    · exact .inl ⟨k, bindL_get ndP hp hu k⟩
    · obtain ⟨c, e⟩ := cell_has (n := s.heap.objs.size + 1) k
      refine .inr ⟨.inl k, c, e, ?_⟩
      have q := x.cell y c e
      rw [bindC_get ndP hp hu (by show scope.names.lookup y ≠ _; rw [k]; decide)] at q
      exact q
  · exact e0.hok.fresh (Nat.le_of_lt (x.above y c (PySem.mem_of_lookup h)))
  · exact absurd (show q ∈ ([] : List (Addr × Obj)) from hq) (by simp)
  · unfold L2.start
    show _ = N.length
    rw [List.length_append, List.length_map, List.length_replicate]
    omega
theorem Fun.okH {P : Program} {w : World} {K : PySem.W.Frag} {mg : Str → Option Value} {base : Heap} {x qual : Str} {st : Stmt} {f : Addr} {fd : FuncData} {N ps : List Str} {k : Nat} {sp : Sp} (F : Fun K x qual st f fd) (S : FnScope N ps (defScope st)) (len : ∀ vs H Q E, sp vs H Q E → vs.length = ps.length)
    (hbody : ∀ (cdv : Value) (A : Around) (outer : List Env) (s : Shared) (H : Hp) (vs : List V) (Q : VK) (E : XK), L2H.RoomH k (A.deeper (envOfC qual (defScope st) s.heap.objs.size f cdv)) → sp vs H Q E →
      ∃ t, PSs (cxT P w K mg base N qual (defScope st) f cdv A outer s H E).nox (defBody st) t ∧ t { nx := fun _ H' => Q .non H', rt := Q } (L2.start N vs) H) : FnHt P w K mg base (k + 1) f fd ps sp := by
  obtain ⟨oc, od, kV, doc, pm, an, cdv, ct, osl, rfl, lk, hcd⟩ := F.ex
  refine ⟨len, fun A outer s H args us vs Q E hr e0 hb r hsp => ?_⟩
  have hl := len _ _ _ _ hsp
  have KX : K.In s.heap := e0.mod.kin.keeps fun b o e => (e0.bs b o e).1
  have lim : s.heap.NoLimit := e0.mod.nolimit.keeps fun b o e => (e0.bs b o e).1
  have hkind : ∀ y ∈ ps.zip us, (defScope st).names.lookup y.1 = some .local ∨ ((defScope st).names.lookup y.1 = some .cell ∧ ((cellsFrom (s.heap.objs.size + 1) (defScope st).names []).lookup y.1).isSome = true) := fun ⟨n, v⟩ hy => by
    rcases S.par n (List.of_mem_zip hy).1 with q | q
    · exact .inl q
    · exact .inr ⟨q, PySem.W.cellsFrom_some _ _ _ (.inl q)⟩
  refine codeAny_call_function hr.depth (KX _ _ lk) rfl S.co S.gen rfl (PySem.W.codeRec_of KX hcd) (hb _ _ _ _ ?_)
  refine wpAny_newFunctionEnv_cells S.kind hkind fun env he s1 x => ?_
  subst he
  refine ⟨lim.keeps x.toInCall.keep, codeAny_func ?_⟩
  obtain ⟨t, ht0, hq⟩ := hbody cdv A outer s H vs Q E (hr.deeper _) hsp
  have ht := ht0.nox
  have I : Inv (cxT P w K mg base N qual (defScope st) f cdv A outer s H E) [] (L2.start N vs) H s1 := inv_startT S e0 hl r x
  refine wpAny_mono (ht.run [] s1 (L2.start N vs) H _ I hq) (fun fl s' hs => ?_) fun e s' hs => hs
  have fin : ∀ {σ' : L2.St} {H' : Hp} {v : V} {u : Value}, Inv (cxT P w K mg base N qual (defScope st) f cdv A outer s H E) [] σ' H' s' → RelV v u → Q v H' → CE outer P w H s Q u s' :=
    fun {σ' H' v u} J rv q => ⟨v, H', J.os, J.bare, J.base, J.hok, rv, q⟩
  cases fl with
  | ret u =>
    obtain ⟨v, σ', H', J, rv, q⟩ := hs
    exact fin J rv q
  | next =>
    obtain ⟨σ', H', J, q⟩ := hs
    exact fin (v := V.non) (u := Value.none) J rfl q
  | brk =>
    obtain ⟨_, _, _, q⟩ := hs
    exact False.elim q
  | cont =>
    obtain ⟨_, _, _, q⟩ := hs
    exact False.elim q
section
variable {X : Cx} {k : Nat} {f : Addr} {fd : FuncData} {ps : List Str} {sp : Sp} {x : Str} {q pos : Pos} {e : Expr} {es : List Expr} {t : TA}
/-- f(e, ..), also while an error is being handled -/
theorem pe_callT (F : FnHt X.prog X.w X.K X.mg X.base k f fd ps sp) (hr : L2H.RoomH k X.A) (hg : Gl X x) (hm : X.mg x = some (.ref f)) (hk : PySem.W.keepIn X.K (.ref f) = true) (hb : Binds X.K fd ps [])
    (ha : PA X (e :: es) t) (hdb : (x == ("__debug__" : Str)) = false := by decide) (he : starEach (e :: es) X.env = (false, eval e X.env) :: starEach es X.env := by rfl) (hpl : (backTo pos (starEach es X.env)).any (·.1) = false := by rfl) :
    PE X (.Call (.Name x q) (e :: es) [] pos) (tCall sp [] E0 t) := by
  refine ⟨fun pins s σ H Q I h => ?_⟩
  refine wpAny_Call_Name_kw (ld_glob I hg hm ?_ hdb)
  refine PySem.W.callWith_K (h₀ := X.base) I.ok.mod.kin hk (thn (ha.run pos pins s σ H _ I h) fun us s1 ⟨vs, H1, I1, r, q⟩ => ⟨I1.kIn, ?_⟩) he hpl
  have q : sp (vs ++ []) H1 Q E0 := q
  rw [List.append_nil] at q
  have hl : us.length = ps.length := by rw [← r.length]; exact F.len _ _ _ _ q
  have b := hb s1 us I1.kIn (by rw [List.append_nil]; exact hl)
  rw [List.append_nil] at b
  refine wpAny_call (codeAny_mono (F.run X.A X.stack s1 H1 ⟨us, []⟩ us vs Q E0 hr I1.env0 b r q) fun r s' hq => ?_)
  cases r with
  | error e => exact hq.elim
  | ok fl =>
    cases fl with
    | ret u => exact I1.after hq
    | next => exact False.elim hq
    | brk => exact False.elim hq
    | cont => exact False.elim hq
end
theorem roomH_mark {k : Nat} {A : Around} {v : Option Value} (r : L2H.RoomH k A) : L2H.RoomH k (A.mark v) := ⟨r.dp, r.un⟩
end Vc

/-! Xl: a loop over a locked thing that may raise: the error leaves the lock (my own; over HandS.Iter's lock). -/
namespace Vc
open PySem PySem.Spec PyProof.Rows L2
def lockW (W : WX) (d : Addr) (od : Obj) (u : HO) : WX := fun cls dd σ H => H d = some (.frz od u) ∧ W cls dd σ (upd H d u)
def unD (D : Ends) (d : Addr) (od : Obj) (u : HO) : Ends := ⟨fun σ' H' => H' d = some (.frz od u) ∧ D.nx σ' (upd H' d u), fun v H' => H' d = some (.frz od u) ∧ D.rt v (upd H' d u), fun σ' H' => H' d = some (.frz od u) ∧ D.bk σ' (upd H' d u), fun σ' H' => H' d = some (.frz od u) ∧ D.ct σ' (upd H' d u)⟩
def tLockX (W : WX) (tb : WX → TS) : TS := fun D σ H => ∃ d u, H d = some u ∧ Mut (some u) ∧ ∀ od, tb (lockW W d od u) (unD D d od u) σ (upd H d (.frz od u))
theorem ps_lockX {X : Cx} {st : Stmt} {W : WX} {tb : WX → TS} (po : PassesOwn (model X.prog X.w) X.A X.env X.xe) (tk : Takes X W)
    (hb : ∀ (W : WX) (pn : List (Addr × Obj)) (xe : Value → Shared → Prop), Takes (X.tr pn xe) W → PassesOwn (model X.prog X.w) X.A X.env xe → PS (X.tr pn xe) st (tb W)) : PS X st (tLockX W tb) := by
  refine ⟨fun pins s σ H D I hw => ?_⟩
  obtain ⟨d, u, hd, mu, hw⟩ := hw
  obtain ⟨od, I1⟩ := I.lock hd mu
  have nf := I.nofrz hd mu
  have ok := I.ok
  have T : Takes (X.tr (X.pn ++ pins) X.xe) (lockW W d od u) := fun u' s' ⟨a, B, sI, pins', σ', H', cls, dd, e, I', nb, up, sky, na, os, ag, hf, w⟩ =>
    tk u' s' ⟨a, B, sI, pins, σ', upd H' d u, cls, dd, e, (I'.ofTry ok).unlock hf nf, nb, up, sky, by
      have : a ≠ d := fun z => by rw [z, hf] at na; cases na
      rw [upd_ne this]; exact na, os, ag, w⟩
  refine thn ((hb (lockW W d od u) (X.pn ++ pins) X.xe T po).run [] s σ (upd H d (.frz od u)) (unD D d od u) (I1.toTry _) (hw od)) fun f s1 q => ?_
  cases f with
  | next => obtain ⟨σ', H', I2, e, q⟩ := q; exact ⟨σ', _, (I2.ofTry ok).unlock e nf, q⟩
  | brk => obtain ⟨σ', H', I2, e, q⟩ := q; exact ⟨σ', _, (I2.ofTry ok).unlock e nf, q⟩
  | cont => obtain ⟨σ', H', I2, e, q⟩ := q; exact ⟨σ', _, (I2.ofTry ok).unlock e nf, q⟩
  | ret v => obtain ⟨x, σ', H', I2, r, e, q⟩ := q; exact ⟨x, σ', _, (I2.ofTry ok).unlock e nf, r, q⟩
section
variable {σ : L2.St} {H : Hp} {D : Ends} {g : TG} {t : WX → TS} {W : WX}
/-- for k in d, where a turn may raise -/
theorem lockX_keys {n : Nat} {d : Addr} {kvs : List (Key × V)} (hv : σ[n]? = some (some (.ref d))) (hd : H d = some (.dK kvs)) (S : List Addr) (Pv : Hp → Nat → L2.St → Hp → Prop) (hE : ∀ H1 i σ' H', Pv H1 i σ' H' → Ed S H1 H')
    (h0 : ∀ H1 od, Ed [d] H H1 → H1 d = some (.frz od (.dK kvs)) → Pv H1 0 σ H1)
    (turn : ∀ H1 od i k w σ' H' (W' : WX), (∀ cls dd σ3 H3, Ed S H1 H3 → (∀ H4, Ed S H H4 → H4 d = some (.dK kvs) → (∀ a o, a ≠ d → H3 a = some o → H4 a = some o) → W cls dd σ3 H4) → W' cls dd σ3 H3) →
      Ed [d] H H1 → H1 d = some (.frz od (.dK kvs)) → H' d = some (.frz od (.dK kvs)) → kvs[i]? = some (k, w) → Pv H1 i σ' H' →
      g (kV k) σ' H' fun σ2 H2 => t W' { nx := Pv H1 (i + 1), ct := Pv H1 (i + 1), rt := fun v H3 => H3 d = some (.frz od (.dK kvs)) ∧ D.rt v (upd H3 d (.dK kvs)), bk := fun σ3 H3 => H3 d = some (.frz od (.dK kvs)) ∧ D.nx σ3 (upd H3 d (.dK kvs)) } σ2 H2)
    (done : ∀ H1 σ' H' H2, Ed [d] H H1 → Pv H1 kvs.length σ' H' → Ed S H H2 → H2 d = some (.dK kvs) → (∀ a o, a ≠ d → H' a = some o → H2 a = some o) → D.nx σ' H2) : tLockX W (fun W' => tFor (iKeys (tVar n)) g (t W')) D σ H := by
  refine ⟨d, .dK kvs, hd, trivial, fun od => ?_⟩
  generalize hu : upd H d (.frz od (.dK kvs)) = H1
  obtain ⟨e1, h1⟩ := chg hu hd
  refine ⟨_, hv, d, od, rfl, .inl ⟨kvs, h1, for_it walk_keys (Pv H1) (h0 H1 od e1 h1) (fun i σ' H' _ p => (hE _ _ _ _ p).frz _ _ _ h1) (fun i x σ' H' H2 hi p y => ?_) fun σ' H' p => ?_⟩⟩
  · obtain ⟨rfl, k, w, hk, rfl⟩ := y
    refine turn H1 od i k w σ' H2 _ (fun cls dd σ3 H3 e3 hw => ?_) e1 h1 ((hE _ _ _ _ p).frz _ _ _ h1) hk p
    obtain ⟨e2, h2, k2⟩ := unlock hd trivial hu e3 rfl
    exact ⟨e3.frz _ _ _ h1, hw _ e2 h2 k2⟩
  · obtain ⟨e2, h2, k2⟩ := unlock hd trivial hu (hE _ _ _ _ p) rfl
    exact ⟨(hE _ _ _ _ p).frz _ _ _ h1, done H1 σ' H' _ e1 p e2 h2 k2⟩
end
end Vc

/-! Xq: own classes asked by built-in ways: len(x), y in x (my own; over the library's len_K, in_K). -/
namespace Vc
open PySem PySem.Spec PyProof.Rows L2
section
variable {X : Cx} {C g : Addr} {fd : FuncData} {ps : List Str} {sp : Sp} {n : Nat}
/-- an own special method that promises no error, run -/
theorem runO {A : Around} {pins : List (Addr × Obj)} {σ : L2.St} {s : Shared} {H : Hp} {us : List Value} {vs : List V} {Q : VK} {EE : Value → Shared → Prop} (F : FnOk X.prog X.w X.K X.mg X.base CX0 n g fd ps sp) (hr : Room n A) (hb : Binds X.K fd ps [])
    (I : Inv X pins σ H s) (env0 : Env0 X.prog X.w X.K X.mg X.base A X.stack s H) (r2 : Vals vs us) (q : sp vs H Q E0) :
    wpAny (model X.prog X.w) A (call (.ref g) us) (fun u s' => ∃ z H', Inv X pins σ H' s' ∧ RelV z u ∧ Q z H') EE s := by
  have hl := F.len _ _ _ _ q
  have hb' := hb s us I.kIn (by rw [List.append_nil, ← r2.length]; exact hl)
  rw [List.append_nil] at hb'
  refine wpAny_call (codeAny_mono (F.run A X.stack s H ⟨us, []⟩ us vs _ E0 hr env0 hb' r2 q) fun r s' hq => ?_)
  cases r with
  | error e => exact hq.elim
  | ok fl =>
    cases fl with
    | ret w =>
      obtain ⟨z, H', I', rz, qz⟩ := I.after hq
      exact ⟨z, H', I', rz, qz⟩
    | next => exact False.elim hq
    | brk => exact False.elim hq
    | cont => exact False.elim hq
/-- a class's own special method -/
structure SpM (K : PySem.W.Frag) (C g : Addr) (x : Str) : Prop where
  at_ : PySem.W.findIn K (.ref C) x = some (some (.ref g))
  fn : PySem.W.isFn K (.ref g) = true
/-- len(x) by x's own __len__ -/
def rLenO (C : Addr) (sp : Sp) : List V → Hp → VK → Prop := fun xs H Q => ∃ (a dx : Addr) (fs : List (Str × V)), xs = [.ref a] ∧ H a = some (.ins C dx fs) ∧ sp [.ref a] H (fun v H' => ∃ k : Int, v = .int k ∧ 0 ≤ k ∧ k < 2 ^ 63 ∧ Q (.int k) H') E0
theorem call_lenO (F : FnOk X.prog X.w X.K X.mg X.base CX0 n g fd ps sp) (hr : Room (n + 1) X.A) (m : SpM X.K C g "__len__") (hb : Binds X.K fd ps []) : CallR X (.builtin "len") (rLenO C sp) := by
  intro pins s σ H xs us Q I r h
  obtain ⟨a, dx, fs, rfl, ha, q⟩ := h
  rw [Vals.ref1 r]
  obtain ⟨mA, J, _⟩ := ins_get I.hok ha
  obtain ⟨od, J, _⟩ := J.look
  obtain ⟨mm, hF⟩ := I.fr
  refine PySem.W.len_K hF I.ok.mod.kin J m.at_ m.fn ?_
  refine wpAny_mono (runO (vs := [.ref a]) F hr.in1 hb I I.env0.in1 (.cons rfl .nil) q) (fun u s' hq => ?_) (fun _ _ e => e)
  obtain ⟨z, H', I', rz, k, rfl, k0, k1, qz⟩ := hq
  obtain ⟨t, rfl⟩ := rz
  exact ⟨⟨k0, k1⟩, .int k, H', I'.tok _, ⟨_, rfl⟩, qz⟩
/-- y in x by x's own __contains__ -/
def rInO (C : Addr) (sp : Sp) (b0 : Bool) : R2 := fun y x H Q => ∃ (a dx : Addr) (fs : List (Str × V)), x = .ref a ∧ H a = some (.ins C dx fs) ∧ sp [.ref a, y] H (fun v H' => ∃ b, v = .bl b ∧ Q (.bl (xor b0 b)) H') E0
theorem op_inO (F : FnOk X.prog X.w X.K X.mg X.base CX0 n g fd ps sp) (hr : Room n X.A) (m : SpM X.K C g "__contains__") (hb : Binds X.K fd ps []) : OpR X (compareOp .In) (rInO C sp false) := by
  intro pins s σ H y x v u Q I ry rx h
  obtain ⟨a, dx, fs, rfl, ha, q⟩ := h
  cases rx
  obtain ⟨mA, J, _⟩ := ins_get I.hok ha
  obtain ⟨od, J, _⟩ := J.look
  obtain ⟨mm, hF⟩ := I.fr
  refine PySem.W.in_K hF I.ok.mod.kin J m.at_ m.fn ?_
  refine wpAny_mono (runO (vs := [.ref a, y]) F hr hb I I.env0 (.cons rfl (.cons ry .nil)) q) (fun w' s' hq => ?_) (fun _ _ e => e)
  obtain ⟨z, H', I', rz, b, rfl, qz⟩ := hq
  cases rz
  rw [Bool.false_xor] at qz
  exact wpAny_truthy_bool ⟨.bl b, H', I', rfl, qz⟩
theorem op_notinO (F : FnOk X.prog X.w X.K X.mg X.base CX0 n g fd ps sp) (hr : Room n X.A) (m : SpM X.K C g "__contains__") (hb : Binds X.K fd ps []) : OpR X (compareOp .NotIn) (rInO C sp true) := by
  intro pins s σ H y x v u Q I ry rx h
  obtain ⟨a, dx, fs, rfl, ha, q⟩ := h
  cases rx
  obtain ⟨mA, J, _⟩ := ins_get I.hok ha
  obtain ⟨od, J, _⟩ := J.look
  obtain ⟨mm, hF⟩ := I.fr
  refine PySem.W.notIn_K hF I.ok.mod.kin J m.at_ m.fn ?_
  refine wpAny_mono (runO (vs := [.ref a, y]) F hr hb I I.env0 (.cons rfl (.cons ry .nil)) q) (fun w' s' hq => ?_) (fun _ _ e => e)
  obtain ⟨z, H', I', rz, b, rfl, qz⟩ := hq
  cases rz
  rw [Bool.true_xor] at qz
  exact wpAny_truthy_bool ⟨.bl (!b), H', I', rfl, qz⟩
/-- an own special method whose error is wished for at the caller's slots, run -/
theorem runOS {CX : CXT} {E : XK} {A : Around} {pins : List (Addr × Obj)} {σ : L2.St} {s : Shared} {H : Hp} {us : List Value} {vs : List V} {Q : VK} (F : FnOk X.prog X.w X.K X.mg X.base CX n g fd ps sp) (hr : Room n A) (hb : Binds X.K fd ps [])
    (hx : PassesAt CX X σ E) (I : Inv X pins σ H s) (env0 : Env0 X.prog X.w X.K X.mg X.base A X.stack s H) (r2 : Vals vs us) (q : sp vs H Q E) :
    wpAny (model X.prog X.w) A (call (.ref g) us) (EP X pins σ Q) X.xe s := by
  have hl := F.len _ _ _ _ q
  have hb' := hb s us I.kIn (by rw [List.append_nil, ← r2.length]; exact hl)
  rw [List.append_nil] at hb'
  refine wpAny_call (codeAny_mono (F.run A X.stack s H ⟨us, []⟩ us vs _ E hr env0 hb' r2 q) fun r s' hq => ?_)
  cases r with
  | error e => exact hx pins _ _ e s' I hq
  | ok fl =>
    cases fl with
    | ret w => exact I.after hq
    | next => exact False.elim hq
    | brk => exact False.elim hq
    | cont => exact False.elim hq
/-- x[y] by x's own __getitem__ -/
def tIxO (C : Addr) (sp : Sp) (E : L2.St → XK) (ta tb : TE) : TE := fun σ H Q => ta σ H fun x H1 => tb σ H1 fun y H2 => ∃ (a dx : Addr) (fs : List (Str × V)), x = .ref a ∧ H2 a = some (.ins C dx fs) ∧ sp [.ref a, y] H2 Q (E σ)
theorem pe_ixO {CX : CXT} {E : L2.St → XK} {a b : Expr} {ta tb : TE} {pos : Pos} (ha : PE X a ta) (hb0 : PE X b tb) (m : SpM X.K C g "__getitem__") (mf : PySem.W.fnIn X.K g = true) (F : FnOk X.prog X.w X.K X.mg X.base CX n g fd ps sp) (hr : Room (n + 1) X.A)
    (hb : Binds X.K fd ps []) (hx : ∀ σ, PassesAt CX X σ (E σ)) (hsl : ∀ o i, subscripted b true o i = runValue (.builtin "lifetime.subscript" ⟨[o, i], []⟩) := by intro _ _; with_unfolding_all rfl) : PE X (.Subscript a b pos) (tIxO C sp E ta tb) := by
  refine ⟨fun pins s σ H Q I h => ?_⟩
  refine Subscript_ (binT (R := fun x y H2 => ∃ (a dx : Addr) (fs : List (Str × V)), x = .ref a ∧ H2 a = some (.ins C dx fs) ∧ sp [.ref a, y] H2 Q (E σ)) ha hb0 I h fun v u s2 x y H2 I2 rx ry q => ?_)
  obtain ⟨p, dx, fs, rfl, hp, q⟩ := q
  cases rx
  obtain ⟨mA, J, _⟩ := ins_get I2.hok hp
  obtain ⟨od, J, _⟩ := J.look
  obtain ⟨mm, hF⟩ := I2.fr
  exact PySem.W.sub_K hF I2.ok.mod.kin J m.at_ mf m.fn (runOS (vs := [.ref p, y]) F hr.in1 hb (hx σ) I2 I2.env0.in1 (.cons rfl (.cons ry .nil)) q) (hsl _ _)
section
variable {ta tb : TE} {σ : L2.St} {H : Hp} {Q : VK} {E : L2.St → XK}
theorem go_ixO (h : ta σ H fun x H1 => tb σ H1 fun y H2 => ∃ (a dx : Addr) (fs : List (Str × V)), x = .ref a ∧ H2 a = some (.ins C dx fs) ∧ sp [.ref a, y] H2 Q (E σ)) : tIxO C sp E ta tb σ H Q := h
theorem go_insF {a dx : Addr} {fs : List (Str × V)} {R : Addr → Prop} (ha : H a = some (.ins C dx fs)) (h : R a) : ∃ (a' dx : Addr) (fs : List (Str × V)), V.ref a = .ref a' ∧ H a' = some (.ins C dx fs) ∧ R a' := ⟨a, dx, fs, rfl, ha, h⟩
theorem go_lenO {a dx : Addr} {fs : List (Str × V)} (ha : H a = some (.ins C dx fs)) (h : sp [.ref a] H (fun v H' => ∃ k : Int, v = .int k ∧ 0 ≤ k ∧ k < 2 ^ 63 ∧ Q (.int k) H') E0) : rLenO C sp [.ref a] H Q := ⟨a, dx, fs, rfl, ha, h⟩
theorem go_inO {a dx : Addr} {fs : List (Str × V)} {y : V} {b0 : Bool} (ha : H a = some (.ins C dx fs)) (h : sp [.ref a, y] H (fun v H' => ∃ b, v = .bl b ∧ Q (.bl (xor b0 b)) H') E0) : rInO C sp b0 y (.ref a) H Q := ⟨a, dx, fs, rfl, ha, h⟩
end
end
end Vc

/-! Xs: xs.count(z), xs a list of texts (my own; the way is HandS.SetFor's for ints). -/
namespace Vc
open PySem PySem.Spec PyProof.Rows L2
open Builtin Builtin.Str in
/-- the library's bound -/
theorem short_ok {n : Nat} (h : n ≤ 1000) : tooLong n = false := by
  unfold tooLong
  simp only [decide_eq_false_iff_not, sizeLine_eq]
  omega
def eqs (k : Str) (v : Value) : Bool := match v with
  | .str n _ => n.cps.toList == k.cps.toList
  | _ => false
theorem eqs_beq (n k : Str) : (n.cps.toList == k.cps.toList) = (n == k) := by
  rw [Bool.eq_iff_iff, beq_iff_eq, beq_iff_eq]
  constructor
  · intro h
    cases n; cases k
    exact congrArg Str.mk (Array.toList_inj.mp h)
  · rintro rfl; rfl
theorem eqs_gives {k : Str} {t : Tok} : ∀ {us : List Value} {zs : List Str}, Vals (zs.map V.str) us → ∀ y ∈ us, MeetsSeq.EqGives y (.str k t) (eqs k y)
  | _, [], .nil => fun y hy => by cases hy
  | _, z :: r, .cons h hr => fun y hy => by
    rcases List.mem_cons.mp hy with e | e
    · obtain ⟨t', e'⟩ := h
      rw [e, e']
      exact SeqRoads2.EqGives.str z k t' t
    · exact eqs_gives hr y e
theorem eqs_count {k : Str} : ∀ {us : List Value} {zs : List Str}, Vals (zs.map V.str) us → us.countP (eqs k) = zs.count k
  | _, [], .nil => rfl
  | _, z :: r, .cons h hr => by
    obtain ⟨t', rfl⟩ := h
    rw [List.countP_cons, List.count_cons, eqs_count hr]
    show _ + (if (z.cps.toList == k.cps.toList) = true then 1 else 0) = _
    rw [eqs_beq]
def rCntS (K : PySem.W.Frag) : V → List V → Hp → VK → Prop := fun x xs H Q => ∃ (p : Addr) (zs : List Str) (k : Str), x = .ref p ∧ xs = [.str k] ∧ SqL K H p (zs.map V.str) ∧ Q (.int (zs.count k : Nat)) H
theorem mt_lcountS {X : Cx} : MtR X "list.count" (rCntS X.K) := by
  intro pins s σ H x xs v us Q I rx rxs h
  obtain ⟨p, zs, k, rfl, rfl, hs, q⟩ := h
  cases rx
  obtain ⟨u, rfl, ru⟩ := rxs.one
  obtain ⟨t, rfl⟩ := ru
  obtain ⟨its, rv, ⟨⟨cls, dd, data, sl⟩, n, ho, hc, hdn, hd⟩, hlen⟩ := I.list hs
  simp only at hc hd
  subst hc hd
  refine call_meets PySem.F.slot_list_count ⟨_, ho, rfl⟩ PySem.F.entry_list_count (PySem.F.args_list_count_2 _ _)
    (SeqAt.list_countAt p its.toArray n dd sl (.str k t) (eqs k)) ⟨ho, fun y hy => (eqs_gives rv y (by simpa using hy)).at _ _, ?_⟩
  have ec : its.toArray.toList.countP (eqs k) = zs.count k := eqs_count rv
  refine ⟨.int (zs.count k : Nat), H, I.tok _, ⟨s.toks, ?_⟩, q⟩
  show Value.int ((its.toArray.toList.countP (eqs k) : Nat) : Int) s.toks = Value.int ((zs.count k : Nat) : Int) s.toks
  rw [ec]
theorem go_cntS {K : PySem.W.Frag} {H : Hp} {Q : VK} {p : Addr} {zs : List Str} {k : Str} (e : SqL K H p (zs.map V.str)) (h : Q (.int (zs.count k : Nat)) H) : rCntS K (.ref p) [.str k] H Q := ⟨p, zs, k, rfl, rfl, e, h⟩
theorem rep_sign {c : Nat} : ∀ n : Nat, (List.replicate n (#[c] : Array Nat)).foldl (· ++ ·) #[] = (List.replicate n c).toArray := by
  have g : ∀ (n : Nat) (a : Array Nat), (List.replicate n (#[c] : Array Nat)).foldl (· ++ ·) a = a ++ (List.replicate n c).toArray := by
    intro n
    induction n with
    | zero => intro a; simp
    | succ n ih =>
      intro a
      rw [List.replicate_succ, List.foldl_cons, ih, List.replicate_succ]
      apply Array.toList_inj.mp
      simp
  intro n
  rw [g]; simp
theorem mul_sign {c : Nat} {n : Int} (h : 1 ≤ n) : Txt.mul ⟨#[c]⟩ n = ⟨(List.replicate n.toNat c).toArray⟩ := by
  unfold Txt.mul
  rw [if_neg (by omega)]
  by_cases h1 : n = 1
  · subst h1
    rfl
  · rw [if_neg (by
      have : ((⟨#[c]⟩ : Str).length == 0) = false := rfl
      rw [this, Bool.or_false]
      simpa using h1), rep_sign]
/-- a sign, n times -/
theorem op_mulSign {X : Cx} : OpR X (binaryOp .Mult) (fun x y H Q => ∃ (c : Nat) (n : Int), x = .str ⟨#[c]⟩ ∧ y = .int n ∧ 1 ≤ n ∧ n ≤ 1000 ∧ Q (.str ⟨(List.replicate n.toNat c).toArray⟩) H) := by
  intro pins s σ H x y v u Q I rx ry h
  obtain ⟨c, n, rfl, rfl, n0, n1, q⟩ := h
  obtain ⟨t, rfl⟩ := rx
  obtain ⟨t', rfl⟩ := ry
  refine SB.mul ⟨?_, fun _ _ => ?_, fun _ _ => ?_⟩ fun t2 k => ⟨.str _, H, I.tok k, ⟨t2, by rw [mul_sign n0]⟩, q⟩
  · have e1 : decide (n < -(2 ^ 63 : Int)) = false := decide_eq_false (by omega)
    have e2 : decide (n ≥ 2 ^ 63) = false := decide_eq_false (by omega)
    rw [e1, e2]; rfl
  · show ¬ ((1 : Int) > _)
    have : (1 : Int) ≤ (2 ^ 63 - 1) / n := (Int.le_ediv_iff_mul_le (by omega)).mpr (by omega)
    omega
  · exact short_ok (by show 1 * n.toNat ≤ 1000; omega)
end Vc

local macro_rules | `(tactic| walk_at "go1") => `(tactic| first
  | with_reducible refine Vc.go_seq ?_
  | with_reducible refine Vc.go_asg ?_
  | with_reducible refine Vc.go_name ?_
  | ((with_reducible refine' Vc.go_var ?hv ?_); (case hv => rfl))
  | with_reducible refine Vc.go_c ?_
  | with_reducible refine Vc.go_op ?_
  | with_reducible refine Vc.go_un ?_
  | with_reducible refine Vc.go_cb ?_
  | with_reducible refine Vc.go_cons ?_
  | with_reducible refine Vc.go_nil ?_
  | with_reducible refine Vc.go_dget ?_
  | with_reducible refine Vc.go_drop ?_
  | with_reducible refine Vc.go_chain ?_
  | with_reducible refine Vc.go_cvalR ?_
  | with_reducible refine Vc.go_fld ?_
  | with_reducible refine Vc.go_sfld ?_
  | with_reducible refine Vc.go_make ?_
  | with_reducible refine Vc.go_meth ?_
  | with_reducible refine Vc.go_dc ?_
  | with_reducible refine Vc.go_lenSet ?_
  | ((with_reducible refine' Vc.go_aug ?hv ?_); (case hv => rfl))
  | with_reducible refine Vc.go_ipI ?_
  | ((with_reducible refine' Vc.go_addS ?l ?_); (case l => walk_at "ln"))
  | with_reducible refine Vc.go_M1 ?_
  | with_reducible refine Vc.go_M0 ?_
  | with_reducible refine Vc.go_isS ?_
  | with_reducible refine Vc.go_sub ?_
  | ((with_reducible refine' Vc.go_tupD ?e ?_); (case e => walk_at "hs"))
  | ((with_reducible refine' Vc.go_tupDT ?e ?_); (case e => walk_at "hs"))
  | ((with_reducible refine' Vc.go_lstDO ?e ?_); (case e => assumption))
  | ((with_reducible refine' Vc.go_lstD ?e ?_); (case e => walk_at "hs"))
  | ((with_reducible refine' Vc.go_lstDT ?e ?_); (case e => walk_at "hs"))
  | with_reducible refine Vc.go_strE ?_
  | with_reducible refine Vc.go_sign ?_
  | with_reducible refine Vc.go_for ?_
  | with_reducible refine Vc.go_iList ?_
  | with_reducible refine Vc.go_iTup ?_
  | with_reducible refine Vc.go_iRng1 ?_
  | with_reducible refine Vc.go_iRng2 ?_
  | with_reducible refine Vc.go_iStr ?_
  | with_reducible refine Vc.go_lc ?_
  | with_reducible refine Vc.go_disp ?_
  | with_reducible refine Vc.go_pairs ?_
  | with_reducible refine Vc.go_pairs0 ?_
  | with_reducible refine' L2.iteT ?_
  | with_reducible refine' L2.iteF ?_
  | with_reducible refine' Vc.go_neL ?_
  | with_reducible refine' Vc.go_nNone ?_
  | with_reducible refine' Vc.go_nSome ?_
  | with_reducible refine' Vc.go_None ?_
  | with_reducible refine' Vc.go_Some ?_
  | with_reducible refine' Vc.go_eqL ?_
  | with_reducible refine' Vc.go_nT ?_
  | with_reducible refine' Vc.go_nF ?_
  | with_reducible refine Vc.go_ret ?_
  | with_reducible refine Vc.go_retN ?_
  | with_reducible refine Vc.go_next ?_
  | with_reducible refine Vc.go_ifS ?_
  | with_reducible refine Vc.go_test ?_
  | with_reducible refine Vc.go_B ?_
  | with_reducible refine Vc.go_bl ?_
  | with_reducible refine Vc.go_blP ?_
  | with_reducible refine Vc.go_notT ?_
  | with_reducible refine Vc.go_andT ?_
  | with_reducible refine Vc.go_orT ?_
  | with_reducible refine Vc.go_yes ?_
  | with_reducible refine Vc.go_andV ?_
  | with_reducible refine Vc.go_orV ?_
  | with_reducible refine Vc.go_notV ?_
  | with_reducible refine Vc.go_if ?_
  | with_reducible refine Vc.go_I0 ?_
  | with_reducible refine Vc.go_U ?_
  | ((with_reducible refine' Vc.go_I ?hc ?_); (case hc => walk_at "side"))
  | with_reducible refine Vc.go_eqI ?_
  | with_reducible refine Vc.go_neI ?_
  | with_reducible refine Vc.go_eqS ?_
  | with_reducible refine Vc.go_neS ?_
  | with_reducible refine Vc.go_eqB ?_
  | with_reducible refine Vc.go_neB ?_
  | ((with_reducible refine' Vc.go_isi ?ht ?hk ?_); (case ht => walk_at "ty"); (case hk => walk_at "kit"))
  | ((with_reducible refine' Vc.go_isiT2 ?ht ?e ?hk ?hk2 ?hc ?_); (case ht => walk_at "ty"); (case e => walk_at "hs"); (case hk => walk_at "kit"); (case hk2 => walk_at "kit"); (case hc => first | exact Vc.or_t | exact Vc.or_f))
  | with_reducible refine Vc.go_isN ?_
  | with_reducible refine' Vc.go_iteNT ?_
  | ((with_reducible refine' Vc.go_iteN ?h ?_); (case h => (intro z; cases z)))
  | ((with_reducible refine' Vc.go_cval ?hr ?hv ?_); (case hr => assumption); (case hv => assumption))
  | ((with_reducible refine' Vc.go_fldV ?e ?hl ?c ?n ?_); (case e => walk_at "hs"); (case hl => walk_at "fl"); (case c => assumption); (case n => assumption))
  | ((with_reducible refine' Vc.go_sfldV ?e ?l ?c ?n ?_); (case e => walk_at "hs"); (case l => walk_at "fn"); (case c => assumption); (case n => assumption))
  | ((with_reducible refine' Vc.go_methV ?e ?l ?_); (case e => walk_at "hs"); (case l => walk_at "fl"))
  | ((with_reducible refine' Vc.go_lenD ?e ?_); (case e => walk_at "hs"))
  | ((with_reducible refine' Vc.go_listD ?e ?_); (case e => walk_at "hs"))
  | ((with_reducible refine' Vc.go_lenS ?l ?_); (case l => walk_at "ln"))
  | ((with_reducible refine' Vc.go_dgetIF ?he ?hv ?_); (case he => walk_at "hs"); (case hv => walk_at "dv"))
  | ((with_reducible refine' Vc.go_inL ?e ?hx ?hf ?_); (case e => walk_at "hs"); (case hx => rfl); (case hf => walk_at "flat"))
  | ((with_reducible refine' Vc.go_inT ?e ?hx ?hf ?_); (case e => walk_at "hs"); (case hx => rfl); (case hf => walk_at "flat"))
  | ((with_reducible refine' Vc.go_niL ?e ?hx ?hf ?_); (case e => walk_at "hs"); (case hx => rfl); (case hf => walk_at "flat"))
  | ((with_reducible refine' Vc.go_niT ?e ?hx ?hf ?_); (case e => walk_at "hs"); (case hx => rfl); (case hf => walk_at "flat"))
  | with_reducible refine Vc.go_call ?_
  | with_reducible refine Vc.go_raiseT ?_
  | with_reducible refine Vc.go_mkO ?_
  | with_reducible refine Vc.go_err1 ?_
  | with_reducible refine Vc.go_err2 ?_
  | with_reducible refine Vc.go_callS ?_
  | with_reducible refine Vc.go_callI ?_
  | with_reducible refine Vc.go_methS ?_
  | with_reducible refine Vc.go_makeS ?_
  | with_reducible refine Vc.go_callIK ?_
  | with_reducible refine Vc.go_refE ?_
  | ((with_reducible refine' Vc.go_insD ?e ?_); (case e => walk_at "hs"))
  | with_reducible refine Vc.go_xfX ?_
  | ((with_reducible refine' Vc.go_xfXV ?T ?n ?e ?l ?_); (case T => assumption); (case n => assumption); (case e => walk_at "hs"); (case l => walk_at "fl"))
  | ((with_reducible refine' Vc.go_isXC ?C ?d ?k ?_); (case C => assumption); (case d => ((with_reducible refine' Vc.xdAt ?e); (case e => walk_at "hs"))); (case k => assumption))
  | ((with_reducible refine' Vc.go_isXT ?C ?d ?k ?_); (case C => assumption); (case d => ((with_reducible refine' Vc.xdAt ?e); (case e => walk_at "hs"))); (case k => assumption))
  | with_reducible refine Vc.go_ixO ?_
  | ((with_reducible refine' Vc.go_cntS ?e ?_); (case e => walk_at "hs"))
  | ((with_reducible refine' Vc.go_insF ?e ?_); (case e => walk_at "hs"))
  | ((with_reducible refine' Vc.go_lenO ?e ?_); (case e => walk_at "hs"))
  | ((with_reducible refine' Vc.go_inO ?e ?_); (case e => walk_at "hs"))
  | with_reducible refine Vc.go_iRngL ?_
  | with_reducible refine Vc.go_iRngLV ?_
  | with_reducible refine Vc.go_lstRg ?_
  | with_reducible refine Vc.go_lstRgV ?_
  | with_reducible refine Vc.go_tryX ?_
  | with_reducible refine Vc.go_setP ?_
  | ((with_reducible refine' Vc.go_setPV ?e ?_); (case e => walk_at "hs"))
  | with_reducible refine Vc.go_prop ?_
  | with_reducible refine Vc.go_makeK ?_
  | with_reducible refine Vc.go_make0 ?_
  | with_reducible refine Vc.go_xfT ?_
  | ((with_reducible refine' Vc.go_xfTV ?E ?T ?n ?l ?_); (case E => walk_at "bd"); (case T => assumption); (case n => assumption); (case l => walk_at "fl"))
  | ((with_reducible refine' Vc.go_isTC ?E ?C ?k ?_); (case E => walk_at "bd"); (case C => assumption); (case k => assumption))
  | ((with_reducible refine' Vc.go_isTT ?E ?C ?k ?_); (case E => walk_at "bd"); (case C => assumption); (case k => assumption))
  | with_reducible refine Vc.go_tryAs ?_
  | with_reducible refine Vc.go_tryOnly ?_
  | with_reducible refine Vc.go_tup ?_
  | with_reducible refine Vc.go_lst ?_
  | with_reducible refine Vc.go_dnew ?_
  | with_reducible refine Vc.go_din ?_
  | with_reducible refine Vc.go_dnotin ?_
  | with_reducible refine Vc.go_dput ?_
  | with_reducible refine Vc.go_sl ?_
  | with_reducible refine Vc.go_nopart ?_
  | with_reducible refine Vc.go_part ?_
  | with_reducible refine Vc.go_partI ?_
  | with_reducible refine Vc.go_bm ?_
  | with_reducible refine Vc.go_bm0 ?_
  | with_reducible refine Vc.go_abs ?_
  | with_reducible refine Vc.go_int1 ?_
  | with_reducible refine Vc.go_int1b ?_
  | ((with_reducible refine' Vc.go_dgetS ?he ?hv ?_); (case he => walk_at "hs"); (case hv => walk_at "dv"))
  | ((with_reducible refine' Vc.go_dgetI ?he ?hv ?_); (case he => walk_at "hs"); (case hv => walk_at "dv"))
  | ((with_reducible refine' Vc.go_dputS ?he ?hl ?_); (case he => walk_at "hs"); (case hl => walk_at "ln"))
  | ((with_reducible refine' Vc.go_dputI ?he ?hl ?_); (case he => walk_at "hs"); (case hl => walk_at "ln"))
  | ((with_reducible refine' Vc.go_dinI ?he ?_); (case he => walk_at "hs"))
  | with_reducible refine Vc.go_methK ?_
  | with_reducible refine Vc.go_callK ?_
  | ((with_reducible refine' Vc.go_lenL ?he ?_); (case he => walk_at "hs"))
  | ((with_reducible refine' Vc.go_lenT ?he ?_); (case he => walk_at "hs"))
  | ((with_reducible refine' Vc.go_slS ?hz ?_); (case hz => walk_at "ln"))
  | ((with_reducible refine' Vc.go_slL ?he ?_); (case he => walk_at "hs"))
  | ((with_reducible refine' Vc.go_tyL ?he ?_); (case he => walk_at "hs"))
  | ((with_reducible refine' Vc.go_len ?hl ?_); (case hl => walk_at "ln"))
  | ((with_reducible refine' Vc.go_append ?he ?hl ?_); (case he => walk_at "hs"); (case hl => walk_at "ln"))
  | ((with_reducible refine' Vc.go_ixL ?he ?hv ?_); (case he => walk_at "hs"); (case hv => walk_at "ix"))
  | ((with_reducible refine' Vc.go_ixT ?he ?hv ?_); (case he => walk_at "hs"); (case hv => walk_at "ix"))
  | ((with_reducible refine' Vc.go_ixS ?he ?hv ?_); (case he => walk_at "ln"); (case hv => walk_at "ix")))
local macro_rules | `(tactic| walk_at "kit") => `(tactic| first
  | with_reducible exact Vc.kit_int_int
  | with_reducible exact Vc.kit_int_bool
  | with_reducible exact Vc.kit_int_str
  | with_reducible exact Vc.kit_int_tuple
  | with_reducible exact Vc.kit_int_list
  | with_reducible exact Vc.kit_int_dict
  | with_reducible exact Vc.kit_bool_int
  | with_reducible exact Vc.kit_bool_bool
  | with_reducible exact Vc.kit_bool_str
  | with_reducible exact Vc.kit_bool_tuple
  | with_reducible exact Vc.kit_bool_list
  | with_reducible exact Vc.kit_bool_dict
  | with_reducible exact Vc.kit_str_int
  | with_reducible exact Vc.kit_str_bool
  | with_reducible exact Vc.kit_str_str
  | with_reducible exact Vc.kit_str_tuple
  | with_reducible exact Vc.kit_str_list
  | with_reducible exact Vc.kit_str_dict
  | with_reducible exact Vc.kit_NoneType_int
  | with_reducible exact Vc.kit_NoneType_bool
  | with_reducible exact Vc.kit_NoneType_str
  | with_reducible exact Vc.kit_NoneType_tuple
  | with_reducible exact Vc.kit_NoneType_list
  | with_reducible exact Vc.kit_NoneType_dict
  | with_reducible exact Vc.kit_list_int
  | with_reducible exact Vc.kit_list_bool
  | with_reducible exact Vc.kit_list_str
  | with_reducible exact Vc.kit_list_tuple
  | with_reducible exact Vc.kit_list_list
  | with_reducible exact Vc.kit_list_dict
  | with_reducible exact Vc.kit_tuple_int
  | with_reducible exact Vc.kit_tuple_bool
  | with_reducible exact Vc.kit_tuple_str
  | with_reducible exact Vc.kit_tuple_tuple
  | with_reducible exact Vc.kit_tuple_list
  | with_reducible exact Vc.kit_tuple_dict
  | with_reducible exact Vc.kit_dict_int
  | with_reducible exact Vc.kit_dict_bool
  | with_reducible exact Vc.kit_dict_str
  | with_reducible exact Vc.kit_dict_tuple
  | with_reducible exact Vc.kit_dict_list
  | with_reducible exact Vc.kit_dict_dict)
local macro_rules | `(tactic| walk_at "ty") => `(tactic| first
  | with_reducible exact .base (.int _)
  | with_reducible exact .base (.bl _)
  | with_reducible exact .base (.str _)
  | with_reducible exact .base .non
  | ((with_reducible refine' Vc.tyL ?h); (case h => walk_at "hs"))
  | ((with_reducible refine' Vc.tyT ?h); (case h => walk_at "hs")))
local macro_rules | `(tactic| walk_at "fl") => `(tactic| first | assumption | rfl)
local macro_rules | `(tactic| walk_at "fn") => `(tactic| first | assumption | exact (show 0 < 1000 by decide) | exact (show 1 < 1000 by decide) | exact (show 2 < 1000 by decide) | exact (show 3 < 1000 by decide) | exact (show 4 < 1000 by decide) | exact (show 5 < 1000 by decide) | exact (show 6 < 1000 by decide))
local macro_rules | `(tactic| walk_at "goo") => `(tactic| repeat (first
  | walk_at "go1"
  | ((with_reducible refine' Vc.go_iteT' ?h ?_); (case h => omega))
  | ((with_reducible refine' Vc.go_iteF' ?h ?_); (case h => omega))
  | ((with_reducible refine' Vc.go_itenT' ?h ?_); (case h => omega))
  | ((with_reducible refine' Vc.go_itenF' ?h ?_); (case h => omega))
  | ((with_reducible refine' Vc.go_iteT' ?h ?_); (case h => decide))
  | ((with_reducible refine' Vc.go_iteF' ?h ?_); (case h => decide))))
local macro_rules | `(tactic| walk_at "flat") => `(tactic| first | assumption | rfl)
local macro_rules | `(tactic| walk_at "ix") => `(tactic| first | assumption | rfl)
local macro_rules | `(tactic| walk_at "dv") => `(tactic| first | assumption | rfl)
local macro_rules | `(tactic| walk_at "ln") => `(tactic| first | assumption | (simp only [List.length_cons, List.length_nil, List.length_append, List.length_map]; omega) | decide)
local macro_rules | `(tactic| walk_at "go") => `(tactic| repeat walk_at "go1")
local macro_rules | `(tactic| walk_at "side") => `(tactic| first
  | omega
  | (dsimp only; omega)
  | exact ⟨by omega, by omega, by omega⟩
  | exact Vc.mulw (by omega) (by omega)
  | exact Vc.divw (by omega) (by omega))
local macro_rules | `(tactic| walk_at "hs") => `(tactic| first
  | assumption
  | ((with_reducible refine' Vc.Ed.at0 ?e ?h); (case e => assumption); (case h => walk_at "hs"))
  | ((with_reducible refine' Vc.Ed.at1 ?e ?n ?h); (case e => assumption); (case n => walk_at "ne"); (case h => walk_at "hs"))
  | ((with_reducible refine' Vc.Ed.at2 ?e ?n ?m ?h); (case e => assumption); (case n => walk_at "ne"); (case m => walk_at "ne"); (case h => walk_at "hs"))
  | ((with_reducible refine' Vc.frz' ?e ?h); (case e => assumption); (case h => walk_at "hs"))
  | ((with_reducible refine' L2.SqL.of ?h); (case h => walk_at "hs"))
  | ((with_reducible refine' Vc.all_sqt ?h _); (case h => assumption))
  | ((with_reducible refine' Vc.sqt_of ?h); (case h => walk_at "hs"))
  | ((with_reducible refine' Vc.Ed.sqt ?e ?h); (case e => assumption); (case h => walk_at "hs"))
  | ((with_reducible refine' Vc.Ed.sql0 ?e ?h); (case e => assumption); (case h => walk_at "hs"))
  | ((with_reducible refine' Vc.Ed.sql1 ?e ?n ?h); (case e => assumption); (case n => walk_at "ne"); (case h => walk_at "hs")))
local macro_rules | `(tactic| walk_at "ne") => `(tactic| first
  | assumption
  | ((with_reducible refine' Ne.symm ?h); (case h => assumption))
  | ((with_reducible refine' Vc.ne1 ?e ?h); (case e => assumption); (case h => walk_at "hs"))
  | ((with_reducible refine' Vc.ne2 ?e ?h); (case e => assumption); (case h => walk_at "hs"))
  | ((with_reducible refine' Vc.nek ?e ?h ?d); (case e => assumption); (case h => assumption); (case d => intro z; cases z)))
local macro_rules | `(tactic| walk_at "free") => `(tactic| first
  | assumption
  | ((with_reducible refine' Vc.Ed.back ?e ?h); (case e => assumption); (case h => walk_at "free")))
local macro_rules | `(tactic| walk_at "in") => `(tactic| first
  | ((with_reducible refine' Or.inl ?h); (case h => (simp only [List.mem_cons, List.not_mem_nil, or_false, true_or, or_true]; done)))
  | ((with_reducible refine' Or.inr ?h); (case h => walk_at "free")))
local macro_rules | `(tactic| walk_at "ed") => `(tactic| first
  | assumption
  | with_reducible exact Vc.Ed.refl
  | ((with_reducible refine' Vc.Ed.ex' ?b ?a); (case b => assumption); (case a => walk_at "ed"))
  | ((with_reducible refine' Vc.Ed.one' ?b ?a ?h); (case b => assumption); (case a => walk_at "ed"); (case h => walk_at "in"))
  | ((with_reducible refine' Vc.Ed.two' ?b ?a ?h ?g); (case b => assumption); (case a => walk_at "ed"); (case h => walk_at "in"); (case g => walk_at "in")))
local macro_rules | `(tactic| walk_at "bd") => `(tactic| first
  | assumption
  | ((with_reducible refine' Vc.ErrAt.ed0 ?e ?h); (case e => assumption); (case h => walk_at "bd")))

namespace My
open PySem PySem.Spec PyProof.Rows L2
abbrev PG : Program := PySem.Challenge.pw_codestitch_k04_refused_code_sets
def topS (i : Nat) : Stmt := PySem.Challenge.pw_codestitch_k04_refused_code_sets.main.body.getD i (.Pass ⟨0, 0, 0, 0⟩)
abbrev s_is_byte : Stmt := topS 13
theorem sc_is_byte : FnScope ["value"] ["value"] (defScope s_is_byte) := ⟨rfl, rfl, rfl, by decide +kernel, rfl, by decide +kernel, by decide +kernel⟩
abbrev s_is_name : Stmt := topS 14
theorem sc_is_name : FnScope ["value", "sign"] ["value"] (defScope s_is_name) := ⟨rfl, rfl, rfl, by decide +kernel, rfl, by decide +kernel, by decide +kernel⟩
abbrev s_Formu_initu : Stmt := inClass (topS 15) 1
theorem sc_Formu_initu : FnScope ["self", "name", "length", "flow", "least"] ["self", "name", "length", "flow"] (defScope s_Formu_initu) := ⟨rfl, rfl, rfl, by decide +kernel, rfl, by decide +kernel, by decide +kernel⟩
abbrev s_check_forms : Stmt := topS 16
theorem sc_check_forms : FnScope ["stop", "forms", "names", "byte"] ["stop", "forms"] (defScope s_check_forms) := ⟨rfl, rfl, rfl, by decide +kernel, rfl, by decide +kernel, by decide +kernel⟩
abbrev s_CodeSetu_initu : Stmt := inClass (topS 17) 2
theorem sc_CodeSetu_initu : FnScope ["self", "stop", "forms", "byte"] ["self", "stop", "forms"] (defScope s_CodeSetu_initu) := ⟨rfl, rfl, rfl, by decide +kernel, rfl, by decide +kernel, by decide +kernel⟩
abbrev s_CodeSetu_lenu : Stmt := inClass (topS 17) 6
theorem sc_CodeSetu_lenu : FnScope ["self"] ["self"] (defScope s_CodeSetu_lenu) := ⟨rfl, rfl, rfl, by decide +kernel, rfl, by decide +kernel, by decide +kernel⟩
abbrev s__law_bag : Stmt := topS 19
theorem sc__law_bag : FnScope ["_law_script", "_law_state", "_law_cell"] ["_law_script"] (defScope s__law_bag) := ⟨rfl, rfl, rfl, by decide +kernel, rfl, by decide +kernel, by decide +kernel⟩
abbrev s__law_draw : Stmt := topS 20
theorem sc__law_draw : FnScope ["_law_bag_here", "_law_limit", "_law_cell", "_law_mixed", "_law_found"] ["_law_bag_here", "_law_limit"] (defScope s__law_draw) := ⟨rfl, rfl, rfl, by decide +kernel, rfl, by decide +kernel, by decide +kernel⟩
abbrev s__law_same : Stmt := topS 21
theorem sc__law_same : FnScope ["_law_actual", "_law_expected", "_law_k"] ["_law_actual", "_law_expected"] (defScope s__law_same) := ⟨rfl, rfl, rfl, by decide +kernel, rfl, by decide +kernel, by decide +kernel⟩
abbrev s__law_part : Stmt := topS 22
theorem sc__law_part : FnScope ["_law_error"] ["_law_error"] (defScope s__law_part) := ⟨rfl, rfl, rfl, by decide +kernel, rfl, by decide +kernel, by decide +kernel⟩
abbrev s__law_form : Stmt := topS 23
theorem sc__law_form : FnScope ["_law_name_here", "_law_length", "_law_flow", "_law_form_here", "_law_error"] ["_law_name_here", "_law_length", "_law_flow"] (defScope s__law_form) := ⟨rfl, rfl, rfl, by decide +kernel, rfl, by decide +kernel, by decide +kernel⟩
abbrev s__law_form_due : Stmt := topS 24
theorem sc__law_form_due : FnScope ["_law_name_here", "_law_length", "_law_flow", "_law_letters", "_law_sign"] ["_law_name_here", "_law_length", "_law_flow"] (defScope s__law_form_due) := ⟨rfl, rfl, rfl, by decide +kernel, rfl, by decide +kernel, by decide +kernel⟩
abbrev s__law_name : Stmt := topS 25
theorem sc__law_name : FnScope ["_law_bag_here", "_law_letters", "_law_strange", "_law_size", "_law_name_here", "_law_at", "_law_k"] ["_law_bag_here"] (defScope s__law_name) := ⟨rfl, rfl, rfl, by decide +kernel, rfl, by decide +kernel, by decide +kernel⟩
abbrev s__law_set : Stmt := topS 26
theorem sc__law_set : FnScope ["_law_stop", "_law_forms", "_law_codes", "_law_error"] ["_law_stop", "_law_forms"] (defScope s__law_set) := ⟨rfl, rfl, rfl, by decide +kernel, rfl, by decide +kernel, by decide +kernel⟩
abbrev s__law_set_due : Stmt := topS 27
theorem sc__law_set_due : FnScope ["_law_stop", "_law_names_here", "_law_told", "_law_byte"] ["_law_stop", "_law_names_here"] (defScope s__law_set_due) := ⟨rfl, rfl, rfl, by decide +kernel, rfl, by decide +kernel, by decide +kernel⟩
abbrev s__law_names : Stmt := topS 28
theorem sc__law_names : FnScope ["_law_bag_here", "_law_stop", "_law_letters", "_law_names_here", "_law_k", "_law_byte", "_law_keys", "_law_kind", "_law_at"] ["_law_bag_here", "_law_stop"] (defScope s__law_names) := ⟨rfl, rfl, rfl, by decide +kernel, rfl, by decide +kernel, by decide +kernel⟩
abbrev s_law : Stmt := topS 29
theorem sc_law : FnScope ["_law_script", "_law_bag_here", "_law_k", "_law_name_here", "_law_length", "_law_flow", "_law_stop", "_law_names_here", "_law_forms", "_law_byte"] ["_law_script"] (defScope s_law) := ⟨rfl, rfl, rfl, by decide +kernel, rfl, by decide +kernel, by decide +kernel⟩
abbrev s_BadCodesu_initu : Stmt := inClass (topS 6) 0
theorem sc_BadCodesu_initu : Vc.SupScope ["self", "part"] ["self", "part"] (defScope s_BadCodesu_initu) := ⟨rfl, rfl, rfl, by decide +kernel, rfl, by decide +kernel, by decide +kernel, by decide +kernel, rfl, rfl⟩
structure Ad where
  C_Form : Addr
  C_CodeSet : Addr
  f_is_byte : Addr
  d_is_byte : FuncData
  f_is_name : Addr
  d_is_name : FuncData
  f_Formu_initu : Addr
  d_Formu_initu : FuncData
  f_check_forms : Addr
  d_check_forms : FuncData
  f_CodeSetu_initu : Addr
  d_CodeSetu_initu : FuncData
  f_CodeSetu_lenu : Addr
  d_CodeSetu_lenu : FuncData
  f__law_bag : Addr
  d__law_bag : FuncData
  f__law_draw : Addr
  d__law_draw : FuncData
  f__law_same : Addr
  d__law_same : FuncData
  f__law_part : Addr
  d__law_part : FuncData
  f__law_form : Addr
  d__law_form : FuncData
  f__law_form_due : Addr
  d__law_form_due : FuncData
  f__law_name : Addr
  d__law_name : FuncData
  f__law_set : Addr
  d__law_set : FuncData
  f__law_set_due : Addr
  d__law_set_due : FuncData
  f__law_names : Addr
  d__law_names : FuncData
  f_law : Addr
  d_law : FuncData
  C_CodeError : Addr
  C_BadInput : Addr
  C_NotRight : Addr
  C_NoWay : Addr
  C_BadByte : Addr
  C_BadLayout : Addr
  C_BadAddress : Addr
  C_BadCodes : Addr
  f_BadCodesu_initu : Addr
  d_BadCodesu_initu : FuncData
  a_FLOWS : Addr
structure Txt (K : PySem.W.Frag) (mg : Str → Option Value) (A : Ad) : Prop where
  g_Form : mg "Form" = some (.ref A.C_Form)
  g_CodeSet : mg "CodeSet" = some (.ref A.C_CodeSet)
  g_is_byte : mg "is_byte" = some (.ref A.f_is_byte)
  F_is_byte : Fun K "is_byte" "is_byte" s_is_byte A.f_is_byte A.d_is_byte
  b_is_byte : Binds K A.d_is_byte ["value"] []
  g_is_name : mg "is_name" = some (.ref A.f_is_name)
  F_is_name : Fun K "is_name" "is_name" s_is_name A.f_is_name A.d_is_name
  b_is_name : Binds K A.d_is_name ["value"] []
  F_Formu_initu : Fun K "__init__" "Form.__init__" s_Formu_initu A.f_Formu_initu A.d_Formu_initu
  b_Formu_initu : Binds K A.d_Formu_initu ["self", "name", "length", "flow"] []
  g_check_forms : mg "check_forms" = some (.ref A.f_check_forms)
  F_check_forms : Fun K "check_forms" "check_forms" s_check_forms A.f_check_forms A.d_check_forms
  b_check_forms : Binds K A.d_check_forms ["stop", "forms"] []
  F_CodeSetu_initu : Fun K "__init__" "CodeSet.__init__" s_CodeSetu_initu A.f_CodeSetu_initu A.d_CodeSetu_initu
  b_CodeSetu_initu : Binds K A.d_CodeSetu_initu ["self", "stop", "forms"] []
  F_CodeSetu_lenu : Fun K "__len__" "CodeSet.__len__" s_CodeSetu_lenu A.f_CodeSetu_lenu A.d_CodeSetu_lenu
  b_CodeSetu_lenu : Binds K A.d_CodeSetu_lenu ["self"] []
  g__law_bag : mg "_law_bag" = some (.ref A.f__law_bag)
  F__law_bag : Fun K "_law_bag" "_law_bag" s__law_bag A.f__law_bag A.d__law_bag
  b__law_bag : Binds K A.d__law_bag ["_law_script"] []
  g__law_draw : mg "_law_draw" = some (.ref A.f__law_draw)
  F__law_draw : Fun K "_law_draw" "_law_draw" s__law_draw A.f__law_draw A.d__law_draw
  b__law_draw : Binds K A.d__law_draw ["_law_bag_here", "_law_limit"] []
  g__law_same : mg "_law_same" = some (.ref A.f__law_same)
  F__law_same : Fun K "_law_same" "_law_same" s__law_same A.f__law_same A.d__law_same
  b__law_same : Binds K A.d__law_same ["_law_actual", "_law_expected"] []
  g__law_part : mg "_law_part" = some (.ref A.f__law_part)
  F__law_part : Fun K "_law_part" "_law_part" s__law_part A.f__law_part A.d__law_part
  b__law_part : Binds K A.d__law_part ["_law_error"] []
  g__law_form : mg "_law_form" = some (.ref A.f__law_form)
  F__law_form : Fun K "_law_form" "_law_form" s__law_form A.f__law_form A.d__law_form
  b__law_form : Binds K A.d__law_form ["_law_name_here", "_law_length", "_law_flow"] []
  g__law_form_due : mg "_law_form_due" = some (.ref A.f__law_form_due)
  F__law_form_due : Fun K "_law_form_due" "_law_form_due" s__law_form_due A.f__law_form_due A.d__law_form_due
  b__law_form_due : Binds K A.d__law_form_due ["_law_name_here", "_law_length", "_law_flow"] []
  g__law_name : mg "_law_name" = some (.ref A.f__law_name)
  F__law_name : Fun K "_law_name" "_law_name" s__law_name A.f__law_name A.d__law_name
  b__law_name : Binds K A.d__law_name ["_law_bag_here"] []
  g__law_set : mg "_law_set" = some (.ref A.f__law_set)
  F__law_set : Fun K "_law_set" "_law_set" s__law_set A.f__law_set A.d__law_set
  b__law_set : Binds K A.d__law_set ["_law_stop", "_law_forms"] []
  g__law_set_due : mg "_law_set_due" = some (.ref A.f__law_set_due)
  F__law_set_due : Fun K "_law_set_due" "_law_set_due" s__law_set_due A.f__law_set_due A.d__law_set_due
  b__law_set_due : Binds K A.d__law_set_due ["_law_stop", "_law_names_here"] []
  g__law_names : mg "_law_names" = some (.ref A.f__law_names)
  F__law_names : Fun K "_law_names" "_law_names" s__law_names A.f__law_names A.d__law_names
  b__law_names : Binds K A.d__law_names ["_law_bag_here", "_law_stop"] []
  g_law : mg "law" = some (.ref A.f_law)
  F_law : Fun K "law" "law" s_law A.f_law A.d_law
  b_law : Binds K A.d_law ["_law_script"] []
  cl_Form : Cls K A.C_Form
  mk_Form : Mk K A.C_Form A.f_Formu_initu
  no_Form_name : NoAttr K A.C_Form "name"
  no_Form_length : NoAttr K A.C_Form "length"
  no_Form_flow : NoAttr K A.C_Form "flow"
  cl_CodeSet : Cls K A.C_CodeSet
  mk_CodeSet : Mk K A.C_CodeSet A.f_CodeSetu_initu
  no_CodeSet_stop : NoAttr K A.C_CodeSet "stop"
  no_CodeSet_order : NoAttr K A.C_CodeSet "order"
  no_CodeSet_table : NoAttr K A.C_CodeSet "table"
  n_len : mg "len" = none
  n_abs : mg "abs" = none
  n_int : mg "int" = none
  n_list : mg "list" = none
  n_range : mg "range" = none
  n_isinstance : mg "isinstance" = none
  n_bool : mg "bool" = none
  n_str : mg "str" = none
  n_tuple : mg "tuple" = none
  n_all : mg "all" = none
  n_set : mg "set" = none
  n_sorted : mg "sorted" = none
  n_ValueError : mg "ValueError" = none
  g_LETTERS : ∃ t, mg "LETTERS" = some (.str "abcdefghijklmnopqrstuvwxyz" t)
  g_CodeError : mg "CodeError" = some (.ref A.C_CodeError)
  g_BadInput : mg "BadInput" = some (.ref A.C_BadInput)
  g_NotRight : mg "NotRight" = some (.ref A.C_NotRight)
  g_NoWay : mg "NoWay" = some (.ref A.C_NoWay)
  g_BadByte : mg "BadByte" = some (.ref A.C_BadByte)
  g_BadLayout : mg "BadLayout" = some (.ref A.C_BadLayout)
  g_BadAddress : mg "BadAddress" = some (.ref A.C_BadAddress)
  g_BadCodes : mg "BadCodes" = some (.ref A.C_BadCodes)
  ox_BadCodes : OexC K A.C_BadCodes
  i_BadCodes : PySem.W.findIn K (.ref A.C_BadCodes) "__init__" = some (some (.ref A.f_BadCodesu_initu))
  ti_BadCodes : PySem.W.typeIn K (.ref A.f_BadCodesu_initu) = some (.type "function")
  no_BadCodes_part : PySem.W.findIn K (.ref A.C_BadCodes) "part" = some none
  xf_BadCodes : XfC K A.C_BadCodes
  ec_BadCodes : ExcC K A.C_BadCodes
  F_BadCodesu_initu : Vc.FunS PySem.Challenge.pw_codestitch_k04_refused_code_sets K mg "__init__" "BadCodes.__init__" s_BadCodesu_initu A.f_BadCodesu_initu A.d_BadCodesu_initu A.C_BadCodes "self"
  b_BadCodesu_initu : Binds K A.d_BadCodesu_initu ["self", "part"] []
  kit_BadCodes_BadCodes : PySem.W.kitOne K (.ref A.C_BadCodes) (.ref A.C_BadCodes) = some true
  kit_BadCodes_BadInput : PySem.W.kitOne K (.ref A.C_BadCodes) (.ref A.C_BadInput) = some true
  kit_BadCodes_ValueError : PySem.W.kitOne K (.ref A.C_BadCodes) (.type "ValueError") = some true
  kit_BadCodes_NotRight : PySem.W.kitOne K (.ref A.C_BadCodes) (.ref A.C_NotRight) = some false
  kit_BadCodes_NoWay : PySem.W.kitOne K (.ref A.C_BadCodes) (.ref A.C_NoWay) = some false
  kit_BadCodes_BadByte : PySem.W.kitOne K (.ref A.C_BadCodes) (.ref A.C_BadByte) = some false
  kit_BadCodes_BadLayout : PySem.W.kitOne K (.ref A.C_BadCodes) (.ref A.C_BadLayout) = some false
  kit_BadCodes_BadAddress : PySem.W.kitOne K (.ref A.C_BadCodes) (.ref A.C_BadAddress) = some false
  exm_BadCodes_CodeError : PySem.W.exmOne K (.ref A.C_BadCodes) (.ref A.C_CodeError) = some true
  sp_CodeSet_CodeSetu_lenu : Vc.SpM K A.C_CodeSet A.f_CodeSetu_lenu "__len__"
  cr_Form : ClX.CRead K A.C_Form (.type "type")
  cr_CodeSet : ClX.CRead K A.C_CodeSet (.type "type")
  cv_FLOWS : ClX.CVal K A.C_Form (.type "type") "FLOWS" (.ref A.a_FLOWS) (.ref A.a_FLOWS)
  q_FLOWS : ∀ H, SqT K H A.a_FLOWS [.str "next", .str "jump", .str "test", .str "end"]
  cv_MOST : ∃ u, ClX.CVal K A.C_CodeSet (.type "type") "MOST_FORMS" (.int 16) u
end My
namespace My
open PySem PySem.Spec PyProof.Rows L2
theorem ok_BadCodesu_initu {w : World} {K : PySem.W.Frag} {mg : Str → Option Value} {base : Heap} {A : Ad} (T : Txt K mg A) : FnOk PySem.Challenge.pw_codestitch_k04_refused_code_sets w K mg base CX0 1 A.f_BadCodesu_initu A.d_BadCodesu_initu ["self", "part"] (Vc.spErr1 A.C_BadCodes "part") := by
  refine T.F_BadCodesu_initu.ok sc_BadCodesu_initu T.ox_BadCodes rfl rfl rfl (fun vs H Q E h => ?_) (fun X => pe_str) (fun _ _ _ => rfl) (fun _ _ _ => rfl) (fun _ _ _ => rfl) (fun _ _ _ => rfl) (fun cda cc Ar outer s H vs Q E h => ?_)
  · obtain ⟨_, _, rfl, _⟩ := h
    rfl
  · obtain ⟨a, h1, h2, h3⟩ := Vc.err_ends1 T.ox_BadCodes T.no_BadCodes_part h
    exact ⟨a, h1, h2, _, pss_one (ps_ost (pv 0) (pv 1)), h3⟩
end My
namespace My
open PySem PySem.Spec PyProof.Rows L2
/-! ### the bag: what a script's draws come from -/
def bagK (c : Addr) (a r s : Int) : List (Key × V) := [(.inr "cells", .ref c), (.inr "at", .int a), (.inr "rest", .int r), (.inr "state", .int s)]
theorem bag_cells {c a r s} : valV (bagK c a r s) (.inr "cells") = some (.ref c) := by rfl
theorem bag_at {c a r s} : valV (bagK c a r s) (.inr "at") = some (.int a) := by rfl
theorem bag_rest {c a r s} : valV (bagK c a r s) (.inr "rest") = some (.int r) := by rfl
theorem bag_state {c a r s} : valV (bagK c a r s) (.inr "state") = some (.int s) := by rfl
theorem bag_put_at {c a r s x} : putK (bagK c a r s) (.inr "at") (.int x) = bagK c x r s := by rfl
theorem bag_put_rest {c a r s x} : putK (bagK c a r s) (.inr "rest") (.int x) = bagK c a x s := by rfl
theorem bag_put_state {c a r s x} : putK (bagK c a r s) (.inr "state") (.int x) = bagK c a r x := by rfl
local macro_rules | `(tactic| walk_at "dv") => `(tactic| first | exact bag_cells | exact bag_at | exact bag_rest | exact bag_state | assumption | rfl)
theorem bag_n {c a r s} : (bagK c a r s).length ≤ 1000 := by show 4 ≤ 1000; decide
local macro_rules | `(tactic| walk_at "ln") => `(tactic| first | exact bag_n | assumption | (simp only [List.length_cons, List.length_nil, List.length_append, List.length_map]; omega) | decide)
structure BagS (H : Hp) (b c : Addr) (ns : List Int) (a r s : Int) : Prop where
  ob : H b = some (.dK (bagK c a r s))
  cl : H c = some (.lst (ns.map V.int))
  len : ns.length ≤ 63
  a0 : 0 ≤ a
  a1 : a ≤ ns.length
  r0 : 0 ≤ r
  s0 : 0 ≤ s
  s1 : s < 2147483647
def Bag (H : Hp) (b c : Addr) : Prop := ∃ ns a r s, BagS H b c ns a r s
theorem Bag.ed {H H' : Hp} {b c : Addr} {S : List Addr} (h : Bag H b c) (e : Vc.Ed S H H') (hb : b ∉ S) (hc : c ∉ S) : Bag H' b c := by
  obtain ⟨ns, a, r, s, B⟩ := h
  exact ⟨ns, a, r, s, e.keep _ _ hb B.ob, e.keep _ _ hc B.cl, B.len, B.a0, B.a1, B.r0, B.s0, B.s1⟩
theorem Bag.ed0 {H H' : Hp} {b c : Addr} (e : Vc.Ed [] H H') (h : Bag H b c) : Bag H' b c := h.ed e (fun z => nomatch z) (fun z => nomatch z)
theorem Bag.ed1 {H H' : Hp} {b c p : Addr} (e : Vc.Ed [p] H H') (hb : b ≠ p) (hc : c ≠ p) (h : Bag H b c) : Bag H' b c :=
  h.ed e (fun z => hb (List.mem_singleton.mp z)) (fun z => hc (List.mem_singleton.mp z))
theorem Bag.ne {H : Hp} {b c : Addr} (h : Bag H b c) : b ≠ c := by
  obtain ⟨ns, a, r, s, B⟩ := h
  exact ne_of B.ob B.cl (by intro z; cases z)
theorem Bag.fb {H : Hp} {b c p : Addr} (h : Bag H b c) (n : H p = none) : b ≠ p ∧ c ≠ p := by
  obtain ⟨ns, a, r, s, B⟩ := h
  exact ⟨ne_of_none B.ob n, ne_of_none B.cl n⟩
theorem cut_ns {ns : List Int} (h : ns.length ≤ 63) : cutV (ns.map V.int) none (some 63) = ns.map V.int := by
  have e := Vc.cut_take (ns.map V.int) 63
  rw [List.take_of_length_le (by rw [List.length_map]; exact h)] at e
  exact e
def spBag (K : PySem.W.Frag) : Sp := fun vs H Q _ => ∃ (p : Addr) (ns : List Int), vs = [.ref p] ∧ SqL K H p (ns.map V.int) ∧ ns.length ≤ 63 ∧
  ∀ b c H', Vc.Ed [] H H' → Bag H' b c → H b = none → H c = none → Q (.ref b) H'
def spDraw : Sp := fun vs H Q _ => ∃ (b c : Addr) (n : Int), vs = [.ref b, .int n] ∧ Bag H b c ∧ 1 ≤ n ∧ n < 2 ^ 190 ∧
  ∀ i H', 0 ≤ i → i < n → Vc.Ed [b] H H' → Bag H' b c → Q (.int i) H'
section
variable {P : Program} {w : World} {K : PySem.W.Frag} {mg : Str → Option Value} {base : Heap} {A : Ad}
theorem ok__law_draw (T : Txt K mg A) : FnOk P w K mg base CX0 1 A.f__law_draw A.d__law_draw ["_law_bag_here", "_law_limit"] spDraw := by
  refine T.F__law_draw.ok sc__law_draw (fun vs H Q E h => ?_) (fun cdv Ar outer s H vs Q E hr h => ?_)
  · obtain ⟨b, c, n, rfl, _⟩ := h
    rfl
  · obtain ⟨b, c, n, rfl, hB, n1, n2, k⟩ := h
    have hu := hu_of hr
    refine ⟨_, (Evl.pss_cut (ps_while PassesOwn.never (PW.pt (pw_and (pt_cmpR op_lt (pe_dget (by exact hu) (pv 0) pe_str (fun _ _ => rfl)) pe_int (nomark _)) (pw_and1 (pt_cmpR op_lt (pe_dget (by exact hu) (pv 0) pe_str (fun _ _ => rfl)) (pe_callB call_len_seq (by rfl) T.n_len (by decide +kernel) (pa_cons (pe_dget (by exact hu) (pv 0) pe_str (fun _ _ => rfl)) pa_nil)) (nomark _))))) (pss_cons (ps_set (i := 2) sc__law_draw.nd rfl (Or.inl rfl) (pe_callB call_abs (by rfl) T.n_abs (by decide +kernel) (pa_cons (pe_ix ix_list (pe_dget (by exact hu) (pv 0) pe_str (fun _ _ => rfl)) (pe_dget (by exact hu) (pv 0) pe_str (fun _ _ => rfl)) (fun _ _ => rfl)) pa_nil))) (pss_cons (ps_dput (by exact hu) (pv 0) pe_str (pe_op op_add (pe_dget (by exact hu) (pv 0) pe_str (fun _ _ => rfl)) pe_int) rfl) (pss_cons (ps_if (pt_cmpR op_lt (pv 2) (pe_op op_pow pe_int pe_int) (nomark _)) (pss_cons (ps_set (i := 3) sc__law_draw.nd rfl (Or.inl rfl) (pe_op op_mod (pe_callTy call_int1 (by rfl) T.n_int (by decide +kernel) (pa_cons (pe_op op_add (pe_op op_pow (pe_op op_add (pv 2) pe_int) pe_int) (pe_op op_mulW (pe_dget (by exact hu) (pv 0) pe_str (fun _ _ => rfl)) (pe_op op_add (pe_dget (by exact hu) (pv 0) pe_str (fun _ _ => rfl)) pe_int))) pa_nil)) pe_int)) (pss_one (ps_ret (pe_op op_mod (pv 3) (pv 1))))) pss_nil) (pss_one (ps_dput (by exact hu) (pv 0) pe_str (pv 2) rfl)))))) (pss_cons (ps_if (pt_cmpR op_ge (pe_dget (by exact hu) (pv 0) pe_str (fun _ _ => rfl)) pe_int (nomark _)) (pss_cons (ps_set (i := 4) sc__law_draw.nd rfl (Or.inl rfl) (pe_op op_mod (pe_callTy call_int1 (by rfl) T.n_int (by decide +kernel) (pa_cons (pe_dget (by exact hu) (pv 0) pe_str (fun _ _ => rfl)) pa_nil)) (pv 1))) (pss_cons (ps_dput (by exact hu) (pv 0) pe_str (pe_op op_fdivW (pe_dget (by exact hu) (pv 0) pe_str (fun _ _ => rfl)) (pv 1)) rfl) (pss_one (ps_ret (pv 4))))) pss_nil) (pss_cons (ps_dput (by exact hu) (pv 0) pe_str (pe_op op_mod (pe_callTy call_int1 (by rfl) T.n_int (by decide +kernel) (pa_cons (pe_op op_add (pe_op op_mulW (pe_dget (by exact hu) (pv 0) pe_str (fun _ _ => rfl)) pe_int) pe_int) pa_nil)) pe_int) rfl) (pss_one (ps_ret (pe_op op_mod (pe_op op_mod (pe_callTy call_int1 (by rfl) T.n_int (by decide +kernel) (pa_cons (pe_op op_pow (pe_dget (by exact hu) (pv 0) pe_str (fun _ _ => rfl)) pe_int) pa_nil)) pe_int) (pv 1))))))), ?_⟩
    obtain ⟨ns, a, r, s, B⟩ := hB
    refine Evl.q_cut (M := fun σ H' => ∃ y3 y4 a r s, σ = [some (.ref b), some (.int n), y3, y4, none] ∧ BagS H' b c ns a r s ∧ Vc.Ed [b] H H') ?_ ?_
    · -- the loop
      refine ⟨fun m σ H' => ∃ y3 y4 a r s, σ = [some (.ref b), some (.int n), y3, y4, none] ∧ BagS H' b c ns a r s ∧ Vc.Ed [b] H H' ∧ m = ns.length - a.toNat, ⟨_, none, none, a, r, s, rfl, B, Vc.Ed.refl, rfl⟩, ?_⟩
      rintro m σ H1 ⟨y3, y4, a, r, s, rfl, B, e1, rfl⟩
      obtain ⟨hb, hc, hl, ha, ha1, hr0, hs0, hs1⟩ := id B
      walk_at "go"
      refine Vc.go_ite (fun h1 => ?_) (fun h1 => ?_)
      · walk_at "go"
        refine Vc.go_ite (fun h2 => ?_) (fun h2 => ?_)
        · rw [List.length_map] at h2
          refine ⟨fun σ' H' => ∃ y3 y4 a' r s, σ' = [some (.ref b), some (.int n), y3, y4, none] ∧ BagS H' b c ns a' r s ∧ Vc.Ed [b] H H' ∧ ns.length - a'.toNat < ns.length - a.toNat, ?_, ?_⟩
          · rintro σ' H' ⟨y3, y4, a', r, s, e, B', e', l⟩
            exact ⟨_, l, y3, y4, a', r, s, e, B', e', rfl⟩
          have hi : (ns.map V.int)[a.toNat]? = some (.int (ns.getD a.toNat 0)) := by
            rw [List.getElem?_map, List.getElem?_eq_getElem (by omega)]
            simp [List.getD, List.getElem?_eq_getElem (show a.toNat < ns.length by omega)]
          have hx : atI (ns.map V.int) a = some (.int (ns.getD a.toNat 0)) := at_of (by omega) hi
          generalize ns.getD a.toNat 0 = cell at hx
          walk_at "go"
          rw [bag_put_at]
          generalize hu2 : upd _ b _ = H2
          obtain ⟨e2, hb2⟩ := Vc.chg hu2 hb
          generalize hce : (if cell < 0 then -cell else cell) = cl
          have hc0 : 0 ≤ cl := by rw [← hce]; split <;> omega
          walk_at "go"
          refine Vc.go_ite (fun h3 => ?_) (fun h3 => ?_)
          · simp only [Int.reduceToNat, Int.reducePow] at h3
            walk_at "go"
            exact k _ _ (Int.emod_nonneg _ (by omega)) (Int.emod_lt_of_pos _ (by omega)) (by walk_at "ed") ⟨ns, a + 1, r, s, hb2, by walk_at "hs", hl, by omega, by omega, hr0, hs0, hs1⟩
          · walk_at "go"
            rw [bag_put_rest]
            generalize hu3 : upd _ b _ = H3
            obtain ⟨e3, hb3⟩ := Vc.chg hu3 hb2
            exact ⟨_, _, _, _, _, rfl, ⟨hb3, by walk_at "hs", hl, by omega, by omega, hc0, hs0, hs1⟩, by walk_at "ed", by omega⟩
        · exact ⟨_, _, _, _, _, rfl, B, e1⟩
      · walk_at "go"
        exact ⟨_, _, _, _, _, rfl, B, e1⟩
    · rintro σ H1 ⟨y3, y4, a, r, s, rfl, B, e1⟩
      obtain ⟨hb, hc, hl, ha, ha1, hr0, hs0, hs1⟩ := id B
      walk_at "go"
      refine Vc.go_ite (fun h1 => ?_) (fun h1 => ?_)
      · walk_at "go"
        rw [bag_put_rest]
        generalize hu3 : upd _ b _ = H3
        obtain ⟨e3, hb3⟩ := Vc.chg hu3 hb
        walk_at "go"
        exact k _ _ (Int.emod_nonneg _ (by omega)) (Int.emod_lt_of_pos _ (by omega)) (by walk_at "ed") ⟨ns, a, _, s, hb3, by walk_at "hs", hl, by omega, by omega, Int.ediv_nonneg hr0 (by omega), hs0, hs1⟩
      · walk_at "go"
        rw [bag_put_state]
        generalize hu3 : upd _ b _ = H3
        obtain ⟨e3, hb3⟩ := Vc.chg hu3 hb
        walk_at "go"
        exact k _ _ (Int.emod_nonneg _ (by omega)) (Int.emod_lt_of_pos _ (by omega)) (by walk_at "ed") ⟨ns, a, r, _, hb3, by walk_at "hs", hl, by omega, by omega, hr0, Int.emod_nonneg _ (by omega), Int.emod_lt_of_pos _ (by omega)⟩
end
section
variable {P : Program} {w : World} {K : PySem.W.Frag} {mg : Str → Option Value} {base : Heap} {A : Ad}
theorem ok__law_bag (T : Txt K mg A) : FnOk P w K mg base CX0 1 A.f__law_bag A.d__law_bag ["_law_script"] (spBag K) := by
  refine T.F__law_bag.ok sc__law_bag (fun vs H Q E h => ?_) (fun cdv Ar outer s H vs Q E hr h => ?_)
  · obtain ⟨p, ns, rfl, _⟩ := h
    rfl
  · obtain ⟨p, ns, rfl, hS, hl, k⟩ := h
    refine ⟨_, (pss_cons (ps_set (i := 1) sc__law_bag.nd rfl (Or.inl rfl) pe_int) (pss_cons (ps_for PassesOwn.never rfl (pi_list (pe_slice sl_list (pv 0) po_none (po_some pe_int))) (pg_name (i := 2) sc__law_bag.nd rfl (Or.inl rfl)) (pss_one (ps_set (i := 1) sc__law_bag.nd rfl (Or.inl rfl) (pe_op op_mod (pe_callTy call_int1 (by rfl) T.n_int (by decide +kernel) (pa_cons (pe_op op_add (pe_op op_add (pe_op op_mulW (pv 1) pe_int) (pe_op op_mod (pe_callB call_abs (by rfl) T.n_abs (by decide +kernel) (pa_cons (pv 2) pa_nil)) pe_int)) pe_int) pa_nil)) pe_int)))) (pss_one (ps_ret (pe_disp (pps_cons pe_str (pe_callTy Vc.call_lstD (by rfl) T.n_list (by decide +kernel) (pa_cons (pe_slice sl_list (pv 0) po_none (po_some pe_int)) pa_nil)) (pps_cons pe_str pe_int (pps_cons pe_str pe_int (pps_cons pe_str (pv 1) pps_nil)))) (by rfl) (by rfl) (fun z => by cases z) (by decide)))))), ?_⟩
    walk_at "go"
    intro q nq
    generalize hu : upd _ q _ = H2
    obtain ⟨e2, hq⟩ := Vc.alloc hu nq
    refine ⟨q, rfl, ⟨_, by walk_at "hs"⟩, for_list (xs := cutV (ns.map V.int) none (some 63)) (fun i σ H' => ∃ z y, σ = [some (.ref p), some (.int z), y] ∧ 0 ≤ z ∧ z < 2147483647 ∧ H' = H2) ⟨7, none, rfl, by omega, by omega, rfl⟩ ?_ ?_ ?_⟩
    · rintro i σ H' _ ⟨z, y, rfl, _, _, rfl⟩
      walk_at "hs"
    · rintro i x σ H' hi ⟨z, y, rfl, z0, z1, rfl⟩
      have hx : ∃ n, x = .int n := by
        have h1 : x ∈ cutV (ns.map V.int) none (some 63) := List.mem_of_getElem? hi
        unfold cutV at h1
        have h2 := List.mem_of_mem_drop (List.mem_of_mem_take h1)
        obtain ⟨n, _, rfl⟩ := List.mem_map.mp h2
        exact ⟨n, rfl⟩
      obtain ⟨n, rfl⟩ := hx
      walk_at "go"
      generalize (if n < 0 then -n else n) = m
      walk_at "go"
      exact ⟨_, _, rfl, Int.emod_nonneg _ (by omega), Int.emod_lt_of_pos _ (by omega), rfl⟩
    · rintro σ H' ⟨z, y, rfl, z0, z1, rfl⟩
      walk_at "go"
      intro b nb
      generalize hu3 : upd _ b _ = H3
      obtain ⟨e3, hb⟩ := Vc.alloc hu3 nb
      walk_at "go"
      intro q2 nq2
      generalize hu4 : upd _ q2 _ = H4
      obtain ⟨e4, hq2⟩ := Vc.alloc hu4 nq2
      walk_at "go"
      intro c nc
      generalize hu5 : upd _ c _ = H5
      obtain ⟨e5, hc⟩ := Vc.alloc hu5 nc
      walk_at "go"
      refine ⟨by walk_at "hs", bagK c 0 0 z, rfl, by show 4 ≤ 15; decide, ?_⟩
      generalize hu6 : upd _ b _ = H6
      obtain ⟨e6, hb6⟩ := Vc.chg hu6 (by walk_at "hs" : H5 b = some (.dK []))
      have hm : mergeK [] (bagK c 0 0 z) = bagK c 0 0 z := rfl
      rw [hm] at hb6
      rw [cut_ns hl] at hc
      exact k b c H6 (by walk_at "ed") ⟨ns, 0, 0, z, hb6, by walk_at "hs", hl, by omega, by omega, by omega, z0, z1⟩ (by walk_at "free") (by walk_at "free")
end

end My
namespace My
open PySem PySem.Spec PyProof.Rows L2
/-! ### _law_same: data that are the same -/
def Atom (d : PyData) : Prop := d = .none ∨ (∃ b, d = .bool b) ∨ (∃ i, d = .int i) ∨ ∃ x, d = .str x
def Shal : Nat → PyData → Prop
  | 0, d => Atom d
  | n + 1, d => Atom d ∨ ∃ ds, (d = .list ds ∨ d = .tuple ds) ∧ ds.length ≤ 1000 ∧ ∀ x ∈ ds, Shal n x
def spSame (K : PySem.W.Frag) : Nat → Sp
  | 0 => fun _ _ _ _ => False
  | n + 1 => fun vs H Q _ => ∃ (x y : V) (d : PyData), vs = [x, y] ∧ Shal n d ∧ Dp K H x d ∧ Dp K H y d ∧ ∀ H', Vc.Ed [] H H' → Q (.bl true) H'
theorem dpAll_len {K : PySem.W.Frag} {H : Hp} : ∀ {xs : List V} {ds : List PyData}, DpAll K H xs ds → xs.length = ds.length
  | _, _, .nil => rfl
  | _, _, .cons _ t => congrArg (· + 1) (dpAll_len t)
theorem dpAll_get {K : PySem.W.Frag} {H : Hp} : ∀ {xs : List V} {ds : List PyData} {i : Nat} {d : PyData}, DpAll K H xs ds → ds[i]? = some d → ∃ x, xs[i]? = some x ∧ Dp K H x d
  | _, _, _, _, .nil, e => by simp at e
  | _, _, 0, _, .cons h _, e => by simp at e; subst e; exact ⟨_, rfl, h⟩
  | _, _, i + 1, d, .cons _ t, e => by
    obtain ⟨x, h1, h2⟩ := dpAll_get (i := i) (d := d) t (by simpa using e)
    exact ⟨x, by simpa using h1, h2⟩
section
variable {P : Program} {w : World} {K : PySem.W.Frag} {mg : Str → Option Value} {base : Heap} {A : Ad}
theorem ok__law_same (T : Txt K mg A) : ∀ n, FnOk P w K mg base CX0 n A.f__law_same A.d__law_same ["_law_actual", "_law_expected"] (spSame K n)
  | 0 => ⟨fun _ _ _ _ h => h.elim, fun _ _ _ _ _ _ _ _ _ _ _ _ _ h => h.elim⟩
  | n + 1 => by
    have G__law_same := ok__law_same T n
    refine T.F__law_same.ok sc__law_same (fun vs H Q E h => ?_) (fun cdv Ar outer s H vs Q E hr h => ?_)
    · obtain ⟨x, y, d, rfl, _⟩ := h
      rfl
    · obtain ⟨x, y, d, rfl, hd, hx, hy, k⟩ := h
      refine ⟨_, (pss_cons (ps_if (pt_val (pe_callB call_isiT (by rfl) T.n_isinstance (by decide +kernel) (pa_cons (pv 1) (pa_cons (pe_tup (pa_cons (pe_bltn (v := .ty "tuple") (by rfl) T.n_tuple (by decide +kernel) rfl) (pa_cons (pe_bltn (v := .ty "list") (by rfl) T.n_list (by decide +kernel) rfl) pa_nil))) pa_nil)))) (pss_cons (ps_if (PW.pt (pw_or (pt_cmpR op_ne (pe_callB call_isi (by rfl) T.n_isinstance (by decide +kernel) (pa_cons (pv 1) (pa_cons (pe_bltn (v := .ty "tuple") (by rfl) T.n_tuple (by decide +kernel) rfl) pa_nil))) (pe_callB call_isi (by rfl) T.n_isinstance (by decide +kernel) (pa_cons (pv 0) (pa_cons (pe_bltn (v := .ty "tuple") (by rfl) T.n_tuple (by decide +kernel) rfl) pa_nil))) (nomark _)) (pw_or1 (pt_not (pt_val (pe_callB call_isiT (by rfl) T.n_isinstance (by decide +kernel) (pa_cons (pv 0) (pa_cons (pe_tup (pa_cons (pe_bltn (v := .ty "tuple") (by rfl) T.n_tuple (by decide +kernel) rfl) (pa_cons (pe_bltn (v := .ty "list") (by rfl) T.n_list (by decide +kernel) rfl) pa_nil))) pa_nil)))))))) (pss_one (ps_ret pe_bl)) pss_nil) (pss_cons (ps_if (pt_cmpR op_ne (pe_callB call_len_seq (by rfl) T.n_len (by decide +kernel) (pa_cons (pv 0) pa_nil)) (pe_callB call_len_seq (by rfl) T.n_len (by decide +kernel) (pa_cons (pv 1) pa_nil)) (nomark _)) (pss_one (ps_ret pe_bl)) pss_nil) (pss_cons (ps_for PassesOwn.never rfl (pi_range1 (by rfl) T.n_range (pa_cons (pe_callB call_len_seq (by rfl) T.n_len (by decide +kernel) (pa_cons (pv 1) pa_nil)) pa_nil)) (pg_name (i := 2) sc__law_same.nd rfl (Or.inl rfl)) (pss_one (ps_if (pt_not (pt_val (pe_call G__law_same hr (by rfl) T.g__law_same T.F__law_same.kp T.b__law_same .nil pass0 (pa_cons (pe_ix ix_seq (pv 0) (pv 2) (fun _ _ => rfl)) (pa_cons (pe_ix ix_seq (pv 1) (pv 2) (fun _ _ => rfl)) pa_nil))))) (pss_one (ps_ret pe_bl)) pss_nil))) (pss_one (ps_ret pe_bl))))) pss_nil) (pss_cons (ps_if (pt_cmpR op_isN (pv 1) pe_non (nomark _)) (pss_one (ps_ret (pe_cmpR op_isN (pv 0) pe_non (nomark _)))) pss_nil) (pss_cons (ps_if (pt_val (pe_callB call_isi (by rfl) T.n_isinstance (by decide +kernel) (pa_cons (pv 1) (pa_cons (pe_bltn (v := .ty "bool") (by rfl) T.n_bool (by decide +kernel) rfl) pa_nil)))) (pss_one (ps_ret (pe_and (pe_callB call_isi (by rfl) T.n_isinstance (by decide +kernel) (pa_cons (pv 0) (pa_cons (pe_bltn (v := .ty "bool") (by rfl) T.n_bool (by decide +kernel) rfl) pa_nil))) (pe_one (pe_cmpR op_eq (pv 0) (pv 1) (nomark _)))))) pss_nil) (pss_cons (ps_if (pt_val (pe_callB call_isi (by rfl) T.n_isinstance (by decide +kernel) (pa_cons (pv 1) (pa_cons (pe_bltn (v := .ty "int") (by rfl) T.n_int (by decide +kernel) rfl) pa_nil)))) (pss_one (ps_ret (pe_and (pe_callB call_isi (by rfl) T.n_isinstance (by decide +kernel) (pa_cons (pv 0) (pa_cons (pe_bltn (v := .ty "int") (by rfl) T.n_int (by decide +kernel) rfl) pa_nil))) (pe_and (pe_not (pe_callB call_isi (by rfl) T.n_isinstance (by decide +kernel) (pa_cons (pv 0) (pa_cons (pe_bltn (v := .ty "bool") (by rfl) T.n_bool (by decide +kernel) rfl) pa_nil)))) (pe_one (pe_cmpR op_eq (pv 0) (pv 1) (nomark _))))))) pss_nil) (pss_one (ps_ret (pe_and (pe_callB call_isi (by rfl) T.n_isinstance (by decide +kernel) (pa_cons (pv 0) (pa_cons (pe_bltn (v := .ty "str") (by rfl) T.n_str (by decide +kernel) rfl) pa_nil))) (pe_one (pe_cmpR op_eq (pv 0) (pv 1) (nomark _)))))))))), ?_⟩
      cases hy with
      | non =>
        cases hx
        walk_at "go"
        intro p np
        generalize hu : upd _ p _ = H1
        obtain ⟨e1, hp⟩ := Vc.alloc hu np
        walk_at "go"
        exact k _ (by walk_at "ed")
      | bl b =>
        cases hx
        walk_at "go"
        intro p np
        generalize hu : upd _ p _ = H1
        obtain ⟨e1, hp⟩ := Vc.alloc hu np
        walk_at "go"
        show Q (.bl (decide _)) H1
        rw [decide_eq_true rfl]
        exact k _ (by walk_at "ed")
      | int i =>
        cases hx
        walk_at "go"
        intro p np
        generalize hu : upd _ p _ = H1
        obtain ⟨e1, hp⟩ := Vc.alloc hu np
        walk_at "go"
        show Q (.bl (decide _)) H1
        rw [decide_eq_true rfl]
        exact k _ (by walk_at "ed")
      | str z =>
        cases hx
        walk_at "go"
        intro p np
        generalize hu : upd _ p _ = H1
        obtain ⟨e1, hp⟩ := Vc.alloc hu np
        walk_at "go"
        show Q (.bl (decide _)) H1
        rw [decide_eq_true rfl]
        exact k _ (by walk_at "ed")
      | @lst a1 xs1 ds ha ea =>
        cases hx with
        | @lst a2 xs2 _ hb eb =>
        have l1 := dpAll_len ea
        have l2 := dpAll_len eb
        obtain ⟨m, rfl, hn, hds⟩ : ∃ m, n = m + 1 ∧ ds.length ≤ 1000 ∧ ∀ x ∈ ds, Shal m x := by
          cases n with
          | zero => rcases hd with h | ⟨_, h⟩ | ⟨_, h⟩ | ⟨_, h⟩ <;> cases h
          | succ m =>
            rcases hd with (h | ⟨_, h⟩ | ⟨_, h⟩ | ⟨_, h⟩) | ⟨ds', h | h, h1, h2⟩
            all_goals first | (cases h; exact ⟨m, rfl, h1, h2⟩) | cases h
        walk_at "go"
        intro p np
        generalize hu : upd _ p _ = H1
        obtain ⟨e1, hp⟩ := Vc.alloc hu np
        walk_at "go"
        intro p2 np2
        generalize hu2 : upd _ p2 _ = H2
        obtain ⟨e2, hp2⟩ := Vc.alloc hu2 np2
        walk_at "go"
        refine Vc.go_iten (fun h => (h (by omega)).elim) (fun _ => ?_)
        walk_at "go"
        refine ⟨by omega, by omega, for_range (lo := 0) (fun i σ H' => ∃ y3, σ = [some (.ref a2), some (.ref a1), y3] ∧ Vc.Ed [] H2 H') ⟨none, rfl, Vc.Ed.refl⟩ ?_ ?_⟩
        · rintro i σ H3 hi ⟨y3, rfl, e3⟩
          obtain ⟨d, hd⟩ : ∃ d, ds[i]? = some d := ⟨ds[i]'(by omega), List.getElem?_eq_getElem (by omega)⟩
          obtain ⟨v1, g1, q1⟩ := dpAll_get ea hd
          obtain ⟨v2, g2, q2⟩ := dpAll_get eb hd
          have x1 : atI xs1 (0 + (i : Int)) = some v1 := at_of (by omega) g1
          have x2 : atI xs2 (0 + (i : Int)) = some v2 := at_of (by omega) g2
          walk_at "go"
          refine Or.inl ?_
          walk_at "go"
          refine Or.inl ?_
          walk_at "go"
          refine ⟨v2, v1, d, rfl, hds d (List.mem_of_getElem? hd), ?_, ?_, fun H4 e4 => ?_⟩
          · exact Vc.Dp.ed0 e3 (Vc.Dp.ed0 e2 (Vc.Dp.ed0 e1 q2))
          · exact Vc.Dp.ed0 e3 (Vc.Dp.ed0 e2 (Vc.Dp.ed0 e1 q1))
          walk_at "go"
          exact ⟨_, rfl, by walk_at "ed"⟩
        · rintro σ H3 ⟨y3, rfl, e3⟩
          walk_at "go"
          exact k _ (by walk_at "ed")
      | @tup a1 xs1 ds ha ea =>
        cases hx with
        | @tup a2 xs2 _ hb eb =>
        have l1 := dpAll_len ea
        have l2 := dpAll_len eb
        obtain ⟨m, rfl, hn, hds⟩ : ∃ m, n = m + 1 ∧ ds.length ≤ 1000 ∧ ∀ x ∈ ds, Shal m x := by
          cases n with
          | zero => rcases hd with h | ⟨_, h⟩ | ⟨_, h⟩ | ⟨_, h⟩ <;> cases h
          | succ m =>
            rcases hd with (h | ⟨_, h⟩ | ⟨_, h⟩ | ⟨_, h⟩) | ⟨ds', h | h, h1, h2⟩
            all_goals first | (cases h; exact ⟨m, rfl, h1, h2⟩) | cases h
        walk_at "go"
        intro p np
        generalize hu : upd _ p _ = H1
        obtain ⟨e1, hp⟩ := Vc.alloc hu np
        walk_at "go"
        intro p2 np2
        generalize hu2 : upd _ p2 _ = H2
        obtain ⟨e2, hp2⟩ := Vc.alloc hu2 np2
        walk_at "go"
        refine Vc.go_iten (fun h => (h (by omega)).elim) (fun _ => ?_)
        walk_at "go"
        refine ⟨by omega, by omega, for_range (lo := 0) (fun i σ H' => ∃ y3, σ = [some (.ref a2), some (.ref a1), y3] ∧ Vc.Ed [] H2 H') ⟨none, rfl, Vc.Ed.refl⟩ ?_ ?_⟩
        · rintro i σ H3 hi ⟨y3, rfl, e3⟩
          obtain ⟨d, hd⟩ : ∃ d, ds[i]? = some d := ⟨ds[i]'(by omega), List.getElem?_eq_getElem (by omega)⟩
          obtain ⟨v1, g1, q1⟩ := dpAll_get ea hd
          obtain ⟨v2, g2, q2⟩ := dpAll_get eb hd
          have x1 : atI xs1 (0 + (i : Int)) = some v1 := at_of (by omega) g1
          have x2 : atI xs2 (0 + (i : Int)) = some v2 := at_of (by omega) g2
          walk_at "go"
          refine Or.inr <| Or.inl ?_
          walk_at "go"
          refine Or.inr <| Or.inl ?_
          walk_at "go"
          refine ⟨v2, v1, d, rfl, hds d (List.mem_of_getElem? hd), ?_, ?_, fun H4 e4 => ?_⟩
          · exact Vc.Dp.ed0 e3 (Vc.Dp.ed0 e2 (Vc.Dp.ed0 e1 q2))
          · exact Vc.Dp.ed0 e3 (Vc.Dp.ed0 e2 (Vc.Dp.ed0 e1 q1))
          walk_at "go"
          exact ⟨_, rfl, by walk_at "ed"⟩
        · rintro σ H3 ⟨y3, rfl, e3⟩
          walk_at "go"
          exact k _ (by walk_at "ed")
end

end My
namespace My
open PySem PySem.Spec PyProof.Rows L2
/-! ### bytes, names, forms, code sets: what they are -/
def LET : List Nat := [97, 98, 99, 100, 101, 102, 103, 104, 105, 106, 107, 108, 109, 110, 111, 112, 113, 114, 115, 116, 117, 118, 119, 120, 121, 122]
theorem letters_eq : ("abcdefghijklmnopqrstuvwxyz" : Str).cps.toList = LET := by decide +kernel
def spIsByte : Sp := fun vs H Q _ => ∃ n : Int, vs = [.int n] ∧ ∀ H', Vc.Ed [] H H' → Q (.bl (decide (0 ≤ n ∧ n ≤ 255))) H'
section
variable {P : Program} {w : World} {K : PySem.W.Frag} {mg : Str → Option Value} {base : Heap} {A : Ad}
theorem ok_is_byte (T : Txt K mg A) : FnOk P w K mg base CX0 1 A.f_is_byte A.d_is_byte ["value"] spIsByte := by
  refine T.F_is_byte.ok sc_is_byte (fun vs H Q E h => ?_) (fun cdv Ar outer s H vs Q E hr h => ?_)
  · obtain ⟨n, rfl, _⟩ := h
    rfl
  · obtain ⟨n, rfl, k⟩ := h
    refine ⟨_, (pss_one (ps_ret (pe_and (pe_callB call_isi (by rfl) T.n_isinstance (by decide +kernel) (pa_cons (pv 0) (pa_cons (pe_bltn (v := .ty "int") (by rfl) T.n_int (by decide +kernel) rfl) pa_nil))) (pe_and (pe_not (pe_callB call_isi (by rfl) T.n_isinstance (by decide +kernel) (pa_cons (pv 0) (pa_cons (pe_bltn (v := .ty "bool") (by rfl) T.n_bool (by decide +kernel) rfl) pa_nil)))) (pe_one (pe_chain op_le op_le pe_int (pv 0) pe_int)))))), ?_⟩
    walk_at "go"
    refine Vc.go_ite (fun h1 => ?_) (fun h1 => ?_)
    · walk_at "go"
      have e : decide (0 ≤ n ∧ n ≤ 255) = decide (n ≤ 255) := by rw [Bool.eq_iff_iff]; simp [h1]
      have := k H Vc.Ed.refl
      rw [e] at this
      exact this
    · have e : decide (0 ≤ n ∧ n ≤ 255) = false := decide_eq_false (by omega)
      have := k H Vc.Ed.refl
      rw [e] at this
      exact this
end
theorem nodup_inl {l : List Int} (h : l.Nodup) : (l.map (fun b => (Sum.inl b : Key))).Nodup := by
  induction l with
  | nil => exact List.nodup_nil
  | cons a r ih =>
    rw [List.nodup_cons] at h
    rw [List.map_cons, List.nodup_cons]
    refine ⟨fun z => ?_, ih h.2⟩
    obtain ⟨b, hb, e⟩ := List.mem_map.mp z
    cases e
    exact h.1 hb
/-! ### a form -/
structure FD where
  byte : Int
  name : Str
  len : Int
  flow : Str
def Flow (x : Str) : Prop := x = "next" ∨ x = "jump" ∨ x = "test" ∨ x = "end"
structure FD.Ok (f : FD) : Prop where
  n1 : 1 ≤ f.name.length
  n8 : f.name.length ≤ 8
  nl : ∀ c ∈ f.name.cps.toList, c ∈ LET
  l1 : 1 ≤ f.len
  l4 : f.len ≤ 4
  fl : Flow f.flow
  two : f.flow = "jump" ∨ f.flow = "test" → 2 ≤ f.len
def formF (n : Str) (l : Int) (f : Str) : List (Str × V) := [("name", .str n), ("length", .int l), ("flow", .str f)]
def FormAt (A : Ad) (H : Hp) (p : Addr) (f : FD) : Prop := ∃ dx, H p = some (.ins A.C_Form dx (formF f.name f.len f.flow))
theorem form_name {n l f} : (formF n l f).lookup ("name" : Str) = some (.str n) := rfl
theorem form_length {n l f} : (formF n l f).lookup ("length" : Str) = some (.int l) := rfl
theorem form_flow {n l f} : (formF n l f).lookup ("flow" : Str) = some (.str f) := rfl
theorem form_put {n l f} : putF "flow" (.str f) (putF "length" (.int l) (putF "name" (.str n) [])) = formF n l f := rfl
theorem inV2 (x a b : Str) : inV (.str x) [.str a, .str b] = decide (x = a ∨ x = b) := by
  rw [Bool.eq_iff_iff, decide_eq_true_eq]
  show (List.any [V.str a, V.str b] fun y => eqV y (V.str x)) = true ↔ _
  simp only [List.any_cons, List.any_nil, Bool.or_false, Bool.or_eq_true, eqV, beq_iff_eq]
  constructor
  · rintro (e | e)
    · exact .inl e.symm
    · exact .inr e.symm
  · rintro (e | e)
    · exact .inl e.symm
    · exact .inr e.symm
/-! ### a code set -/
structure Valid (stop : Int) (fs : List FD) : Prop where
  n1 : 1 ≤ fs.length
  n16 : fs.length ≤ 16
  ok : ∀ f ∈ fs, f.Ok
  byt : ∀ f ∈ fs, 0 ≤ f.byte ∧ f.byte ≤ 255 ∧ f.byte ≠ stop
  ndb : (fs.map (·.byte)).Nodup
  ndn : (fs.map (·.name)).Nodup
  s0 : 0 ≤ stop
  s1 : stop ≤ 255
def kvsOf (items : List (FD × Addr)) : List (Key × V) := items.map fun p => (.inl p.1.byte, .ref p.2)
theorem kvsOf_len (items : List (FD × Addr)) : (kvsOf items).length = items.length := List.length_map _
theorem kvsOf_get {items : List (FD × Addr)} {i : Nat} {k : Key} {v : V} (h : (kvsOf items)[i]? = some (k, v)) : ∃ p, items[i]? = some p ∧ k = .inl p.1.byte ∧ v = .ref p.2 := by
  unfold kvsOf at h
  rw [List.getElem?_map] at h
  cases e : items[i]? with
  | none => rw [e] at h; cases h
  | some p => rw [e] at h; cases h; exact ⟨p, rfl, rfl, rfl⟩
/-- what a dict of different first bytes holds at one of them -/
theorem valV_mem {κ : Type} [DecidableEq κ] : ∀ {kvs : List (κ × V)} {k : κ} {v : V}, (kvs.map (·.1)).Nodup → (k, v) ∈ kvs → valV kvs k = some v
  | [], _, _, _, h => by cases h
  | (k', v') :: r, k, v, nd, h => by
    rw [List.map_cons, List.nodup_cons] at nd
    unfold valV
    rw [List.find?_cons]
    rcases List.mem_cons.mp h with e | h
    · cases e
      simp
    · have ne : k' ≠ k := fun e => nd.1 (by rw [e]; exact List.mem_map.mpr ⟨(k, v), h, rfl⟩)
      rw [decide_eq_false ne]
      exact valV_mem nd.2 h
theorem kvsOf_nd {items : List (FD × Addr)} (h : ((items.map (·.1)).map (·.byte)).Nodup) : ((kvsOf items).map (·.1)).Nodup := by
  have e : (kvsOf items).map (·.1) = ((items.map (·.1)).map (·.byte)).map (fun b => (Sum.inl b : Key)) := by
    unfold kvsOf
    simp [List.map_map, Function.comp_def]
  rw [e]
  exact nodup_inl h
theorem kvsOf_val {items : List (FD × Addr)} {p : FD × Addr} (h : ((items.map (·.1)).map (·.byte)).Nodup) (hp : p ∈ items) : valV (kvsOf items) (.inl p.1.byte) = some (.ref p.2) :=
  valV_mem (kvsOf_nd h) (List.mem_map.mpr ⟨p, hp, rfl⟩)
structure MadeAt (A : Ad) (H : Hp) (d : Addr) (items : List (FD × Addr)) : Prop where
  ob : H d = some (.dK (kvsOf items))
  fm : ∀ p ∈ items, FormAt A H p.2 p.1
theorem FormAt.ed {A : Ad} {H H' : Hp} {p : Addr} {f : FD} {S : List Addr} (h : FormAt A H p f) (e : Vc.Ed S H H') (n : p ∉ S) : FormAt A H' p f := by
  obtain ⟨dx, h⟩ := h
  exact ⟨dx, e.keep _ _ n h⟩
theorem FormAt.ed1 {A : Ad} {H H' : Hp} {p q : Addr} {f : FD} (h : FormAt A H p f) (e : Vc.Ed [q] H H') {o : HO} (hq : H q = some o) (k : ∀ C dx fs, o ≠ .ins C dx fs) : FormAt A H' p f := by
  obtain ⟨dx, h⟩ := h
  exact ⟨dx, e.at1 (ne_of h hq fun z => k _ _ _ z.symm) h⟩
theorem FormAt.ed0 {A : Ad} {H H' : Hp} {p : Addr} {f : FD} (e : Vc.Ed [] H H') (h : FormAt A H p f) : FormAt A H' p f := h.ed e (fun z => nomatch z)

end My
namespace My
open PySem PySem.Spec PyProof.Rows L2
/-! ### names, forms, code sets: right or refused -/
def NameOk (z : Str) : Prop := 1 ≤ z.length ∧ z.length ≤ 8 ∧ ∀ c ∈ z.cps.toList, c ∈ LET
instance (z : Str) : Decidable (NameOk z) := by unfold NameOk; infer_instance
instance (x : Str) : Decidable (Flow x) := by unfold Flow; infer_instance
def formErr (n : Str) (l : Int) (f : Str) : Option Str :=
  if ¬ NameOk n then some "name" else if l < 1 + (if f = "jump" ∨ f = "test" then 1 else 0) ∨ l > 4 then some "length" else if ¬ Flow f then some "flow" else none
theorem inV4 (x a b c d : Str) : inV (.str x) [.str a, .str b, .str c, .str d] = decide (x = a ∨ x = b ∨ x = c ∨ x = d) := by
  rw [Bool.eq_iff_iff, decide_eq_true_eq]
  show (List.any [V.str a, V.str b, V.str c, V.str d] fun y => eqV y (V.str x)) = true ↔ _
  simp only [List.any_cons, List.any_nil, Bool.or_false, Bool.or_eq_true, eqV, beq_iff_eq]
  constructor
  · rintro (e | e | e | e)
    · exact .inl e.symm
    · exact .inr (.inl e.symm)
    · exact .inr (.inr (.inl e.symm))
    · exact .inr (.inr (.inr e.symm))
  · rintro (e | e | e | e)
    · exact .inl e.symm
    · exact .inr (.inl e.symm)
    · exact .inr (.inr (.inl e.symm))
    · exact .inr (.inr (.inr e.symm))
def spIsName : Sp := fun vs H Q _ => ∃ z : Str, vs = [.str z] ∧ z.length ≤ 1000 ∧ ∀ H', Vc.Ed [] H H' → Q (.bl (decide (NameOk z))) H'
def mkFD (b : Int) (n : Str) (l : Int) (f : Str) : FD := ⟨b, n, l, f⟩
def spForm (A : Ad) : Sp := fun vs H Q E => ∃ (p dx : Addr) (f : FD), vs = [.ref p, .str f.name, .int f.len, .str f.flow] ∧ f.name.length ≤ 1000 ∧ H p = some (.ins A.C_Form dx []) ∧
  (∀ e, formErr f.name f.len f.flow = some e → ∀ d H', Vc.Ed [] H H' → H' d = some (.xd [("part", .str e)]) → E (.ref A.C_BadCodes) (some d) H') ∧
  (formErr f.name f.len f.flow = none → ∀ H', Vc.Ed [p] H H' → FormAt A H' p f → Q .non H')
section
variable {w : World} {K : PySem.W.Frag} {mg : Str → Option Value} {base : Heap} {A : Ad}
theorem ok_is_name (T : Txt K mg A) : FnOk PG w K mg base CX0 1 A.f_is_name A.d_is_name ["value"] spIsName := by
  refine T.F_is_name.ok sc_is_name (fun vs H Q E h => ?_) (fun cdv Ar outer s H vs Q E hr h => ?_)
  · obtain ⟨n, rfl, _⟩ := h
    rfl
  · obtain ⟨z, rfl, lz, k⟩ := h
    obtain ⟨_, gc_LETTERS⟩ := T.g_LETTERS
    refine ⟨_, (pss_one (ps_ret (pe_and (pe_callB call_isi (by rfl) T.n_isinstance (by decide +kernel) (pa_cons (pv 0) (pa_cons (pe_bltn (v := .ty "str") (by rfl) T.n_str (by decide +kernel) rfl) pa_nil))) (pe_and (pe_chain op_le op_le pe_int (pe_callB call_len_str (by rfl) T.n_len (by decide +kernel) (pa_cons (pv 0) pa_nil)) pe_int) (pe_one (pe_callB (cr_all rfl) (by rfl) T.n_all (by decide +kernel) (pa_cons (pe_lc (own := [("sign", 1)]) (g := gName 1) rfl sc_is_name.nd (pi_str (pv 0)) (blkOk_by (own := [("sign", 1)]) (N := ["value", "sign"]) (sc := defScope s_is_name) (by decide +kernel)) (fun _ _ _ _ _ => by exact (pg_name (i := 1) sc_is_name.nd rfl (Or.inl rfl))) (fun _ _ _ _ _ => by exact pts_nil) (fun _ _ _ _ _ => by (refine' Vc.blkE ?h ?q; (case h => exact (pe_cmpR op_in_sign (pv 1) (pe_glob (v := .str "abcdefghijklmnopqrstuvwxyz") (by rfl) gc_LETTERS ⟨_, rfl⟩) rfl)); (case q => first | exact rfl | (dsimp only; done) | (dsimp only; exact rfl))))) pa_nil))))))), ?_⟩
    walk_at "go"
    refine Vc.go_ite (fun h1 => ?_) (fun h1 => ?_)
    · walk_at "go"
      refine Vc.go_ite (fun h2 => ?_) (fun h2 => ?_)
      · walk_at "go"
        refine Vc.lc_by walk_str (fun L i H' => Vc.Ed [] H H' ∧ H' L = some (.lst (((z.cps.toList.take i).map fun c => decide (c ∈ LET)).map V.bl))) (fun L H2 nL e hL => ⟨e, hL⟩) (fun _ _ _ _ _ _ => trivial) ?_ ?_
        · rintro L i x H1 H' nL hi ⟨e1, hL⟩ ⟨rfl, c, hc, rfl⟩
          walk_at "go"
          refine ⟨rfl, ?_⟩
          walk_at "go"
          refine ⟨_, hL, by rw [List.length_map, List.length_map, List.length_take]; exact small1000 (by have : z.cps.size = z.length := rfl; omega), ?_⟩
          rw [letters_eq]
          generalize hu : upd _ L _ = H2
          obtain ⟨e2, hL2⟩ := Vc.chg hu hL
          refine ⟨by walk_at "ed", ?_⟩
          have hc' : z.cps.toList[i]? = some c := by rw [Array.getElem?_toList]; exact hc
          rw [hL2, List.take_add_one, hc', List.map_append, List.map_append]; rfl
        · rintro L H' nL ⟨e1, hL⟩
          walk_at "go"
          refine ⟨L, (z.cps.toList.take z.cps.size).map fun c => decide (c ∈ LET), rfl, SqL.of hL, ?_⟩
          have e : ((z.cps.toList.take z.cps.size).map fun c => decide (c ∈ LET)).all id = decide (NameOk z) := by
            rw [List.take_of_length_le (by rw [Array.length_toList]; exact Nat.le_refl _), Bool.eq_iff_iff, decide_eq_true_eq, List.all_eq_true]
            constructor
            · intro h
              exact ⟨by omega, by omega, fun c hc => of_decide_eq_true (h _ (List.mem_map.mpr ⟨c, hc, rfl⟩))⟩
            · rintro ⟨_, _, h⟩ b hb
              obtain ⟨c, hc, rfl⟩ := List.mem_map.mp hb
              exact decide_eq_true (h c hc)
          rw [e]
          exact k _ e1
      · have e : false = decide (NameOk z) := (decide_eq_false fun h => h2 (by have := h.2.1; omega)).symm
        walk_at "go"
        rw [e]
        exact k H Vc.Ed.refl
    · have e : false = decide (NameOk z) := (decide_eq_false fun h => h1 (by have := h.1; omega)).symm
      walk_at "go"
      rw [e]
      exact k H Vc.Ed.refl
theorem ok_Formu_initu (T : Txt K mg A) : FnOk PG w K mg base (CX PG w) 3 A.f_Formu_initu A.d_Formu_initu ["self", "name", "length", "flow"] (spForm A) := by
  have G_is_name := ok_is_name (w := w) (base := base) T
  have G_BadCodesu_initu := ok_BadCodesu_initu (w := w) (base := base) T
  refine T.F_Formu_initu.okX sc_Formu_initu (fun vs H Q E h => ?_) (fun cdv Ar outer s H vs Q E hr h => ?_)
  · obtain ⟨p, dx, f, rfl, _⟩ := h
    rfl
  · obtain ⟨p, dx, f, rfl, ln, hp, kE, kQ⟩ := h
    have cr := T.cr_Form
    have cv := T.cv_FLOWS
    have cl := T.cl_Form
    have no1 := T.no_Form_name
    have no2 := T.no_Form_length
    have no3 := T.no_Form_flow
    refine ⟨_, (pss_cons (ps_if (pt_not (pt_val (pe_call G_is_name (by exact hr.mono (by decide)) (by rfl) T.g_is_name T.F_is_name.kp T.b_is_name .nil pass0 (pa_cons (pv 1) pa_nil)))) (pss_one (Vc.ps_raiseT rfl (takes_of rfl rfl rfl rfl) (pmk_oex T.ox_BadCodes T.i_BadCodes T.ti_BadCodes G_BadCodesu_initu (by exact hr.mono (by decide)) T.b_BadCodesu_initu .nil pass0 (by rfl) T.g_BadCodes (pa_cons pe_str pa_nil)))) pss_nil) (pss_cons (ps_set (i := 4) sc_Formu_initu.nd rfl (Or.inl rfl) (pe_op op_add pe_int (pe_callTy call_int1 (by rfl) T.n_int (by decide +kernel) (pa_cons (pe_cmpR op_in_seq (pv 3) (pe_tup (pa_cons pe_str (pa_cons pe_str pa_nil))) (by rfl)) pa_nil)))) (pss_cons (ps_if (PW.pt (pw_or (pt_not (pt_val (pe_callB call_isi (by rfl) T.n_isinstance (by decide +kernel) (pa_cons (pv 2) (pa_cons (pe_bltn (v := .ty "int") (by rfl) T.n_int (by decide +kernel) rfl) pa_nil))))) (pw_or (pt_val (pe_callB call_isi (by rfl) T.n_isinstance (by decide +kernel) (pa_cons (pv 2) (pa_cons (pe_bltn (v := .ty "bool") (by rfl) T.n_bool (by decide +kernel) rfl) pa_nil)))) (pw_or (pt_cmpR op_lt (pv 2) (pv 4) (nomark _)) (pw_or1 (pt_cmpR op_gt (pv 2) pe_int (nomark _))))))) (pss_one (Vc.ps_raiseT rfl (takes_of rfl rfl rfl rfl) (pmk_oex T.ox_BadCodes T.i_BadCodes T.ti_BadCodes G_BadCodesu_initu (by exact hr.mono (by decide)) T.b_BadCodesu_initu .nil pass0 (by rfl) T.g_BadCodes (pa_cons pe_str pa_nil)))) pss_nil) (pss_cons (ps_if (pt_cmpR op_notIn_seq (pv 3) (ClX.pe_cval (pe_glob (v := .ref A.C_Form) (by rfl) T.g_Form rfl)) (by rfl)) (pss_one (Vc.ps_raiseT rfl (takes_of rfl rfl rfl rfl) (pmk_oex T.ox_BadCodes T.i_BadCodes T.ti_BadCodes G_BadCodesu_initu (by exact hr.mono (by decide)) T.b_BadCodesu_initu .nil pass0 (by rfl) T.g_BadCodes (pa_cons pe_str pa_nil)))) pss_nil) (pss_cons (ps_fld (pv 0) (pv 1) rfl) (pss_cons (ps_fld (pv 0) (pv 2) rfl) (pss_one (ps_fld (pv 0) (pv 3) rfl)))))))), ?_⟩
    have qF := T.q_FLOWS
    walk_at "go"
    refine ⟨f.name, rfl, ln, fun H1 e1 => ?_⟩
    walk_at "go"
    refine Vc.go_iten (fun h1 => ?_) (fun h1 => ?_)
    · walk_at "go"
      exact fun d H' _ e h => kE "name" (by unfold formErr; rw [if_pos h1]) d H' (by walk_at "ed") h
    walk_at "go"
    intro t nt
    generalize hu : upd _ t _ = H2
    obtain ⟨e2, ht⟩ := Vc.alloc hu nt
    walk_at "go"
    have hb : inV (.str f.flow) [.str "jump", .str "test"] = decide (f.flow = "jump" ∨ f.flow = "test") := inV2 _ _ _
    rw [hb]
    have em : (if decide (f.flow = "jump" ∨ f.flow = "test") = true then (1 : Int) else 0) = (if f.flow = "jump" ∨ f.flow = "test" then 1 else 0) := by
      by_cases h : f.flow = "jump" ∨ f.flow = "test"
      · rw [if_pos h, if_pos (decide_eq_true h)]
      · rw [if_neg h, if_neg (by rw [decide_eq_false h]; decide)]
    rw [em]
    have e02 : Vc.Ed [] H H2 := by walk_at "ed"
    walk_at "go"
    refine Vc.go_ite (fun h2 => ?_) (fun h2 => ?_)
    · walk_at "go"
      exact fun d H' _ e h => kE "length" (by unfold formErr; rw [if_neg (fun z => z h1), if_pos (.inl h2)]) d H' (by walk_at "ed") h
    walk_at "go"
    refine Vc.go_ite (fun h3 => ?_) (fun h3 => ?_)
    · walk_at "go"
      exact fun d H' _ e h => kE "length" (by unfold formErr; rw [if_neg (fun z => z h1), if_pos (.inr h3)]) d H' (by walk_at "ed") h
    walk_at "go"
    have hf : inV (.str f.flow) [.str "next", .str "jump", .str "test", .str "end"] = decide (Flow f.flow) := inV4 _ _ _ _ _
    rw [hf]
    refine Vc.go_iten (fun h4 => ?_) (fun h4 => ?_)
    · walk_at "go"
      exact fun d H' _ e h => kE "flow" (by unfold formErr; rw [if_neg (fun z => z h1), if_neg (fun z => z.elim h2 h3), if_pos h4]) d H' (by walk_at "ed") h
    walk_at "go"
    generalize hu3 : upd _ p _ = H3
    obtain ⟨e3, h3'⟩ := Vc.chg hu3 (show H2 p = some (.ins A.C_Form dx []) by walk_at "hs")
    walk_at "go"
    generalize hu4 : upd _ p _ = H4
    obtain ⟨e4, h4'⟩ := Vc.chg hu4 h3'
    walk_at "go"
    generalize hu5 : upd _ p _ = H5
    obtain ⟨e5, h5⟩ := Vc.chg hu5 h4'
    rw [form_put] at h5
    exact kQ (by unfold formErr; rw [if_neg (fun z => z h1), if_neg (fun z => z.elim h2 h3), if_neg (fun z => z h4)]) H5 (by walk_at "ed") ⟨dx, h5⟩
end

end My
namespace My
open PySem PySem.Spec PyProof.Rows L2
/-! ### the forms of a code set: right or refused -/
structure FormsOk (stop : Int) (fs : List FD) : Prop where
  n1 : 1 ≤ fs.length
  n16 : fs.length ≤ 16
  ndn : (fs.map (·.name)).Nodup
  byt : ∀ f ∈ fs, 0 ≤ f.byte ∧ f.byte ≤ 255 ∧ f.byte ≠ stop
def spCheck (A : Ad) : Sp := fun vs H Q E => ∃ (d : Addr) (stop : Int) (items : List (FD × Addr)), vs = [.int stop, .ref d] ∧ MadeAt A H d items ∧ ((items.map (·.1)).map (·.byte)).Nodup ∧ items.length ≤ 900 ∧
  (¬ FormsOk stop (items.map (·.1)) → ∀ q H', Vc.Ed [] H H' → H' q = some (.xd [("part", .str "forms")]) → E (.ref A.C_BadCodes) (some q) H') ∧
  (FormsOk stop (items.map (·.1)) → ∀ H', Vc.Ed [] H H' → Q .non H')
section
variable {w : World} {K : PySem.W.Frag} {mg : Str → Option Value} {base : Heap} {A : Ad}
theorem ok_check_forms (T : Txt K mg A) : FnOk PG w K mg base (CX PG w) 3 A.f_check_forms A.d_check_forms ["stop", "forms"] (spCheck A) := by
  have G_is_byte := ok_is_byte (P := PG) (w := w) (base := base) T
  have G_BadCodesu_initu := ok_BadCodesu_initu (w := w) (base := base) T
  refine T.F_check_forms.okX sc_check_forms (fun vs H Q E h => ?_) (fun cdv Ar outer s H vs Q E hr h => ?_)
  · obtain ⟨d, stop, items, rfl, _⟩ := h
    rfl
  · obtain ⟨d, stop, items, rfl, M, nd, il, kE, kQ⟩ := h
    have hu := hu_of hr
    have cr := T.cr_CodeSet
    obtain ⟨uM, cv⟩ := T.cv_MOST
    have cl := T.cl_Form
    have no1 := T.no_Form_name
    have hd := M.ob
    have kl := kvsOf_len items
    refine ⟨_, (pss_cons (ps_if (PW.pt (pw_or (pt_cmpR op_lt (pe_callB call_lenD (by rfl) T.n_len (by decide +kernel) (pa_cons (pv 1) pa_nil)) pe_int (nomark _)) (pw_or1 (pt_cmpR op_gt (pe_callB call_lenD (by rfl) T.n_len (by decide +kernel) (pa_cons (pv 1) pa_nil)) (ClX.pe_cval (pe_glob (v := .ref A.C_CodeSet) (by rfl) T.g_CodeSet rfl)) (nomark _))))) (pss_one (Vc.ps_raiseT rfl (takes_of rfl rfl rfl rfl) (pmk_oex T.ox_BadCodes T.i_BadCodes T.ti_BadCodes G_BadCodesu_initu (by exact hr.mono (by decide)) T.b_BadCodesu_initu .nil pass0 (by rfl) T.g_BadCodes (pa_cons pe_str pa_nil)))) pss_nil) (pss_cons (ps_lock (ps_setLc (i := 2) (own := [("byte", 3)]) (g := gName 3) rfl sc_check_forms.nd rfl rfl (sw_true rfl rfl rfl (by decide +kernel)) (pi_keys (pv 1)) (blkOk_by (own := [("byte", 3)]) (N := ["stop", "forms", "names", "byte"]) (sc := defScope s_check_forms) (by decide +kernel)) (fun _ _ _ _ _ => by exact (pg_name (i := 3) sc_check_forms.nd rfl (Or.inl rfl))) (fun _ _ _ _ _ => by exact pts_nil) (fun _ _ _ _ _ => by (refine' Vc.blkE ?h ?q; (case h => exact (pe_fld (pe_dget (by exact hu) (pv 1) (pv 3) (fun _ _ => rfl)) rfl)); (case q => first | exact rfl | (dsimp only; done) | (dsimp only; exact rfl)))))) (pss_cons (ps_if (pt_cmpR op_lt (Setn.pe_lenSetN rfl (by rfl) T.n_len (by rfl) T.n_set (pv 2)) (pe_callB call_len_seq (by rfl) T.n_len (by decide +kernel) (pa_cons (pv 2) pa_nil)) (nomark _)) (pss_one (Vc.ps_raiseT rfl (takes_of rfl rfl rfl rfl) (pmk_oex T.ox_BadCodes T.i_BadCodes T.ti_BadCodes G_BadCodesu_initu (by exact hr.mono (by decide)) T.b_BadCodesu_initu .nil pass0 (by rfl) T.g_BadCodes (pa_cons pe_str pa_nil)))) pss_nil) (pss_one (Vc.ps_lockX (passes_of rfl) (takes_of rfl rfl rfl rfl) (fun W pn xe tk po => (ps_for po rfl (pi_keys (pv 1)) (pg_name (i := 3) sc_check_forms.nd rfl (Or.inl rfl)) (pss_one (ps_if (PW.pt (pw_or (pt_not (pt_val (pe_call G_is_byte (by exact hr.mono (by decide)) (by rfl) T.g_is_byte T.F_is_byte.kp T.b_is_byte .nil pass0 (pa_cons (pv 3) pa_nil)))) (pw_or1 (pt_cmpR op_eq (pv 3) (pv 0) (nomark _))))) (pss_one (Vc.ps_raiseT rfl tk (pmk_oex T.ox_BadCodes T.i_BadCodes T.ti_BadCodes G_BadCodesu_initu (by exact hr.mono (by decide)) T.b_BadCodesu_initu .nil pass0 (by rfl) T.g_BadCodes (pa_cons pe_str pa_nil)))) pss_nil))))))))), ?_⟩
    walk_at "go"
    refine Vc.go_ite (fun h1 => ?_) (fun h1 => ?_)
    · walk_at "go"
      exact fun q H' _ e h => kE (fun z => by have := z.n1; rw [List.length_map] at this; omega) q H' (by walk_at "ed") h
    walk_at "go"
    refine Vc.go_ite (fun h2 => ?_) (fun h2 => ?_)
    · walk_at "go"
      exact fun q H' _ e h => kE (fun z => by have := z.n16; rw [List.length_map] at this; omega) q H' (by walk_at "ed") h
    walk_at "go"
    refine Vc.lockA_keys rfl hd [] (fun H1 L i H' => Vc.Ed [] H1 H' ∧ H' L = some (.lst ((items.take i).map fun p => .str p.1.name))) (fun _ _ _ _ h => h.1) (fun H1 od L H2 e1 h1 nL e2 hL => ⟨e2, hL⟩) ?_ ?_
    · rintro H1 od L i k' v H' e1 nL h1 hk ⟨e2, hL⟩
      obtain ⟨p, hp, rfl, rfl⟩ := kvsOf_get hk
      have hm := List.mem_of_getElem? hp
      have hi : i < items.length := (List.getElem?_eq_some_iff.mp hp).1
      have hv := kvsOf_val nd hm
      have hF := ((M.fm p hm).ed1 e1 hd (fun _ _ _ => by intro z; cases z)).ed e2 (fun z => nomatch z)
      obtain ⟨dx, hF⟩ := hF
      change gName 3 (V.int p.1.byte) _ _ _
      walk_at "go"
      refine ⟨rfl, ?_⟩
      walk_at "go"
      refine ⟨_, hL, by rw [List.length_map, List.length_take]; exact small1000 (by omega), ?_⟩
      generalize hu2 : upd _ L _ = H3
      obtain ⟨e3, hL3⟩ := Vc.chg hu2 hL
      refine ⟨e2.one e3 (.inr nL), ?_⟩
      rw [List.take_add_one, hp, List.map_append]
      exact hL3
    · rintro H1 L H' H2 nL ⟨e2, hL⟩ e hd2 k2
      have hLd : L ≠ d := fun z => by rw [z, hd] at nL; cases nL
      have hL2 := k2 L _ hLd hL
      have eq : List.map (fun p : FD × Addr => V.str p.1.name) (List.take (kvsOf items).length items) = ((items.map (·.1)).map (·.name)).map V.str := by
        rw [kvsOf_len, List.take_of_length_le (Nat.le_refl _)]
        simp [List.map_map, Function.comp_def]
      rw [eq] at hL2
      have hSq : SqL K H2 L (((items.map (·.1)).map (·.name)).map V.str) := .of hL2
      walk_at "go"
      refine Vc.go_lenSetC hSq (by rw [List.length_map, List.length_map]; omega) ?_
      have ct := Setn.cn_lt (xs := (items.map (·.1)).map (·.name))
      walk_at "go"
      simp only [List.length_map] at ct ⊢
      refine Vc.go_ite (fun h3 => ?_) (fun h3 => ?_)
      · walk_at "go"
        exact fun q H' _ e h => kE (fun z => ct.mp (Int.ofNat_lt.mp h3) z.ndn) q H' (by walk_at "ed") h
      have ndn : ((items.map (·.1)).map (·.name)).Nodup := Decidable.of_not_not fun z => h3 (Int.ofNat_lt.mpr (ct.mpr z))
      walk_at "go"
      dsimp only
      refine Vc.lockX_keys (n := 1) rfl hd2 [] (fun H1 i σ H' => (∃ y, σ = [some (.int stop), some (.ref d), some (.ref L), y]) ∧ Vc.Ed [] H1 H' ∧ ∀ p ∈ items.take i, 0 ≤ p.1.byte ∧ p.1.byte ≤ 255 ∧ p.1.byte ≠ stop) (fun _ _ _ _ h => h.2.1) (fun H1 od _ _ => ⟨⟨none, rfl⟩, .refl, fun p hp => by simp at hp⟩) ?_ ?_
      · rintro H1 od i k' v σ' H' W' hW e1 hdz h1 hk ⟨⟨y, rfl⟩, e2, good⟩
        obtain ⟨p, hp, rfl, rfl⟩ := kvsOf_get hk
        have hm := List.mem_of_getElem? hp
        have bad : ¬ (0 ≤ p.1.byte ∧ p.1.byte ≤ 255 ∧ p.1.byte ≠ stop) → ∀ {σ3 : L2.St} {q : Addr} {H3 : Hp}, Vc.Ed [] H' H3 → H3 q = some (.xd [("part", .str "forms")]) → W' (.ref A.C_BadCodes) (some q) σ3 H3 := fun nb σ3 q H3 e3 hq => by
          refine hW _ _ _ _ (by walk_at "ed") fun H4 e4 h4 k4 => kE (fun z => nb (z.byt p.1 (List.mem_map.mpr ⟨p, hm, rfl⟩))) q H4 (by walk_at "ed") (k4 _ _ (fun z => ?_) hq)
          rw [z, e3.frz _ _ _ h1] at hq; cases hq
        change gName 3 (V.int p.1.byte) _ _ _
        walk_at "go"
        refine ⟨p.1.byte, rfl, fun H4 e4 => ?_⟩
        walk_at "go"
        refine Vc.go_iten (fun h4 => ?_) (fun h4 => ?_)
        · walk_at "go"
          exact Vc.go_err1 (Q := fun cls dd G => W' cls dd _ G) fun q G _ e h => bad (fun z => h4 ⟨z.1, z.2.1⟩) (q := q) (H3 := G) (Vc.Ed.ex' e e4) h
        walk_at "go"
        refine Vc.go_ite (fun h5 => ?_) (fun h5 => ?_)
        · walk_at "go"
          exact Vc.go_err1 (Q := fun cls dd G => W' cls dd _ G) fun q G _ e h => bad (fun z => z.2.2 h5) (q := q) (H3 := G) (Vc.Ed.ex' e e4) h
        walk_at "go"
        refine ⟨⟨_, rfl⟩, by walk_at "ed", fun r hr => ?_⟩
        rw [List.take_add_one, hp] at hr
        rcases List.mem_append.mp hr with hr | hr
        · exact good r hr
        · have e : r = p := by simpa using hr
          rw [e]; exact ⟨h4.1, h4.2, h5⟩
      · rintro H1 σ' H' H3 _ ⟨⟨y, rfl⟩, e2, good⟩ e3 _ _
        rw [kvsOf_len, List.take_of_length_le (Nat.le_refl _)] at good
        refine kQ ⟨by rw [List.length_map]; omega, by rw [List.length_map]; omega, ndn, fun f hf => ?_⟩ _ (by walk_at "ed")
        obtain ⟨p, hp, rfl⟩ := List.mem_map.mp hf
        exact good p hp
end

end My
namespace My
open PySem PySem.Spec PyProof.Rows L2
/-! ### dicts of forms -/
theorem kvs_some {its : List (FD × Addr)} {x : Int} (h : (valV (kvsOf its) (.inl x)).isSome = true) : ∃ p ∈ its, p.1.byte = x := by
  unfold valV at h
  rw [Option.isSome_map] at h
  obtain ⟨kv, e⟩ := Option.isSome_iff_exists.mp h
  have h1 := List.mem_of_find?_eq_some e
  have h2 := List.find?_some e
  have h2 : kv.1 = Sum.inl x := of_decide_eq_true h2
  obtain ⟨p, hp, rfl⟩ := List.mem_map.mp h1
  exact ⟨p, hp, Sum.inl.inj h2⟩
theorem kvs_none {its : List (FD × Addr)} {x : Int} (h : valV (kvsOf its) (.inl x) = none) : ∀ p ∈ its, p.1.byte ≠ x := by
  intro p hp e
  unfold valV at h
  rw [Option.map_eq_none_iff, List.find?_eq_none] at h
  exact h (.inl p.1.byte, .ref p.2) (List.mem_map.mpr ⟨p, hp, rfl⟩) (decide_eq_true (congrArg Sum.inl e))
theorem free_nat : ∀ (n : Nat) (l : List Int), l.length < n → ∃ v : Nat, v < n ∧ (v : Int) ∉ l
  | 0, _, h => absurd h (Nat.not_lt_zero _)
  | n + 1, l, h => by
    by_cases hn : (n : Int) ∈ l
    · obtain ⟨v, hv, hm⟩ := free_nat n (l.filter fun x => !decide (x = n)) (by
        have := List.length_filter_lt_length_iff_exists (l := l) (p := fun x => !decide (x = (n : Int)))
        have := this.mpr ⟨n, hn, by simp⟩
        omega)
      refine ⟨v, by omega, fun z => hm (List.mem_filter.mpr ⟨z, by simp; omega⟩)⟩
    · exact ⟨n, by omega, hn⟩
theorem kvsOf_put {its : List (FD × Addr)} {f : FD} {a : Addr} (h : valV (kvsOf its) (.inl f.byte) = none) : putK (kvsOf its) (.inl f.byte) (.ref a) = kvsOf (its ++ [(f, a)]) := by
  rw [putK_new _ h]
  unfold kvsOf
  rw [List.map_append]; rfl
/-! ### a code set as it stands: its stop, its order, its table; the forms ascending by their bytes -/
theorem lift_perm {α β : Type} {f : α → β} : ∀ {l : List β} {items : List α}, l.Perm (items.map f) → ∃ sel : List α, sel.Perm items ∧ sel.map f = l
  | [], items, h => by
    have := h.length_eq
    rw [List.length_nil, List.length_map] at this
    exact ⟨[], by rw [List.eq_nil_of_length_eq_zero this.symm], rfl⟩
  | b :: l, items, h => by
    obtain ⟨a, ha, rfl⟩ := List.mem_map.mp ((h.mem_iff).mp List.mem_cons_self)
    obtain ⟨s, t, rfl⟩ := List.append_of_mem ha
    have h1 : (f a :: l).Perm (f a :: (s ++ t).map f) := h.trans ((List.perm_middle (a := a) (l₁ := s) (l₂ := t)).map f)
    obtain ⟨sel, p, e⟩ := lift_perm (h1.cons_inv)
    exact ⟨a :: sel, (p.cons a).trans List.perm_middle.symm, by rw [List.map_cons, e]⟩
def codesF (stop : Int) (o t : Addr) : List (Str × V) := [("stop", .int stop), ("order", .ref o), ("table", .ref t)]
theorem codes_put {s o t} : putF "table" (.ref t) (putF "order" (.ref o) (putF "stop" (.int s) [])) = codesF s o t := rfl
theorem codes_table {s o t} : (codesF s o t).lookup ("table" : Str) = some (.ref t) := rfl
theorem codes_order {s o t} : (codesF s o t).lookup ("order" : Str) = some (.ref o) := rfl
theorem codes_stop {s o t} : (codesF s o t).lookup ("stop" : Str) = some (.int s) := rfl
structure CodeO where
  c : Addr
  dx : Addr
  o : Addr
  t : Addr
  stop : Int
  items : List (FD × Addr)
def CodeO.fs (x : CodeO) : List FD := x.items.map (·.1)
structure CodeO.At (A : Ad) (H : Hp) (x : CodeO) : Prop where
  ob : H x.c = some (.ins A.C_CodeSet x.dx (codesF x.stop x.o x.t))
  od : H x.o = some (.lst ((x.items.map fun p => p.1.byte).map V.int))
  tb : H x.t = some (.dK (kvsOf x.items))
  fm : ∀ p ∈ x.items, FormAt A H p.2 p.1
theorem kvOOf_put {items : List (FD × Addr)} {p : FD × Addr} (h : valV (kvsOf items) (.inl p.1.byte) = none) : putK (kvsOf items) (.inl p.1.byte) (.ref p.2) = kvsOf (items ++ [p]) := kvsOf_put (f := p.1) (a := p.2) h
theorem kvO_some {its : List (FD × Addr)} {x : Int} (h : (valV (kvsOf its) (.inl x)).isSome = true) : ∃ p ∈ its, p.1.byte = x := kvs_some h
theorem kvO_none {its : List (FD × Addr)} {x : Int} (h : ∀ p ∈ its, p.1.byte ≠ x) : valV (kvsOf its) (.inl x) = none := by
  cases e : valV (kvsOf its) (.inl x) with
  | none => rfl
  | some v =>
    obtain ⟨p, hp, hx⟩ := kvO_some (its := its) (x := x) (by rw [e]; rfl)
    exact (h p hp hx).elim
theorem nd_take {its : List (FD × Addr)} {i : Nat} {p : FD × Addr} (nd : ((its.map (·.1)).map (·.byte)).Nodup) (hp : its[i]? = some p) : ∀ q ∈ its.take i, q.1.byte ≠ p.1.byte := by
  intro q hq e
  have h1 : (((its.take (i + 1)).map (·.1)).map (·.byte)).Nodup := nd.sublist (((List.take_sublist (i + 1) its).map _).map _)
  rw [List.take_add_one, hp, List.map_append, List.map_append, List.nodup_append] at h1
  exact h1.2.2 q.1.byte (List.mem_map.mpr ⟨q.1, List.mem_map.mpr ⟨q, hq, rfl⟩, rfl⟩) p.1.byte (by simp) e
theorem Valid.perm {s : Int} {fs gs : List FD} (h : Valid s fs) (p : gs.Perm fs) : Valid s gs :=
  ⟨by rw [p.length_eq]; exact h.n1, by rw [p.length_eq]; exact h.n16, fun f hf => h.ok f (p.mem_iff.mp hf), fun f hf => h.byt f (p.mem_iff.mp hf), (p.map _).nodup_iff.mpr h.ndb, (p.map _).nodup_iff.mpr h.ndn, h.s0, h.s1⟩
theorem CodeO.At.ed {A : Ad} {H H' : Hp} {x : CodeO} {S : List Addr} (h : x.At A H) (e : Vc.Ed S H H') (n1 : x.c ∉ S) (n2 : x.o ∉ S) (n3 : x.t ∉ S) (n4 : ∀ p ∈ x.items, p.2 ∉ S) : x.At A H' :=
  ⟨e.keep _ _ n1 h.ob, e.keep _ _ n2 h.od, e.keep _ _ n3 h.tb, fun p hp => (h.fm p hp).ed e (n4 p hp)⟩
theorem CodeO.At.ed0 {A : Ad} {H H' : Hp} {x : CodeO} (e : Vc.Ed [] H H') (h : x.At A H) : x.At A H' := h.ed e (fun z => nomatch z) (fun z => nomatch z) (fun z => nomatch z) (fun _ _ z => nomatch z)
/-- a change of the bag -/
theorem kvs_bag {items : List (FD × Addr)} {c : Addr} {a r s : Int} : kvsOf items ≠ bagK c a r s := by
  intro z
  cases items with
  | nil => cases z
  | cons p r => injection z with z _; injection z with z _; cases z
theorem CodeO.At.bag {A : Ad} {H H' : Hp} {x : CodeO} {b c : Addr} (e : Vc.Ed [b] H H') (B : Bag H b c) (h : x.At A H) : x.At A H' := by
  obtain ⟨ns, a, r, s, B⟩ := B
  refine h.ed e (fun z => ?_) (fun z => ?_) (fun z => ?_) fun p hp z => ?_
  · have := h.ob; rw [List.mem_singleton.mp z, B.ob] at this; cases this
  · have := h.od; rw [List.mem_singleton.mp z, B.ob] at this; cases this
  · have := h.tb; rw [List.mem_singleton.mp z, B.ob] at this; injection this with this; injection this with this; exact kvs_bag this.symm
  · obtain ⟨d, h⟩ := h.fm p hp; rw [List.mem_singleton.mp z, B.ob] at h; cases h
/-- a change of what was not there -/
theorem CodeO.At.new {A : Ad} {H0 H H' : Hp} {x : CodeO} {q : Addr} (e : Vc.Ed [q] H H') (n : H0 q = none) (h0 : x.At A H0) (h : x.At A H) : x.At A H' := by
  refine h.ed e (fun z => ?_) (fun z => ?_) (fun z => ?_) fun p hp z => ?_
  · have := h0.ob; rw [List.mem_singleton.mp z, n] at this; cases this
  · have := h0.od; rw [List.mem_singleton.mp z, n] at this; cases this
  · have := h0.tb; rw [List.mem_singleton.mp z, n] at this; cases this
  · obtain ⟨d, h⟩ := h0.fm p hp; rw [List.mem_singleton.mp z, n] at h; cases h
def CodeO.Ok (x : CodeO) : Prop := Valid x.stop x.fs ∧ (x.fs.map (·.byte)).Pairwise (· ≤ ·)
def spCodes (A : Ad) : Sp := fun vs H Q E => ∃ (p dx d : Addr) (stop : Int) (items : List (FD × Addr)), vs = [.ref p, .int stop, .ref d] ∧ MadeAt A H d items ∧ ((items.map (·.1)).map (·.byte)).Nodup ∧ items.length ≤ 900 ∧ H p = some (.ins A.C_CodeSet dx []) ∧
  (¬ (0 ≤ stop ∧ stop ≤ 255) → ∀ q H', Vc.Ed [] H H' → H' q = some (.xd [("part", .str "stop")]) → E (.ref A.C_BadCodes) (some q) H') ∧
  ((0 ≤ stop ∧ stop ≤ 255) → ¬ FormsOk stop (items.map (·.1)) → ∀ q H', Vc.Ed [] H H' → H' q = some (.xd [("part", .str "forms")]) → E (.ref A.C_BadCodes) (some q) H') ∧
  ((0 ≤ stop ∧ stop ≤ 255) → FormsOk stop (items.map (·.1)) → ∀ (x : CodeO) (H' : Hp), x.c = p → x.stop = stop → x.items.Perm items → (x.fs.map (·.byte)).Pairwise (· ≤ ·) → Vc.Ed [p] H H' → H x.t = none → H x.o = none → x.At A H' → Q .non H')
def spCodesLen (A : Ad) : Sp := fun vs H Q _ => ∃ x : CodeO, vs = [.ref x.c] ∧ x.At A H ∧ Q (.int x.items.length) H
section
variable {w : World} {K : PySem.W.Frag} {mg : Str → Option Value} {base : Heap} {A : Ad}
theorem ok_CodeSetu_initu (T : Txt K mg A) : FnOk PG w K mg base (CX PG w) 4 A.f_CodeSetu_initu A.d_CodeSetu_initu ["self", "stop", "forms"] (spCodes A) := by
  have G_is_byte := ok_is_byte (P := PG) (w := w) (base := base) T
  have G_BadCodesu_initu := ok_BadCodesu_initu (w := w) (base := base) T
  have G_check_forms := ok_check_forms (w := w) (base := base) T
  refine T.F_CodeSetu_initu.okX sc_CodeSetu_initu (fun vs H Q E h => ?_) (fun cdv Ar outer s H vs Q E hr h => ?_)
  · obtain ⟨p, dx, d, stop, items, rfl, _⟩ := h
    rfl
  · obtain ⟨p, dx, d, stop, items, rfl, M, nd, il, hp, kS, kF, k⟩ := h
    have hu := hu_of hr
    have cl := T.cl_CodeSet
    have no1 := T.no_CodeSet_stop
    have no2 := T.no_CodeSet_order
    have no3 := T.no_CodeSet_table
    refine ⟨_, (pss_cons (ps_if (pt_not (pt_val (pe_call G_is_byte (by exact hr.mono (by decide)) (by rfl) T.g_is_byte T.F_is_byte.kp T.b_is_byte .nil pass0 (pa_cons (pv 1) pa_nil)))) (pss_one (Vc.ps_raiseT rfl (takes_of rfl rfl rfl rfl) (pmk_oex T.ox_BadCodes T.i_BadCodes T.ti_BadCodes G_BadCodesu_initu (by exact hr.mono (by decide)) T.b_BadCodesu_initu .nil pass0 (by rfl) T.g_BadCodes (pa_cons pe_str pa_nil)))) pss_nil) (pss_cons (ps_expr (pe_callS G_check_forms (by exact hr.mono (by decide)) (by rfl) T.g_check_forms T.F_check_forms.kp T.b_check_forms (fun σ => passAt (takes_of rfl rfl rfl rfl) σ) (pa_cons (pv 1) (pa_cons (pv 2) pa_nil)))) (pss_cons (ps_fld (pv 0) (pv 1) rfl) (pss_cons (ps_fld (pv 0) (pe_callB cr_sorted (by rfl) T.n_sorted (by decide +kernel) (pa_cons (pe_callTy (call_list_dK rfl) (by rfl) T.n_list (by decide +kernel) (pa_cons (pv 2) pa_nil)) pa_nil)) rfl) (pss_one (ps_fld (pv 0) (pe_dc (own := [("byte", 3)]) (g := gName 3) rfl sc_CodeSetu_initu.nd (pi_list (pe_fld (pv 0) rfl)) (blkOk_by (own := [("byte", 3)]) (N := ["self", "stop", "forms", "byte"]) (sc := defScope s_CodeSetu_initu) (by decide +kernel)) (fun _ _ _ _ _ => by exact (pg_name (i := 3) sc_CodeSetu_initu.nd rfl (Or.inl rfl))) (fun _ _ _ _ _ => by exact pts_nil) (fun _ _ _ _ _ => by (refine' Vc.blkE ?h ?q; (case h => exact (pv 3)); (case q => first | exact rfl | (dsimp only; done) | (dsimp only; exact rfl)))) (fun _ _ _ _ _ => by (refine' Vc.blkE ?h ?q; (case h => exact (pe_dget (by exact hu) (pv 2) (pv 3) (fun _ _ => rfl))); (case q => first | exact rfl | (dsimp only; done) | (dsimp only; exact rfl))))) rfl)))))), ?_⟩
    walk_at "go"
    refine ⟨stop, rfl, fun H1 e1 => ?_⟩
    walk_at "go"
    refine Vc.go_iten (fun s1 => ?_) (fun s1 => ?_)
    · walk_at "go"
      exact fun q G _ e h => kS s1 q G (by walk_at "ed") h
    walk_at "go"
    refine ⟨d, stop, items, rfl, ⟨e1.at0 M.ob, fun q hq => (M.fm q hq).ed0 e1⟩, nd, il, fun z q G e h => kF s1 z q G (by walk_at "ed") h, fun Va H2 e2 => ?_⟩
    have v16 := Va.n16
    rw [List.length_map] at v16
    have hp2 : H2 p = some (.ins A.C_CodeSet dx []) := by walk_at "hs"
    walk_at "go"
    generalize hu3 : upd _ p _ = H3
    obtain ⟨e3, h3⟩ := Vc.chg hu3 hp2
    have hd3 : H3 d = some (.dK (kvsOf items)) := e3.at1 (ne_of M.ob hp (by intro z; cases z)) (by have := M.ob; walk_at "hs")
    walk_at "go"
    intro L nL
    generalize hu4 : upd _ L _ = H4
    obtain ⟨e4, hL⟩ := Vc.alloc hu4 nL
    have eq : (kvsOf items).map (fun kv => kV kv.1) = ((items.map (·.1)).map (·.byte)).map V.int := by
      unfold kvsOf
      simp only [List.map_map, Function.comp_def, kV]
    rw [eq] at hL
    walk_at "go"
    refine Vc.go_sorted (.of hL) (by rw [List.length_map, List.length_map]; omega) fun ns o perm srt no => ?_
    generalize hu5 : upd _ o _ = H5
    obtain ⟨e5, ho⟩ := Vc.alloc hu5 no
    have h3' : H5 p = some (.ins A.C_CodeSet dx (putF "stop" (.int stop) [])) := by walk_at "hs"
    walk_at "go"
    generalize hu6 : upd _ p _ = H6
    obtain ⟨e6, h6⟩ := Vc.chg hu6 h3'
    walk_at "go"
    have ho6 : H6 o = some (.lst (ns.map V.int)) := by walk_at "hs"
    have hd6 : H6 d = some (.dK (kvsOf items)) := by walk_at "hs"
    obtain ⟨sel, sp, se⟩ : ∃ sel : List (FD × Addr), sel.Perm items ∧ sel.map (fun p => p.1.byte) = ns := lift_perm (by rw [List.map_map] at perm; exact perm)
    have nl : ns.length = sel.length := by rw [← se, List.length_map]
    have sl : sel.length = items.length := sp.length_eq
    have Vs : ((sel.map (·.1)).map (·.byte)).Nodup := ((sp.map _).map _).nodup_iff.mpr nd
    refine ⟨⟨_, .of ho6⟩, Vc.dc_by (walk_list (xs := ns.map V.int)) (fun t i H' => Vc.Ed [] H6 H' ∧ H' t = some (.dK (kvsOf (sel.take i)))) ?_ ?_ ?_ ?_⟩
    · intro t H7 nt e7 ht
      exact ⟨e7, ht⟩
    · rintro t i H' _ _ ⟨e7, _⟩
      exact .of (e7.at0 ho6)
    · rintro t i x H7 H8 nt hi ⟨e7, ht⟩ ⟨rfl, hx⟩
      rw [List.length_map, nl] at hi
      have hsel : sel[i]? = some sel[i] := List.getElem?_eq_getElem hi
      generalize sel[i] = q0 at hsel
      rw [← se, List.getElem?_map, List.getElem?_map, hsel] at hx
      cases hx
      have hq0 : q0 ∈ items := sp.mem_iff.mp (List.mem_of_getElem? hsel)
      have hv0 := kvsOf_val nd hq0
      walk_at "go"
      refine ⟨rfl, ?_⟩
      walk_at "go"
      refine ⟨_, .inl q0.1.byte, rfl, ht, small1000 (by rw [kvsOf_len, List.length_take]; omega), ?_⟩
      generalize hu8 : upd _ t _ = H9
      obtain ⟨e9, h9⟩ := Vc.chg hu8 ht
      refine ⟨e7.one e9 (.inr nt), ?_⟩
      rw [h9, kvOOf_put (kvO_none (nd_take Vs hsel)), List.take_add_one, hsel]; rfl
    · rintro t H7 nt ⟨e7, ht⟩
      rw [List.length_map, nl, List.take_of_length_le (Nat.le_refl _)] at ht
      have h7 : H7 p = _ := e7.at0 h6
      have nt0 : H t = none := by walk_at "free"
      have no0 : H o = none := by walk_at "free"
      walk_at "go"
      generalize hu8 : upd _ p _ = H8
      obtain ⟨e8, h8⟩ := Vc.chg hu8 h7
      rw [codes_put] at h8
      have ee : Vc.Ed [p] H H8 := by walk_at "ed"
      have ntp : t ≠ p := fun z => by rw [z, h6] at nt; cases nt
      have nop : o ≠ p := fun z => by have h4 : H4 p = _ := e4.at0 h3; rw [z, h4] at no; cases no
      have ho8 : H8 o = some (.lst (ns.map V.int)) := e8.at1 nop (e7.at0 ho6)
      rw [← se] at ho8
      refine k s1 Va ⟨p, dx, o, t, stop, sel⟩ H8 rfl rfl sp ?_ ee nt0 no0 ⟨h8, ho8, e8.at1 ntp ht, fun q hq => ?_⟩
      · show List.Pairwise _ (List.map _ (List.map _ sel))
        rw [List.map_map]
        rw [← se] at srt
        exact srt
      · obtain ⟨dq, hF⟩ := M.fm q (sp.mem_iff.mp hq)
        exact ⟨dq, ee.at1 (ne_of hF hp (by intro z; injection z with _ _ z; cases z)) hF⟩
theorem ok_CodeSetu_lenu (T : Txt K mg A) : FnOk PG w K mg base CX0 1 A.f_CodeSetu_lenu A.d_CodeSetu_lenu ["self"] (spCodesLen A) := by
  refine T.F_CodeSetu_lenu.ok sc_CodeSetu_lenu (fun vs H Q E h => ?_) (fun cdv Ar outer s H vs Q E hr h => ?_)
  · obtain ⟨x, rfl, _⟩ := h
    rfl
  · obtain ⟨x, rfl, hX, k⟩ := h
    have cl := T.cl_CodeSet
    have no2 := T.no_CodeSet_order
    have ho := hX.ob
    have hl := hX.od
    have l := codes_order (s := x.stop) (o := x.o) (t := x.t)
    refine ⟨_, (pss_one (ps_ret (pe_callB call_len_seq (by rfl) T.n_len (by decide +kernel) (pa_cons (pe_fld (pv 0) rfl) pa_nil)))), ?_⟩
    walk_at "go"
    rw [List.length_map, List.length_map]
    exact k
end

end My
namespace My
open PySem PySem.Spec PyProof.Rows L2
/-! ### k04: what the law's helpers tell -/
instance (stop : Int) (fs : List FD) : Decidable (FormsOk stop fs) :=
  decidable_of_iff (1 ≤ fs.length ∧ fs.length ≤ 16 ∧ (fs.map (·.name)).Nodup ∧ ∀ f ∈ fs, 0 ≤ f.byte ∧ f.byte ≤ 255 ∧ f.byte ≠ stop) ⟨fun h => ⟨h.1, h.2.1, h.2.2.1, h.2.2.2⟩, fun h => ⟨h.n1, h.n16, h.ndn, h.byt⟩⟩
def setErr (stop : Int) (fs : List FD) : Option Str := if ¬ (0 ≤ stop ∧ stop ≤ 255) then some "stop" else if ¬ FormsOk stop fs then some "forms" else none
def ansF : Option Str → Str → Int → Str → List V
  | some e, _, _, _ => [.str "refused", .str e]
  | none, n, l, f => [.str "made", .str n, .int l, .str f]
def ansS : Option Str → Int → Int → List V
  | some e, _, _ => [.str "refused", .str e]
  | none, s, l => [.str "made", .int s, .int l]
def spPart (A : Ad) : Sp := fun vs H Q _ => ∃ (a : Addr) (e : Str), vs = [.ref a] ∧ Vc.ErrAt H a A.C_BadCodes [("part", .str e)] ∧ ∀ q H', Vc.Ed [] H H' → H' q = some (.tup [.str "refused", .str e]) → Q (.ref q) H'
def spFormT : Sp := fun vs H Q _ => ∃ (n : Str) (l : Int) (f : Str), vs = [.str n, .int l, .str f] ∧ n.length ≤ 1000 ∧ (∀ c ∈ n.cps.toList, c < 1114112) ∧ ∀ q H', Vc.Ed [] H H' → H' q = some (.tup (ansF (formErr n l f) n l f)) → Q (.ref q) H'
def spSetT (A : Ad) : Sp := fun vs H Q _ => ∃ (stop : Int) (d : Addr) (items : List (FD × Addr)), vs = [.int stop, .ref d] ∧ MadeAt A H d items ∧ ((items.map (·.1)).map (·.byte)).Nodup ∧ items.length ≤ 900 ∧
  ∀ q H', Vc.Ed [] H H' → H' q = some (.tup (ansS (setErr stop (items.map (·.1))) stop items.length)) → Q (.ref q) H'
section
variable {w : World} {K : PySem.W.Frag} {mg : Str → Option Value} {base : Heap} {A : Ad}
theorem oh__law_part (T : Txt K mg A) : Vc.FnHt PG w K mg base 1 A.f__law_part A.d__law_part ["_law_error"] (spPart A) := by
  refine Vc.Fun.okH T.F__law_part sc__law_part (fun vs H Q E h => ?_) (fun cdv Ar outer s H vs Q E hr h => ?_)
  · obtain ⟨a, e, rfl, _⟩ := h
    rfl
  · obtain ⟨a, e, rfl, hE, k⟩ := h
    have ec := T.ec_BadCodes
    have xf := T.xf_BadCodes
    have no := T.no_BadCodes_part
    have k1 := T.kit_BadCodes_BadCodes
    have k2 := T.kit_BadCodes_BadInput
    have k3 := T.kit_BadCodes_ValueError
    have k4 := T.kit_BadCodes_NotRight
    have k5 := T.kit_BadCodes_NoWay
    have k6 := T.kit_BadCodes_BadByte
    have k7 := T.kit_BadCodes_BadLayout
    have k8 := T.kit_BadCodes_BadAddress
    refine ⟨_, (pss_cons (ps_if (PW.pt (pw_or (pt_not (pt_val (pe_callB Vc.call_isT (by rfl) T.n_isinstance (by decide +kernel) (pa_cons (pv 0) (pa_cons (pe_glob (v := .ref A.C_BadCodes) (by rfl) T.g_BadCodes rfl) pa_nil))))) (pw_or (pt_not (pt_val (pe_callB Vc.call_isT (by rfl) T.n_isinstance (by decide +kernel) (pa_cons (pv 0) (pa_cons (pe_glob (v := .ref A.C_BadInput) (by rfl) T.g_BadInput rfl) pa_nil))))) (pw_or1 (pt_not (pt_val (pe_callB Vc.call_isT (by rfl) T.n_isinstance (by decide +kernel) (pa_cons (pv 0) (pa_cons (pe_bltn (v := .ty "ValueError") (by rfl) T.n_ValueError (by decide +kernel) rfl) pa_nil))))))))) (pss_one (ps_ret (pe_tup (pa_cons pe_str pa_nil)))) pss_nil) (pss_cons (ps_if (PW.pt (pw_or (pt_val (pe_callB Vc.call_isT (by rfl) T.n_isinstance (by decide +kernel) (pa_cons (pv 0) (pa_cons (pe_glob (v := .ref A.C_NotRight) (by rfl) T.g_NotRight rfl) pa_nil)))) (pw_or (pt_val (pe_callB Vc.call_isT (by rfl) T.n_isinstance (by decide +kernel) (pa_cons (pv 0) (pa_cons (pe_glob (v := .ref A.C_NoWay) (by rfl) T.g_NoWay rfl) pa_nil)))) (pw_or1 (pt_val (pe_callB Vc.call_isT (by rfl) T.n_isinstance (by decide +kernel) (pa_cons (pv 0) (pa_cons (pe_glob (v := .ref A.C_BadByte) (by rfl) T.g_BadByte rfl) pa_nil)))))))) (pss_one (ps_ret (pe_tup (pa_cons pe_str pa_nil)))) pss_nil) (pss_cons (ps_if (PW.pt (pw_or (pt_val (pe_callB Vc.call_isT (by rfl) T.n_isinstance (by decide +kernel) (pa_cons (pv 0) (pa_cons (pe_glob (v := .ref A.C_BadLayout) (by rfl) T.g_BadLayout rfl) pa_nil)))) (pw_or1 (pt_val (pe_callB Vc.call_isT (by rfl) T.n_isinstance (by decide +kernel) (pa_cons (pv 0) (pa_cons (pe_glob (v := .ref A.C_BadAddress) (by rfl) T.g_BadAddress rfl) pa_nil))))))) (pss_one (ps_ret (pe_tup (pa_cons pe_str pa_nil)))) pss_nil) (pss_one (ps_ret (pe_tup (pa_cons pe_str (pa_cons (Vc.pe_xfT (pv 0)) pa_nil)))))))), ?_⟩
    walk_at "go"
    intro q nq
    generalize hu1 : upd _ q _ = H1
    obtain ⟨e1, hq⟩ := Vc.alloc hu1 nq
    exact k q H1 e1 hq
theorem ok__law_form (T : Txt K mg A) : FnOk PG w K mg base CX0 5 A.f__law_form A.d__law_form ["_law_name_here", "_law_length", "_law_flow"] spFormT := by
  have G_Formu_initu := ok_Formu_initu (w := w) (base := base) T
  have GH__law_part := oh__law_part (w := w) (base := base) T
  refine T.F__law_form.ok sc__law_form (fun vs H Q E h => ?_) (fun cdv Ar outer s H vs Q E hr h => ?_)
  · obtain ⟨n, l, f, rfl, _⟩ := h
    rfl
  · obtain ⟨n, l, f, rfl, ln, lc, k⟩ := h
    have cl := T.cl_Form
    have no1 := T.no_Form_name
    have no2 := T.no_Form_length
    have no3 := T.no_Form_flow
    refine ⟨_, (pss_cons (Vc.ps_tryX (i := 4) rfl rfl sc__law_form.nd rfl rfl ⟨rfl, by decide, .inl T.g_CodeError⟩ takes0 (fun W pn xe tk po => (pss_one (ps_set (i := 3) sc__law_form.nd rfl (Or.inl rfl) (Vc.pe_makeS T.mk_Form G_Formu_initu (by exact hr.mono (by decide)) (by rfl) T.g_Form T.b_Formu_initu (fun σ => passAt tk σ) (pa_cons (pv 0) (pa_cons (pv 1) (pa_cons (pv 2) pa_nil))))))) (fun a pn => (pss_one (ps_ret (Vc.pe_callT GH__law_part (by exact Vc.roomH_mark ((L2H.roomH_of hr).mono (by decide))) (by rfl) T.g__law_part T.F__law_part.kp T.b__law_part (pa_cons (pv 4) pa_nil)))))) (pss_one (ps_ret (pe_tup (pa_cons pe_str (pa_cons (pe_fld (pv 3) rfl) (pa_cons (pe_fld (pv 3) rfl) (pa_cons (pe_fld (pv 3) rfl) pa_nil)))))))), ?_⟩
    walk_at "go"
    intro x dx nx ndx ne
    generalize hu1 : upd _ x _ = H1
    obtain ⟨e1, hx, hdx⟩ := Vc.allocI hu1 nx ndx ne
    refine ⟨x, dx, ⟨0, n, l, f⟩, rfl, ln, hx, fun e he d H2 e2 hd => ?_, fun he H2 e2 hF => ⟨rfl, ?_⟩⟩
    · change formErr n l f = some e at he
      refine Vc.go_wX T.exm_BadCodes_CodeError fun a H3 na e3 ha => ?_
      have hE := Vc.ErrAt.of ha e3 hd
      walk_at "go"
      refine ⟨a, e, rfl, hE, fun q H4 e4 hq => ?_⟩
      walk_at "go"
      exact k q H4 (by walk_at "ed") (by rw [he]; exact hq)
    · change formErr n l f = none at he
      have nx2 : H x = none := nx
      obtain ⟨dy, hy⟩ := id hF
      have l1 := form_name (n := n) (l := l) (f := f)
      have l2 := form_length (n := n) (l := l) (f := f)
      have l3 := form_flow (n := n) (l := l) (f := f)
      walk_at "go"
      intro q nq
      generalize hu3 : upd _ q _ = H3
      obtain ⟨e3, hq⟩ := Vc.alloc hu3 nq
      exact k q H3 (by walk_at "ed") (by rw [he]; exact hq)
theorem ok__law_set (T : Txt K mg A) : FnOk PG w K mg base CX0 6 A.f__law_set A.d__law_set ["_law_stop", "_law_forms"] (spSetT A) := by
  have G_CodeSetu_initu := ok_CodeSetu_initu (w := w) (base := base) T
  have G_CodeSetu_lenu := ok_CodeSetu_lenu (w := w) (base := base) T
  have GH__law_part := oh__law_part (w := w) (base := base) T
  refine T.F__law_set.ok sc__law_set (fun vs H Q E h => ?_) (fun cdv Ar outer s H vs Q E hr h => ?_)
  · obtain ⟨stop, d, items, rfl, _⟩ := h
    rfl
  · obtain ⟨stop, d, items, rfl, M, nd, il, k⟩ := h
    have cl := T.cl_CodeSet
    have no1 := T.no_CodeSet_stop
    refine ⟨_, (pss_cons (Vc.ps_tryX (i := 3) rfl rfl sc__law_set.nd rfl rfl ⟨rfl, by decide, .inl T.g_CodeError⟩ takes0 (fun W pn xe tk po => (pss_one (ps_set (i := 2) sc__law_set.nd rfl (Or.inl rfl) (Vc.pe_makeS T.mk_CodeSet G_CodeSetu_initu (by exact hr.mono (by decide)) (by rfl) T.g_CodeSet T.b_CodeSetu_initu (fun σ => passAt tk σ) (pa_cons (pv 0) (pa_cons (pv 1) pa_nil)))))) (fun a pn => (pss_one (ps_ret (Vc.pe_callT GH__law_part (by exact Vc.roomH_mark ((L2H.roomH_of hr).mono (by decide))) (by rfl) T.g__law_part T.F__law_part.kp T.b__law_part (pa_cons (pv 3) pa_nil)))))) (pss_one (ps_ret (pe_tup (pa_cons pe_str (pa_cons (pe_fld (pv 2) rfl) (pa_cons (pe_callB (Vc.call_lenO G_CodeSetu_lenu (by exact hr.mono (by decide)) T.sp_CodeSet_CodeSetu_lenu T.b_CodeSetu_lenu) (by rfl) T.n_len (by decide +kernel) (pa_cons (pv 2) pa_nil)) pa_nil))))))), ?_⟩
    walk_at "go"
    intro x dx nx ndx ne
    generalize hu1 : upd _ x _ = H1
    obtain ⟨e1, hx, hdx⟩ := Vc.allocI hu1 nx ndx ne
    refine ⟨x, dx, d, stop, items, rfl, ⟨e1.at0 M.ob, fun q hq => (M.fm q hq).ed0 e1⟩, nd, il, hx, fun s1 q0 H2 e2 hd => ?_, fun s1 s2 q0 H2 e2 hd => ?_, fun s1 s2 y H2 hyc hys hyi _ e2 nt no hY => ⟨rfl, ?_⟩⟩
    · refine Vc.go_wX T.exm_BadCodes_CodeError fun a H3 na e3 ha => ?_
      have hE := Vc.ErrAt.of ha e3 hd
      walk_at "go"
      refine ⟨a, _, rfl, hE, fun q H4 e4 hq => ?_⟩
      walk_at "go"
      exact k q H4 (by walk_at "ed") (by unfold setErr; rw [if_pos s1]; exact hq)
    · refine Vc.go_wX T.exm_BadCodes_CodeError fun a H3 na e3 ha => ?_
      have hE := Vc.ErrAt.of ha e3 hd
      walk_at "go"
      refine ⟨a, _, rfl, hE, fun q H4 e4 hq => ?_⟩
      walk_at "go"
      exact k q H4 (by walk_at "ed") (by unfold setErr; rw [if_neg (fun z => z s1), if_pos s2]; exact hq)
    · have nx2 : H x = none := nx
      subst hyc
      have hy := hY.ob
      have l1 := codes_stop (s := y.stop) (o := y.o) (t := y.t)
      walk_at "go"
      refine ⟨y, rfl, hY, _, rfl, by omega, ?_, ?_⟩
      · have := hyi.length_eq
        omega
      walk_at "go"
      intro q nq
      generalize hu3 : upd _ q _ = H3
      obtain ⟨e3, hq⟩ := Vc.alloc hu3 nq
      refine k q H3 (by walk_at "ed") ?_
      unfold setErr
      rw [if_neg (fun z => z s1), if_neg (fun z => z s2), ← hyi.length_eq, ← hys]
      exact hq
end

end My
namespace My
open PySem PySem.Spec PyProof.Rows L2
/-! ### data of texts -/
def OkS (z : Str) : Prop := PyData.canLay0 (.str z) = true
theorem okS_one {c : Nat} (h : c < 1114112) : OkS ⟨#[c]⟩ := by
  unfold OkS
  simp [PyData.canLay0, PyData.strOk, h]
theorem lay_strs : ∀ zs : List Str, (∀ z ∈ zs, OkS z) → PyData.canLayAll0 (zs.map PyData.str) = true
  | [], _ => rfl
  | z :: r, h => by
    rw [List.map_cons, PyData.canLayAll0, lay_strs r (fun y hy => h y (List.mem_cons_of_mem _ hy)), h z List.mem_cons_self]; rfl
theorem dep_strs : ∀ zs : List Str, PyData.depthAll (zs.map PyData.str) = 0
  | [] => rfl
  | z :: r => by
    rw [List.map_cons, PyData.depthAll, dep_strs r]; rfl
theorem shp_strs (zs : List Str) (h : ∀ z ∈ zs, OkS z) : SeqAt.shaped (.list (zs.map PyData.str)) = true := by
  unfold SeqAt.shaped
  rw [PyData.canLay0, lay_strs zs h, PyData.depth, dep_strs]; rfl
theorem eqv_strs0 : ∀ zs : List Str, PyData.eqv (.list (zs.map PyData.str)) (.list []) = decide (zs = [])
  | [] => rfl
  | _ :: _ => rfl
theorem dp_strs {K : PySem.W.Frag} {H : Hp} : ∀ (zs : List Str), DpAll K H (zs.map V.str) (zs.map PyData.str)
  | [] => .nil
  | z :: r => .cons (.str z) (dp_strs r)
theorem go_neStr0 {K : PySem.W.Frag} {H : Hp} {Q : VK} {p q : Addr} {zs : List Str} (ok : ∀ z ∈ zs, OkS z) (e1 : SqL K H p (zs.map V.str)) (e2 : SqL K H q []) (h : Q (.bl (!decide (zs = []))) H) : rNeD K (.ref p) (.ref q) H Q :=
  ⟨_, _, .lst e1 (dp_strs zs), .lst e2 .nil, shp_strs _ ok, shp_strs [] (fun _ h => nomatch h), by rw [eqv_strs0]; exact h⟩
theorem not_in_letters {z : Str} : (z.cps.toList.filter fun c => decide (c ∉ LET)) = [] ↔ ∀ c ∈ z.cps.toList, c ∈ LET := by
  rw [List.filter_eq_nil_iff]
  constructor
  · intro h c hc
    exact Decidable.of_not_not fun n => h c hc (decide_eq_true n)
  · intro h c hc
    have := h c hc
    simpa using this
section
variable {w : World} {K : PySem.W.Frag} {mg : Str → Option Value} {base : Heap} {A : Ad}
theorem ok__law_form_due (T : Txt K mg A) : FnOk PG w K mg base CX0 1 A.f__law_form_due A.d__law_form_due ["_law_name_here", "_law_length", "_law_flow"] spFormT := by
  refine T.F__law_form_due.ok sc__law_form_due (fun vs H Q E h => ?_) (fun cdv Ar outer s H vs Q E hr h => ?_)
  · obtain ⟨n, l, f, rfl, _⟩ := h
    rfl
  · obtain ⟨n, l, f, rfl, ln, lc, k⟩ := h
    refine ⟨_, (pss_cons (ps_set (i := 3) sc__law_form_due.nd rfl (Or.inr rfl) pe_str) (pss_cons (ps_if (PW.pt (pw_or (pt_cmpR op_lt (pe_callB call_len_str (by rfl) T.n_len (by decide +kernel) (pa_cons (pv 0) pa_nil)) pe_int (nomark _)) (pw_or (pt_cmpR op_gt (pe_callB call_len_str (by rfl) T.n_len (by decide +kernel) (pa_cons (pv 0) pa_nil)) pe_int (nomark _)) (pw_or1 (pt_cmpR (op_neD (by exact hr.units)) (pe_lc (own := [("_law_sign", 4)]) (g := gName 4) rfl sc__law_form_due.nd (pi_str (pv 0)) (blkOk_by (own := [("_law_sign", 4)]) (N := ["_law_name_here", "_law_length", "_law_flow", "_law_letters", "_law_sign"]) (sc := defScope s__law_form_due) (by decide +kernel)) (fun _ _ _ _ _ => by exact (pg_name (i := 4) sc__law_form_due.nd rfl (Or.inl rfl))) (fun _ _ _ _ _ => by (refine' Vc.blkT ?h ?q; (case h => exact pts_one (pt_cmpR op_notIn_sign (pv 4) (pv 3) (by rfl))); (case q => first | exact rfl | (dsimp only; done) | (dsimp only; exact rfl)))) (fun _ _ _ _ _ => by (refine' Vc.blkE ?h ?q; (case h => exact (pv 4)); (case q => first | exact rfl | (dsimp only; done) | (dsimp only; exact rfl))))) (pe_lst pa_nil) (nomark _)))))) (pss_one (ps_ret (pe_tup (pa_cons pe_str (pa_cons pe_str pa_nil))))) pss_nil) (pss_cons (ps_if (PW.pt (pw_or (pt_cmpR op_lt (pv 1) pe_int (nomark _)) (pw_or (pt_cmpR op_gt (pv 1) pe_int (nomark _)) (pw_or1 (PW.pt (pw_and (pt_cmpR op_eq (pv 1) pe_int (nomark _)) (pw_and1 (pt_cmpR op_in_seq (pv 2) (pe_lst (pa_cons pe_str (pa_cons pe_str pa_nil))) (by rfl))))))))) (pss_one (ps_ret (pe_tup (pa_cons pe_str (pa_cons pe_str pa_nil))))) pss_nil) (pss_cons (ps_if (pt_cmpR op_notIn_seq (pv 2) (pe_lst (pa_cons pe_str (pa_cons pe_str (pa_cons pe_str (pa_cons pe_str pa_nil))))) (by rfl)) (pss_one (ps_ret (pe_tup (pa_cons pe_str (pa_cons pe_str pa_nil))))) pss_nil) (pss_one (ps_ret (pe_tup (pa_cons pe_str (pa_cons (pv 0) (pa_cons (pv 1) (pa_cons (pv 2) pa_nil))))))))))), ?_⟩
    have fin : ∀ H1, Vc.Ed [] H H1 → ∀ (o : Option Str), formErr n l f = o → ∀ q, H1 q = none → Q (.ref q) (upd H1 q (.tup (ansF o n l f))) := by
      rintro H1 e1 o rfl q nq
      generalize hu3 : upd _ q _ = H3
      obtain ⟨e3, hq⟩ := Vc.alloc hu3 nq
      exact k q H3 (by walk_at "ed") hq
    walk_at "go"
    refine Vc.go_ite (fun h1 => ?_) (fun h1 => ?_)
    · walk_at "go"
      exact fin H .refl (some _) (by unfold formErr; rw [if_pos (fun z => by have := z.1; omega)])
    walk_at "go"
    refine Vc.go_ite (fun h2 => ?_) (fun h2 => ?_)
    · walk_at "go"
      exact fin H .refl (some _) (by unfold formErr; rw [if_pos (fun z => by have := z.2.1; omega)])
    walk_at "go"
    refine Vc.lc_by walk_str (fun L i H' => Vc.Ed [] H H' ∧ H' L = some (.lst ((((n.cps.toList.take i).filter fun c => decide (c ∉ LET)).map fun c => (⟨#[c]⟩ : Str)).map V.str))) (fun L H2 nL e hL => ⟨e, hL⟩) (fun _ _ _ _ _ _ => trivial) ?_ ?_
    · rintro L i x H1 H' nL hi ⟨e1, hL⟩ ⟨rfl, c, hc, rfl⟩
      have hc' : n.cps.toList[i]? = some c := by rw [Array.getElem?_toList]; exact hc
      walk_at "go"
      refine ⟨rfl, ?_⟩
      walk_at "go"
      rw [letters_eq]
      refine Vc.go_iten (fun g => ?_) (fun g => ?_)
      · walk_at "go"
        refine ⟨_, hL, ?_, ?_⟩
        · rw [List.length_map, List.length_map]
          refine small1000 ?_
          have a1 := List.length_filter_le (fun c => decide (c ∉ LET)) (n.cps.toList.take i)
          have a2 : (n.cps.toList.take i).length ≤ i := by rw [List.length_take]; omega
          have a3 : n.cps.size = n.length := rfl
          omega
        generalize hu : upd _ L _ = H2
        obtain ⟨e2, hL2⟩ := Vc.chg hu hL
        refine ⟨by walk_at "ed", ?_⟩
        rw [hL2, List.take_add_one, hc', List.filter_append, List.map_append, List.map_append]
        have : List.filter (fun c => decide (c ∉ LET)) (some c).toList = [c] := by simp [g]
        rw [this]; rfl
      · refine ⟨e1, ?_⟩
        rw [List.take_add_one, hc', List.filter_append]
        have : List.filter (fun c => decide (c ∉ LET)) (some c).toList = [] := by simp [g]
        rw [this, List.append_nil]
        exact hL
    · rintro L H1 nL ⟨e1, hL⟩
      rw [List.take_of_length_le (by rw [Array.length_toList]; exact Nat.le_refl _)] at hL
      walk_at "go"
      intro M nM
      generalize hu2 : upd _ M _ = H2
      obtain ⟨e2, hM⟩ := Vc.alloc hu2 nM
      have okz : ∀ z ∈ (n.cps.toList.filter fun c => decide (c ∉ LET)).map fun c => (⟨#[c]⟩ : Str), OkS z := fun z hz => by
        obtain ⟨c, hc, rfl⟩ := List.mem_map.mp hz
        exact okS_one (lc c (List.mem_filter.mp hc).1)
      refine go_neStr0 okz (.of (e2.at0 hL)) (.of hM) ?_
      have e02 : Vc.Ed [] H H2 := by walk_at "ed"
      walk_at "go"
      refine Vc.go_iten (fun h3 => ?_) (fun h3 => ?_)
      · walk_at "go"
        exact fin H2 e02 (some _) (by unfold formErr; rw [if_pos (fun z => h3 (by rw [not_in_letters.mpr z.2.2]; rfl))])
      have ok : NameOk n := ⟨by omega, by omega, not_in_letters.mp (List.map_eq_nil_iff.mp h3)⟩
      walk_at "go"
      refine Vc.go_ite (fun h4 => ?_) (fun h4 => ?_)
      · walk_at "go"
        exact fin H2 e02 (some _) (by unfold formErr; rw [if_neg (fun z => z ok), if_pos (.inl (by split <;> omega))])
      walk_at "go"
      refine Vc.go_ite (fun h5 => ?_) (fun h5 => ?_)
      · walk_at "go"
        exact fin H2 e02 (some _) (by unfold formErr; rw [if_neg (fun z => z ok), if_pos (.inr h5)])
      walk_at "go"
      refine Vc.go_ite (fun h6 => ?_) (fun h6 => ?_)
      · walk_at "go"
        intro R nR
        generalize hu3 : upd _ R _ = H3
        obtain ⟨e3, hR⟩ := Vc.alloc hu3 nR
        have e03 : Vc.Ed [] H H3 := by walk_at "ed"
        walk_at "go"
        have hb : inV (.str f) [.str "jump", .str "test"] = decide (f = "jump" ∨ f = "test") := inV2 _ _ _
        rw [hb]
        refine Vc.go_ite (fun h7 => ?_) (fun h7 => ?_)
        · walk_at "go"
          exact fin H3 e03 (some _) (by unfold formErr; rw [if_neg (fun z => z ok), if_pos (.inl (by rw [if_pos h7]; omega))])
        have nl : ¬ (l < 1 + (if f = "jump" ∨ f = "test" then 1 else 0) ∨ l > 4) := by rw [if_neg h7]; omega
        walk_at "go"
        intro N nN
        generalize hu4 : upd _ N _ = H4
        obtain ⟨e4, hN⟩ := Vc.alloc hu4 nN
        have e04 : Vc.Ed [] H H4 := by walk_at "ed"
        walk_at "go"
        have hf : inV (.str f) [.str "next", .str "jump", .str "test", .str "end"] = decide (Flow f) := inV4 _ _ _ _ _
        rw [hf]
        refine Vc.go_iten (fun h8 => ?_) (fun h8 => ?_)
        · walk_at "go"
          exact fin H4 e04 (some _) (by unfold formErr; rw [if_neg (fun z => z ok), if_neg nl, if_pos h8])
        walk_at "go"
        exact fin H4 e04 none (by unfold formErr; rw [if_neg (fun z => z ok), if_neg nl, if_neg (fun z => z h8)])
      · have nl : ¬ (l < 1 + (if f = "jump" ∨ f = "test" then 1 else 0) ∨ l > 4) := by split <;> omega
        walk_at "go"
        intro N nN
        generalize hu4 : upd _ N _ = H4
        obtain ⟨e4, hN⟩ := Vc.alloc hu4 nN
        have e04 : Vc.Ed [] H H4 := by walk_at "ed"
        walk_at "go"
        have hf : inV (.str f) [.str "next", .str "jump", .str "test", .str "end"] = decide (Flow f) := inV4 _ _ _ _ _
        rw [hf]
        refine Vc.go_iten (fun h8 => ?_) (fun h8 => ?_)
        · walk_at "go"
          exact fin H4 e04 (some _) (by unfold formErr; rw [if_neg (fun z => z ok), if_neg nl, if_pos h8])
        walk_at "go"
        exact fin H4 e04 none (by unfold formErr; rw [if_neg (fun z => z ok), if_neg nl, if_neg (fun z => z h8)])
end

end My
namespace My
open PySem PySem.Spec PyProof.Rows L2
/-! ### what is due of a code set: by the names alone -/
def nmK (items : List (FD × Addr)) : List (Key × V) := items.map fun p => (.inl p.1.byte, .str p.1.name)
theorem nmK_len (items : List (FD × Addr)) : (nmK items).length = items.length := List.length_map _
theorem nmK_get {items : List (FD × Addr)} {i : Nat} {k : Key} {v : V} (h : (nmK items)[i]? = some (k, v)) : ∃ p, items[i]? = some p ∧ k = .inl p.1.byte ∧ v = .str p.1.name := by
  unfold nmK at h
  rw [List.getElem?_map] at h
  cases e : items[i]? with
  | none => rw [e] at h; cases h
  | some p => rw [e] at h; cases h; exact ⟨p, rfl, rfl, rfl⟩
theorem nmK_val {items : List (FD × Addr)} {p : FD × Addr} (h : ((items.map (·.1)).map (·.byte)).Nodup) (hp : p ∈ items) : valV (nmK items) (.inl p.1.byte) = some (.str p.1.name) := by
  refine valV_mem ?_ (List.mem_map.mpr ⟨p, hp, rfl⟩)
  have e : (nmK items).map (·.1) = ((items.map (·.1)).map (·.byte)).map (fun b => (Sum.inl b : Key)) := by
    unfold nmK
    simp [List.map_map, Function.comp_def]
  rw [e]
  exact nodup_inl h
theorem nodup_count {zs : List Str} : zs.Nodup ↔ ∀ z ∈ zs, ¬ 1 < zs.count z := by
  rw [List.nodup_iff_count]
  constructor
  · intro h z _ n
    have := h z
    omega
  · intro h z
    by_cases hz : z ∈ zs
    · have := h z hz; omega
    · rw [List.count_eq_zero.mpr hz]; omega
/-- unlocked again, where only the edges are known -/
theorem unlockE {S : List Addr} {d : Addr} {u : HO} {H H1 H' : Hp} (h : H d = some u) (m : Mut (some u)) (e1 : Vc.Ed [d] H H1) (e2 : Vc.Ed S H1 H') : Vc.Ed S H (upd H' d u) ∧ ∀ a o, a ≠ d → H' a = some o → upd H' d u a = some o := by
  have nf : ∀ ob w, u ≠ .frz ob w := fun ob w z => by rw [z] at m; exact m
  have nt : ∀ xs, u ≠ .tup xs := fun xs z => by rw [z] at m; exact m
  refine ⟨⟨fun a o ha e => ?_, fun a xs e => ?_, fun a ob w e => ?_, fun a e => ?_⟩, fun a o n e => by rw [upd_ne n]; exact e⟩
  · by_cases q : a = d
    · subst q; rw [h] at e; cases e; exact upd_same
    · rw [upd_ne q]; exact e2.keep a o ha (e1.keep a o (fun z => q (List.mem_singleton.mp z)) e)
  · by_cases q : a = d
    · subst q; rw [h] at e; cases e; exact (nt _ rfl).elim
    · rw [upd_ne q]; exact e2.tup a xs (e1.tup a xs e)
  · by_cases q : a = d
    · subst q; rw [h] at e; cases e; exact (nf _ _ rfl).elim
    · rw [upd_ne q]; exact e2.frz a ob w (e1.frz a ob w e)
  · by_cases q : a = d
    · subst q; rw [upd_same] at e; cases e
    · rw [upd_ne q] at e; exact e1.dom a (e2.dom a e)
def spSetDue : Sp := fun vs H Q _ => ∃ (stop : Int) (d : Addr) (items : List (FD × Addr)), vs = [.int stop, .ref d] ∧ H d = some (.dK (nmK items)) ∧ ((items.map (·.1)).map (·.byte)).Nodup ∧ items.length ≤ 900 ∧
  ∀ q H', Vc.Ed [] H H' → H' q = some (.tup (ansS (setErr stop (items.map (·.1))) stop items.length)) → Q (.ref q) H'
section
variable {w : World} {K : PySem.W.Frag} {mg : Str → Option Value} {base : Heap} {A : Ad}
theorem ok__law_set_due (T : Txt K mg A) : FnOk PG w K mg base CX0 1 A.f__law_set_due A.d__law_set_due ["_law_stop", "_law_names_here"] spSetDue := by
  refine T.F__law_set_due.ok sc__law_set_due (fun vs H Q E h => ?_) (fun cdv Ar outer s H vs Q E hr h => ?_)
  · obtain ⟨stop, d, items, rfl, _⟩ := h
    rfl
  · obtain ⟨stop, d, items, rfl, hd, nd, il, k⟩ := h
    have hu := hu_of hr
    have kl := nmK_len items
    refine ⟨_, (pss_cons (ps_if (PW.pt (pw_or (pt_cmpR op_lt (pv 0) pe_int (nomark _)) (pw_or1 (pt_cmpR op_gt (pv 0) pe_int (nomark _))))) (pss_one (ps_ret (pe_tup (pa_cons pe_str (pa_cons pe_str pa_nil))))) pss_nil) (pss_cons (ps_if (PW.pt (pw_or (pt_cmpR op_lt (pe_callB call_lenD (by rfl) T.n_len (by decide +kernel) (pa_cons (pv 1) pa_nil)) pe_int (nomark _)) (pw_or1 (pt_cmpR op_gt (pe_callB call_lenD (by rfl) T.n_len (by decide +kernel) (pa_cons (pv 1) pa_nil)) pe_int (nomark _))))) (pss_one (ps_ret (pe_tup (pa_cons pe_str (pa_cons pe_str pa_nil))))) pss_nil) (pss_cons (ps_lock (ps_setLc (i := 2) (own := [("_law_byte", 3)]) (g := gName 3) rfl sc__law_set_due.nd rfl rfl (sw_true rfl rfl rfl (by decide +kernel)) (pi_keys (pv 1)) (blkOk_by (own := [("_law_byte", 3)]) (N := ["_law_stop", "_law_names_here", "_law_told", "_law_byte"]) (sc := defScope s__law_set_due) (by decide +kernel)) (fun _ _ _ _ _ => by exact (pg_name (i := 3) sc__law_set_due.nd rfl (Or.inl rfl))) (fun _ _ _ _ _ => by exact pts_nil) (fun _ _ _ _ _ => by (refine' Vc.blkE ?h ?q; (case h => exact (pe_dget (by exact hu) (pv 1) (pv 3) (fun _ _ => rfl))); (case q => first | exact rfl | (dsimp only; done) | (dsimp only; exact rfl)))))) (pss_cons (ps_lock (ps_for PassesOwn.never rfl (pi_keys (pv 1)) (pg_name (i := 3) sc__law_set_due.nd rfl (Or.inl rfl)) (pss_one (ps_if (PW.pt (pw_or (pt_cmpR op_lt (pv 3) pe_int (nomark _)) (pw_or (pt_cmpR op_gt (pv 3) pe_int (nomark _)) (pw_or (pt_cmpR op_eq (pv 3) (pv 0) (nomark _)) (pw_or1 (pt_cmpR op_gt (pe_bm PySem.F.plainAttrs_list PySem.F.slot_list_count PySem.F.type_list_count Vc.mt_lcountS (pv 2) (pa_cons (pe_dget (by exact hu) (pv 1) (pv 3) (fun _ _ => rfl)) pa_nil)) pe_int (nomark _))))))) (pss_one (ps_ret (pe_tup (pa_cons pe_str (pa_cons pe_str pa_nil))))) pss_nil)))) (pss_one (ps_ret (pe_tup (pa_cons pe_str (pa_cons (pv 0) (pa_cons (pe_callB call_lenD (by rfl) T.n_len (by decide +kernel) (pa_cons (pv 1) pa_nil)) pa_nil)))))))))), ?_⟩
    have fin : ∀ H1, Vc.Ed [] H H1 → ∀ (o : Option Str), setErr stop (items.map (·.1)) = o → ∀ q, H1 q = none → Q (.ref q) (upd H1 q (.tup (ansS o stop items.length))) := by
      rintro H1 e1 o rfl q nq
      generalize hu3 : upd _ q _ = H3
      obtain ⟨e3, hq⟩ := Vc.alloc hu3 nq
      exact k q H3 (by walk_at "ed") hq
    walk_at "go"
    refine Vc.go_ite (fun h1 => ?_) (fun h1 => ?_)
    · walk_at "go"
      exact fin H .refl (some _) (by unfold setErr; rw [if_pos (fun z => by omega)])
    walk_at "go"
    refine Vc.go_ite (fun h2 => ?_) (fun h2 => ?_)
    · walk_at "go"
      exact fin H .refl (some _) (by unfold setErr; rw [if_pos (fun z => by omega)])
    have ns : ¬ ¬ (0 ≤ stop ∧ stop ≤ 255) := fun z => z ⟨by omega, by omega⟩
    walk_at "go"
    refine Vc.go_ite (fun h3 => ?_) (fun h3 => ?_)
    · walk_at "go"
      exact fin H .refl (some _) (by unfold setErr; rw [if_neg ns, if_pos (fun z => by have := z.n1; rw [List.length_map] at this; omega)])
    walk_at "go"
    refine Vc.go_ite (fun h4 => ?_) (fun h4 => ?_)
    · walk_at "go"
      exact fin H .refl (some _) (by unfold setErr; rw [if_neg ns, if_pos (fun z => by have := z.n16; rw [List.length_map] at this; omega)])
    walk_at "go"
    refine Vc.lockA_keys rfl hd [] (fun H1 L i H' => Vc.Ed [] H1 H' ∧ H' L = some (.lst ((items.take i).map fun p => .str p.1.name))) (fun _ _ _ _ h => h.1) (fun H1 od L H2 e1 h1 nL e2 hL => ⟨e2, hL⟩) ?_ ?_
    · rintro H1 od L i k' v H' e1 nL h1 hk ⟨e2, hL⟩
      obtain ⟨p, hp, rfl, rfl⟩ := nmK_get hk
      have hm := List.mem_of_getElem? hp
      have hi : i < items.length := (List.getElem?_eq_some_iff.mp hp).1
      have hv := nmK_val nd hm
      change gName 3 (V.int p.1.byte) _ _ _
      walk_at "go"
      refine ⟨rfl, ?_⟩
      walk_at "go"
      refine ⟨_, hL, by rw [List.length_map, List.length_take]; exact small1000 (by omega), ?_⟩
      generalize hu2 : upd _ L _ = H3
      obtain ⟨e3, hL3⟩ := Vc.chg hu2 hL
      refine ⟨e2.one e3 (.inr nL), ?_⟩
      rw [List.take_add_one, hp, List.map_append]
      exact hL3
    · rintro H1 L H' H2 nL ⟨e2, hL⟩ e hd2 k2
      have hLd : L ≠ d := fun z => by rw [z, hd] at nL; cases nL
      have hL2 := k2 L _ hLd hL
      have eq : List.map (fun p : FD × Addr => V.str p.1.name) (List.take (nmK items).length items) = ((items.map (·.1)).map (·.name)).map V.str := by
        rw [nmK_len, List.take_of_length_le (Nat.le_refl _)]
        simp [List.map_map, Function.comp_def]
      rw [eq] at hL2
      walk_at "go"
      refine Vc.lock_keys rfl hd2 [] (fun H1 i σ H' => (∃ y, σ = [some (.int stop), some (.ref d), some (.ref L), y]) ∧ Vc.Ed [] H1 H' ∧ ∀ p ∈ items.take i, (0 ≤ p.1.byte ∧ p.1.byte ≤ 255 ∧ p.1.byte ≠ stop) ∧ ¬ 1 < ((items.map (·.1)).map (·.name)).count p.1.name) (fun _ _ _ _ h => h.2.1) (fun H1 od _ _ => ⟨⟨none, rfl⟩, .refl, fun p hp => by simp at hp⟩) ?_ ?_
      · rintro H1 od i k' v σ' H' e1 hdz h1 hk ⟨⟨y, rfl⟩, e2, good⟩
        obtain ⟨p, hp, rfl, rfl⟩ := nmK_get hk
        have hm := List.mem_of_getElem? hp
        have hv := nmK_val nd hm
        have hL3 := e2.at0 (e1.at1 hLd hL2)
        have bad : ¬ ((0 ≤ p.1.byte ∧ p.1.byte ≤ 255 ∧ p.1.byte ≠ stop) ∧ ¬ 1 < ((items.map (·.1)).map (·.name)).count p.1.name) → setErr stop (items.map (·.1)) = @some Str "forms" := fun nb => by
          unfold setErr
          rw [if_neg ns, if_pos (fun z => nb ⟨z.byt p.1 (List.mem_map.mpr ⟨p, hm, rfl⟩), nodup_count.mp z.ndn _ (List.mem_map.mpr ⟨p.1, List.mem_map.mpr ⟨p, hm, rfl⟩, rfl⟩)⟩)]
        have back : setErr stop (items.map (·.1)) = @some Str "forms" → ∀ q, H' q = none → upd H' q (.tup [.str "refused", .str "forms"]) d = some (.frz od (.dK (nmK items))) ∧ Q (.ref q) (upd (upd H' q (.tup [.str "refused", .str "forms"])) d (.dK (nmK items))) := fun he q nq => by
          generalize hu5 : upd _ q _ = G
          obtain ⟨e5, hq⟩ := Vc.alloc hu5 nq
          obtain ⟨e6, k6⟩ := unlockE hd2 trivial e1 (Vc.Ed.ex' e5 e2)
          have nqd : q ≠ d := fun z => by rw [z, h1] at nq; cases nq
          exact ⟨e5.frz _ _ _ h1, k q _ (Vc.Ed.ex' e6 e) (by rw [he]; exact k6 _ _ nqd hq)⟩
        change gName 3 (V.int p.1.byte) _ _ _
        walk_at "go"
        refine Vc.go_ite (fun g1 => ?_) (fun g1 => ?_)
        · walk_at "go"
          exact back (bad (fun z => by have := z.1.1; omega))
        walk_at "go"
        refine Vc.go_ite (fun g2 => ?_) (fun g2 => ?_)
        · walk_at "go"
          exact back (bad (fun z => by have := z.1.2.1; omega))
        walk_at "go"
        refine Vc.go_ite (fun g3 => ?_) (fun g3 => ?_)
        · walk_at "go"
          exact back (bad (fun z => z.1.2.2 g3))
        walk_at "go"
        refine Vc.go_ite (fun g4 => ?_) (fun g4 => ?_)
        · walk_at "go"
          exact back (bad (fun z => z.2 (by omega)))
        walk_at "go"
        refine ⟨⟨_, rfl⟩, e2, fun r hr => ?_⟩
        rw [List.take_add_one, hp] at hr
        rcases List.mem_append.mp hr with hr | hr
        · exact good r hr
        · have e : r = p := by simpa using hr
          rw [e]; exact ⟨⟨by omega, by omega, g3⟩, by omega⟩
      · rintro H1 σ' H' H3 _ ⟨⟨y, rfl⟩, e2, good⟩ e3 hd3 _
        rw [nmK_len, List.take_of_length_le (Nat.le_refl _)] at good
        have ok : FormsOk stop (items.map (·.1)) := ⟨by rw [List.length_map]; omega, by rw [List.length_map]; omega, nodup_count.mpr fun z hz => by
          obtain ⟨f, hf, rfl⟩ := List.mem_map.mp hz
          obtain ⟨p, hp, rfl⟩ := List.mem_map.mp hf
          exact (good p hp).2, fun f hf => by
          obtain ⟨p, hp, rfl⟩ := List.mem_map.mp hf
          exact (good p hp).1⟩
        have e03 : Vc.Ed [] H H3 := by walk_at "ed"
        walk_at "go"
        rw [nmK_len]
        exact fin H3 e03 none (by unfold setErr; rw [if_neg ns, if_neg (fun z => z ok)])
end

end My
namespace My
open PySem PySem.Spec PyProof.Rows L2
/-! ### data of ints: laid out, equal -/
theorem lay_ints : ∀ ns : List Int, PyData.canLayAll0 (ns.map PyData.int) = true
  | [] => rfl
  | n :: r => by
    rw [List.map_cons, PyData.canLayAll0, lay_ints r]; rfl
theorem dep_ints : ∀ ns : List Int, PyData.depthAll (ns.map PyData.int) = 0
  | [] => rfl
  | n :: r => by
    rw [List.map_cons, PyData.depthAll, dep_ints r]; rfl
theorem shp_list (ns : List Int) : SeqAt.shaped (.list (ns.map PyData.int)) = true := by
  unfold SeqAt.shaped
  rw [PyData.canLay0, lay_ints, PyData.depth, dep_ints]; rfl
theorem shp_tup (ns : List Int) : SeqAt.shaped (.tuple (ns.map PyData.int)) = true := by
  unfold SeqAt.shaped
  rw [PyData.canLay0, lay_ints, PyData.depth, dep_ints]; rfl
theorem eqv_ints : ∀ ns ms : List Int, PyData.eqvAll (ns.map PyData.int) (ms.map PyData.int) = decide (ns = ms)
  | [], [] => rfl
  | [], _ :: _ => rfl
  | _ :: _, [] => rfl
  | n :: r, m :: q => by
    rw [List.map_cons, List.map_cons, PyData.eqvAll, eqv_ints r q, Bool.eq_iff_iff]
    show ((n == m) && decide (r = q)) = true ↔ _
    simp
theorem eqv_lists (ns ms : List Int) : PyData.eqv (.list (ns.map PyData.int)) (.list (ms.map PyData.int)) = decide (ns = ms) := by rw [PyData.eqv]; exact eqv_ints ns ms
theorem eqv_tups (ns ms : List Int) : PyData.eqv (.tuple (ns.map PyData.int)) (.tuple (ms.map PyData.int)) = decide (ns = ms) := by rw [PyData.eqv]; exact eqv_ints ns ms
theorem dp_ints {K : PySem.W.Frag} {H : Hp} : ∀ (ns : List Int), DpAll K H (ns.map V.int) (ns.map PyData.int)
  | [] => .nil
  | n :: r => .cons (.int n) (dp_ints r)
section
variable {K : PySem.W.Frag} {H : Hp} {Q : VK} {p q : Addr} {ns ms : List Int}
/-- two lists of ints compared -/
theorem go_neLs (e1 : SqL K H p (ns.map V.int)) (e2 : SqL K H q (ms.map V.int)) (h : Q (.bl (!decide (ns = ms))) H) : rNeD K (.ref p) (.ref q) H Q :=
  ⟨_, _, .lst e1 (dp_ints ns), .lst e2 (dp_ints ms), shp_list _, shp_list _, by rw [eqv_lists]; exact h⟩
theorem go_eqLs (e1 : SqL K H p (ns.map V.int)) (e2 : SqL K H q (ms.map V.int)) (h : Q (.bl (decide (ns = ms))) H) : rEqD K (.ref p) (.ref q) H Q :=
  ⟨_, _, .lst e1 (dp_ints ns), .lst e2 (dp_ints ms), shp_list _, shp_list _, by rw [eqv_lists]; exact h⟩
end

/-! ### flat values as data -/
def vD : V → PyData
  | .bl b => .bool b
  | .int i => .int i
  | .str z => .str z
  | _ => .none
def isAt : V → Bool
  | .non => true
  | .bl _ => true
  | .int _ => true
  | .str _ => true
  | _ => false
theorem dp_at {K : PySem.W.Frag} {H : Hp} : ∀ {x : V}, isAt x = true → Dp K H x (vD x)
  | .non, _ => .non
  | .bl b, _ => .bl b
  | .int i, _ => .int i
  | .str z, _ => .str z
theorem dp_ats {K : PySem.W.Frag} {H : Hp} : ∀ {xs : List V}, xs.all isAt = true → DpAll K H xs (xs.map vD)
  | [], _ => .nil
  | x :: r, h => by
    rw [List.all_cons, Bool.and_eq_true] at h
    exact .cons (dp_at h.1) (dp_ats h.2)
theorem sh_ats {xs : List V} (l : xs.length ≤ 1000) : Shal 1 (.tuple (xs.map vD)) := by
  refine .inr ⟨_, .inr rfl, by rw [List.length_map]; exact l, fun y hy => ?_⟩
  obtain ⟨x, _, rfl⟩ := List.mem_map.mp hy
  cases x <;> first | exact .inl rfl | exact .inr (.inl ⟨_, rfl⟩) | exact .inr (.inr (.inl ⟨_, rfl⟩)) | exact .inr (.inr (.inr ⟨_, rfl⟩))

end My
namespace My
open PySem PySem.Spec PyProof.Rows L2
/-! ### names drawn -/
theorem cutS_take (z : Str) (k : Nat) : cutS z none (some (k : Int)) = ⟨(z.cps.toList.take k).toArray⟩ := by
  unfold cutS
  have e : z.length = z.cps.toList.length := rfl
  rw [e, HT.sIx_nat, HT.sIx_none, List.drop_zero, Nat.sub_zero]
  rcases Nat.le_total k z.cps.toList.length with h | h
  · rw [Nat.min_eq_left h]
  · rw [Nat.min_eq_right h, List.take_length, List.take_of_length_le h]
theorem cutS_drop (z : Str) (k : Nat) : cutS z (some (k : Int)) none = ⟨(z.cps.toList.drop k).toArray⟩ := by
  unfold cutS
  have e : z.length = z.cps.toList.length := rfl
  rw [e, HT.sIx_nat, HT.sIx_none]
  rcases Nat.le_total k z.cps.toList.length with h | h
  · rw [Nat.min_eq_left h, List.take_of_length_le (by rw [List.length_drop]; omega)]
  · rw [Nat.min_eq_right h, List.drop_of_length_le h, List.drop_length, List.take_nil]
theorem let_mem {j : Nat} (hj : j < 26) : LET.getD j 0 ∈ LET := by
  have a : ∀ i : Fin 26, LET.getD i.1 0 ∈ LET := by decide +kernel
  exact a ⟨j, hj⟩
theorem let_at {i : Int} (h0 : 0 ≤ i) (h1 : i < 26) : atI ("abcdefghijklmnopqrstuvwxyz" : Str).cps.toList i = some (LET.getD i.toNat 0) := by
  rw [letters_eq]
  have a : ∀ i : Fin 26, atI LET (i.1 : Int) = some (LET.getD i.1 0) := by decide +kernel
  have := a ⟨i.toNat, by omega⟩
  rwa [show ((⟨i.toNat, by omega⟩ : Fin 26).1 : Int) = i by show (i.toNat : Int) = i; omega] at this
theorem joinL_nil : ∀ (ps : List (List Nat)), TL.joinL [] ps = ps.flatten
  | [] => rfl
  | [p] => by show p = _; simp
  | p :: q :: r => by
    show p ++ ([] ++ TL.joinL [] (q :: r)) = _
    rw [joinL_nil (q :: r)]; simp
theorem join_one (cs : List Nat) : Txt.join "" (cs.map fun c => (⟨#[c]⟩ : Str)) = ⟨cs.toArray⟩ := by
  refine TL.ext_tl ?_
  rw [congrArg TL.tl (TL.join_eq _ _), TL.tl_join]
  have e : TL.tl ("" : Str) = [] := by decide +kernel
  rw [e, joinL_nil, List.map_map]
  show (cs.map fun c => [c]).flatten = cs
  induction cs with
  | nil => rfl
  | cons c r ih => rw [List.map_cons, List.flatten_cons, ih]; rfl
/-- all signs stand for characters -/
def Chars (z : Str) : Prop := ∀ c ∈ z.cps.toList, c < 1114112
theorem str_len : ("ABZ0129_-. ~@\x5b`{" : Str).length = 16 := by decide +kernel
theorem str_at {i : Int} (h0 : 0 ≤ i) (h1 : i < ((16 : Nat) : Int)) : ∃ c, c < 1114112 ∧ atI ("ABZ0129_-. ~@\x5b`{" : Str).cps.toList i = some c := by
  have a : ∀ i : Fin 16, ∃ c ∈ ("ABZ0129_-. ~@\x5b`{" : Str).cps.toList, atI ("ABZ0129_-. ~@\x5b`{" : Str).cps.toList (i.1 : Int) = some c := by decide +kernel
  have b : ∀ c ∈ ("ABZ0129_-. ~@\x5b`{" : Str).cps.toList, c < 1114112 := by decide +kernel
  obtain ⟨c, hc, e⟩ := a ⟨i.toNat, by omega⟩
  rw [show ((⟨i.toNat, by omega⟩ : Fin 16).1 : Int) = i by show (i.toNat : Int) = i; omega] at e
  exact ⟨c, b c hc, e⟩
theorem cutS_mem {z : Str} {lo hi : Option Int} {x : Nat} (h : x ∈ (cutS z lo hi).cps.toList) : x ∈ z.cps.toList := by
  unfold cutS at h
  dsimp only at h
  exact List.mem_of_mem_drop (List.mem_of_mem_take h)
def spName : Sp := fun vs H Q _ => ∃ (b c : Addr), vs = [.ref b] ∧ Bag H b c ∧ ∀ z H', Vc.Ed [b] H H' → Bag H' b c → z.length ≤ 20 → Chars z → Q (.str z) H'
section
variable {w : World} {K : PySem.W.Frag} {mg : Str → Option Value} {base : Heap} {A : Ad}
theorem ok__law_name (T : Txt K mg A) : FnOk PG w K mg base CX0 2 A.f__law_name A.d__law_name ["_law_bag_here"] spName := by
  have G__law_draw := ok__law_draw (P := PG) (w := w) (base := base) T
  refine T.F__law_name.ok sc__law_name (fun vs H Q E h => ?_) (fun cdv Ar outer s H vs Q E hr h => ?_)
  · obtain ⟨b, c, rfl, _⟩ := h
    rfl
  · obtain ⟨b, c, rfl, hB, k⟩ := h
    refine ⟨_, (pss_cons (ps_set (i := 1) sc__law_name.nd rfl (Or.inr rfl) pe_str) (pss_cons (ps_set (i := 2) sc__law_name.nd rfl (Or.inl rfl) pe_str) (pss_cons (ps_set (i := 3) sc__law_name.nd rfl (Or.inl rfl) (pe_call G__law_draw (by exact hr.mono (by decide)) (by rfl) T.g__law_draw T.F__law_draw.kp T.b__law_draw .nil pass0 (pa_cons (pv 0) (pa_cons pe_int pa_nil)))) (pss_cons (ps_set (i := 4) sc__law_name.nd rfl (Or.inl rfl) (pe_join pe_str (pe_lc (own := [("_law_k", 6)]) (g := gName 6) rfl sc__law_name.nd (pi_range1 (by rfl) T.n_range (pa_cons (pv 3) pa_nil)) (blkOk_by (own := [("_law_k", 6)]) (N := ["_law_bag_here", "_law_letters", "_law_strange", "_law_size", "_law_name_here", "_law_at", "_law_k"]) (sc := defScope s__law_name) (by decide +kernel)) (fun _ _ _ _ _ => by exact (pg_name (i := 6) sc__law_name.nd rfl (Or.inl rfl))) (fun _ _ _ _ _ => by exact pts_nil) (fun _ _ _ _ _ => by (refine' Vc.blkE ?h ?q; (case h => exact (pe_ix ix_str (pv 1) (pe_call G__law_draw (by exact hr.mono (by decide)) (by rfl) T.g__law_draw T.F__law_draw.kp T.b__law_draw .nil pass0 (pa_cons (pv 0) (pa_cons pe_int pa_nil))) (fun _ _ => rfl))); (case q => first | exact rfl | (dsimp only; done) | (dsimp only; exact rfl))))))) (pss_cons (ps_if (PW.pt (pw_and (pt_cmpR op_gt (pv 3) pe_int (nomark _)) (pw_and1 (pt_cmpR op_eq (pe_call G__law_draw (by exact hr.mono (by decide)) (by rfl) T.g__law_draw T.F__law_draw.kp T.b__law_draw .nil pass0 (pa_cons (pv 0) (pa_cons pe_int pa_nil))) pe_int (nomark _))))) (pss_cons (ps_set (i := 5) sc__law_name.nd rfl (Or.inl rfl) (pe_call G__law_draw (by exact hr.mono (by decide)) (by rfl) T.g__law_draw T.F__law_draw.kp T.b__law_draw .nil pass0 (pa_cons (pv 0) (pa_cons (pv 3) pa_nil)))) (pss_one (ps_set (i := 4) sc__law_name.nd rfl (Or.inl rfl) (pe_op op_add_str (pe_op op_add_str (pe_slice sl_str (pv 4) po_none (po_some (pv 5))) (pe_ix ix_str (pv 2) (pe_call G__law_draw (by exact hr.mono (by decide)) (by rfl) T.g__law_draw T.F__law_draw.kp T.b__law_draw .nil pass0 (pa_cons (pv 0) (pa_cons (pe_callB call_len_str (by rfl) T.n_len (by decide +kernel) (pa_cons (pv 2) pa_nil)) pa_nil))) (fun _ _ => rfl))) (pe_slice sl_str (pv 4) (po_some (pe_op op_add (pv 5) pe_int)) po_none))))) pss_nil) (pss_one (ps_ret (pv 4)))))))), ?_⟩
    walk_at "go"
    refine ⟨b, c, 10, rfl, hB, by omega, by omega, fun n H1 n0 n1 e1 hB1 => ?_⟩
    walk_at "go"
    refine ⟨by omega, by omega, Vc.lc_by walk_range (fun L i H' => Vc.Ed [b] H H' ∧ Bag H' b c ∧ ∃ cs : List Nat, cs.length = i ∧ (∀ c ∈ cs, c ∈ LET) ∧ H' L = some (.lst (cs.map fun c => .str ⟨#[c]⟩))) (fun L H2 nL e2 hL => ⟨by walk_at "ed", hB1.ed0 e2, [], rfl, (by intro c h; cases h), hL⟩) (fun _ _ _ _ _ _ => trivial) ?_ ?_⟩
    · rintro L i x H2 H3 nL hi ⟨e2, hB2, cs, lc, hc, hL⟩ ⟨rfl, rfl⟩
      walk_at "go"
      refine ⟨rfl, ?_⟩
      walk_at "go"
      refine ⟨b, c, 26, rfl, hB2, by omega, by omega, fun v H4 v0 v1 e4 hB4 => ?_⟩
      have hv := let_at v0 v1
      walk_at "go"
      have nb := hB1.fb nL
      have nL0 := e1.dom _ nL
      have hL4 := e4.at1 nb.1.symm hL
      refine ⟨_, hL4, by rw [List.length_map]; exact small1000 (by omega), ?_⟩
      generalize hu5 : upd _ L _ = H5
      obtain ⟨e5, hL5⟩ := Vc.chg hu5 hL4
      refine ⟨by walk_at "ed", hB4.ed1 e5 nb.1 nb.2, cs ++ [LET.getD v.toNat 0], by rw [List.length_append, lc]; rfl, fun c' hc' => ?_, by rw [List.map_append]; exact hL5⟩
      rcases List.mem_append.mp hc' with h | h
      · exact hc c' h
      · rw [List.mem_singleton.mp h]; exact let_mem (by omega)
    · rintro L H2 nL ⟨e2, hB2, cs, lc, hc, hL⟩
      walk_at "go"
      have hL' : SqL K H2 L ((cs.map fun c => (⟨#[c]⟩ : Str)).map V.str) := by rw [List.map_map]; exact .of hL
      refine Vc.go_join hL' ?_ ?_
      · have e0 : ("" : Str).length = 0 := by decide +kernel
        have e1 : (List.map (fun x : Str => x.length) (List.map (fun c => { cps := #[c] }) cs)).sum = cs.length := by
          clear hL hc lc hL'
          induction cs with
          | nil => rfl
          | cons c r ih =>
            rw [List.map_cons, List.map_cons, List.sum_cons, ih, List.length_cons]
            show 1 + r.length = r.length + 1
            omega
        rw [e0, e1]
        omega
      rw [join_one]
      have zl : (⟨cs.toArray⟩ : Str).length = cs.length := by show cs.toArray.size = _; simp
      have zl1 : (⟨cs.toArray⟩ : Str).length ≤ 1000 := by omega
      walk_at "go"
      have e2' : Vc.Ed [b] H H2 := e2
      have ch : Chars ⟨cs.toArray⟩ := fun c' hc' => by
        have hm := hc c' (by simpa using hc')
        have a : ∀ x ∈ LET, x < 1114112 := by decide +kernel
        exact a c' hm
      have l20 : (⟨cs.toArray⟩ : Str).length ≤ 20 := by omega
      refine Vc.go_ite (fun g1 => ?_) (fun g1 => ?_)
      · walk_at "go"
        refine ⟨b, c, 3, rfl, hB2, by omega, by omega, fun v H3 v0 v1 e3 hB3 => ?_⟩
        walk_at "go"
        refine Vc.go_ite (fun g2 => ?_) (fun g2 => ?_)
        · walk_at "go"
          refine ⟨b, c, n, rfl, hB3, by omega, by omega, fun p H4 p0 p1 e4 hB4 => ?_⟩
          have zp : (cutS ⟨cs.toArray⟩ none (some p)).length ≤ 9 := Nat.le_trans (cutS_length _ _ _) (by omega)
          have zq : (cutS ⟨cs.toArray⟩ (some (p + 1)) none).length ≤ 9 := Nat.le_trans (cutS_length _ _ _) (by omega)
          walk_at "go"
          refine ⟨b, c, _, rfl, hB4, by rw [str_len]; decide, by rw [str_len]; decide, fun q H5 q0 q1 e5 hB5 => ?_⟩
          rw [str_len] at q1
          obtain ⟨ch', hch, hat⟩ := str_at q0 q1
          have ls : ("ABZ0129_-. ~@\x5b`{" : Str).length ≤ 1000 := by rw [str_len]; decide
          have z1 : (cutS ⟨cs.toArray⟩ none (some p)).length + (⟨#[ch']⟩ : Str).length ≤ 1000 := by
            have : (⟨#[ch']⟩ : Str).length = 1 := rfl
            omega
          have z3 : (cutS ⟨cs.toArray⟩ none (some p) ++ (⟨#[ch']⟩ : Str)).length = (cutS ⟨cs.toArray⟩ none (some p)).length + 1 := by
            show (_ ++ _ : Array Nat).size = _
            rw [Array.size_append]; rfl
          have z2 : (cutS ⟨cs.toArray⟩ none (some p) ++ (⟨#[ch']⟩ : Str)).length + (cutS ⟨cs.toArray⟩ (some (p + 1)) none).length ≤ 1000 := by
            omega
          walk_at "go"
          refine k _ H5 (by walk_at "ed") hB5 ?_ ?_
          · have : (cutS ⟨cs.toArray⟩ none (some p) ++ (⟨#[ch']⟩ : Str) ++ cutS ⟨cs.toArray⟩ (some (p + 1)) none).length = (cutS ⟨cs.toArray⟩ none (some p) ++ (⟨#[ch']⟩ : Str)).length + (cutS ⟨cs.toArray⟩ (some (p + 1)) none).length := by
              show (_ ++ _ : Array Nat).size = _
              rw [Array.size_append]; rfl
            omega
          · intro x hx
            have hx : x ∈ ((cutS ⟨cs.toArray⟩ none (some p)).cps ++ #[ch'] ++ (cutS ⟨cs.toArray⟩ (some (p + 1)) none).cps).toList := hx
            rw [Array.toList_append, Array.toList_append] at hx
            rcases List.mem_append.mp hx with hx | hx
            · rcases List.mem_append.mp hx with hx | hx
              · exact ch x (cutS_mem hx)
              · rw [List.mem_singleton.mp hx]; exact hch
            · exact ch x (cutS_mem hx)
        · walk_at "go"
          exact k _ H3 (Vc.Ed.one' e3 e2' (.inl (List.mem_singleton.mpr rfl))) hB3 l20 ch
      · walk_at "go"
        exact k _ H2 e2' hB2 l20 ch
end

end My
namespace My
open PySem PySem.Spec PyProof.Rows L2
/-! ### names drawn into a dict; the law -/
def putI (items : List (FD × Addr)) (f : FD) (a : Addr) : List (FD × Addr) :=
  if (items.any fun p => decide (p.1.byte = f.byte)) = true then items.map (fun p => if p.1.byte = f.byte then (f, a) else p) else items ++ [(f, a)]
theorem putK_items (g : FD × Addr → V) (items : List (FD × Addr)) (f : FD) (a : Addr) : putK (items.map fun p => ((.inl p.1.byte : Key), g p)) (.inl f.byte) (g (f, a)) = (putI items f a).map fun p => ((.inl p.1.byte : Key), g p) := by
  unfold putK putI
  have e : ((items.map fun p => ((.inl p.1.byte : Key), g p)).any fun kv => decide (kv.1 = .inl f.byte)) = items.any fun p => decide (p.1.byte = f.byte) := by
    rw [List.any_map]
    congr 1
    funext p
    show decide ((Sum.inl p.1.byte : Key) = .inl f.byte) = decide (p.1.byte = f.byte)
    rw [Bool.eq_iff_iff]; simp
  rw [e]
  split
  · rw [List.map_map, List.map_map]
    refine List.map_congr_left fun p _ => ?_
    show (if (Sum.inl p.1.byte : Key) = .inl f.byte then ((Sum.inl p.1.byte : Key), g (f, a)) else (.inl p.1.byte, g p)) = _
    show _ = (fun p : FD × Addr => ((Sum.inl p.1.byte : Key), g p)) (if p.1.byte = f.byte then (f, a) else p)
    by_cases h : p.1.byte = f.byte
    · rw [if_pos (congrArg Sum.inl h), if_pos h, h]
    · rw [if_neg (fun z => h (Sum.inl.inj z)), if_neg h]
  · rw [List.map_append]; rfl
theorem nmK_put (items : List (FD × Addr)) (f : FD) (a : Addr) : putK (nmK items) (.inl f.byte) (.str f.name) = nmK (putI items f a) := putK_items (fun p => .str p.1.name) items f a
theorem kvsOf_puti (items : List (FD × Addr)) (f : FD) (a : Addr) : putK (kvsOf items) (.inl f.byte) (.ref a) = kvsOf (putI items f a) := putK_items (fun p => .ref p.2) items f a
theorem putI_bytes (items : List (FD × Addr)) (f : FD) (a : Addr) : (((putI items f a).map (·.1)).map (·.byte)) = if (items.any fun p => decide (p.1.byte = f.byte)) = true then (items.map (·.1)).map (·.byte) else (items.map (·.1)).map (·.byte) ++ [f.byte] := by
  unfold putI
  split
  · rw [List.map_map, List.map_map, List.map_map]
    refine List.map_congr_left fun p _ => ?_
    show (if p.1.byte = f.byte then (f, a) else p).1.byte = p.1.byte
    by_cases h : p.1.byte = f.byte
    · rw [if_pos h, h]
    · rw [if_neg h]
  · simp
theorem putI_nd {items : List (FD × Addr)} {f : FD} {a : Addr} (h : ((items.map (·.1)).map (·.byte)).Nodup) : (((putI items f a).map (·.1)).map (·.byte)).Nodup := by
  rw [putI_bytes]
  split
  · exact h
  · rename_i g
    rw [List.nodup_append]
    refine ⟨h, by simp, fun x hx y hy e => g ?_⟩
    rw [List.mem_singleton.mp hy] at e
    obtain ⟨q, hq, rfl⟩ := List.mem_map.mp hx
    obtain ⟨p, hp, rfl⟩ := List.mem_map.mp hq
    exact List.any_eq_true.mpr ⟨p, hp, decide_eq_true e⟩
theorem putI_mem {items : List (FD × Addr)} {f : FD} {a : Addr} {p : FD × Addr} (h : p ∈ putI items f a) : p ∈ items ∨ p = (f, a) := by
  unfold putI at h
  split at h
  · obtain ⟨q, hq, e⟩ := List.mem_map.mp h
    split at e
    · exact .inr e.symm
    · rw [← e]; exact .inl hq
  · rcases List.mem_append.mp h with h | h
    · exact .inl h
    · exact .inr (List.mem_singleton.mp h)
theorem putI_len {items : List (FD × Addr)} {f : FD} {a : Addr} : (putI items f a).length ≤ items.length + 1 := by
  unfold putI
  split
  · rw [List.length_map]; omega
  · rw [List.length_append]; simp
theorem putI_new {items : List (FD × Addr)} {f : FD} {a : Addr} (h : ∀ p ∈ items, p.1.byte ≠ f.byte) : putI items f a = items ++ [(f, a)] := by
  unfold putI
  rw [if_neg]
  intro z
  obtain ⟨p, hp, e⟩ := List.any_eq_true.mp z
  exact h p hp (of_decide_eq_true e)
theorem putI_ok {P : FD × Addr → Prop} {items : List (FD × Addr)} {f : FD} {a : Addr} (h : ∀ p ∈ items, P p) (hf : P (f, a)) : ∀ p ∈ putI items f a, P p := by
  intro p hp
  rcases putI_mem hp with h' | h'
  · exact h p h'
  · rw [h']; exact hf
/-- first byte and name -/
def bn (p : FD × Addr) : Int × Str := (p.1.byte, p.1.name)
theorem nmK_bn {is js : List (FD × Addr)} (h : is.map bn = js.map bn) : nmK is = nmK js := by
  have a : ∀ l : List (FD × Addr), nmK l = (l.map bn).map fun q => ((Sum.inl q.1 : Key), V.str q.2) := fun l => by unfold nmK; rw [List.map_map]; rfl
  rw [a, a, h]
theorem byt_bn {is js : List (FD × Addr)} (h : is.map bn = js.map bn) : (is.map (·.1)).map (·.byte) = (js.map (·.1)).map (·.byte) := by
  have a : ∀ l : List (FD × Addr), (l.map (·.1)).map (·.byte) = (l.map bn).map (·.1) := fun l => by rw [List.map_map, List.map_map]; rfl
  rw [a, a, h]
theorem nmK_key {items : List (FD × Addr)} {x : Int} (h : (valV (nmK items) (.inl x)).isSome = true) : ∃ p ∈ items, p.1.byte = x := by
  unfold valV at h
  rw [Option.isSome_map] at h
  obtain ⟨kv, e⟩ := Option.isSome_iff_exists.mp h
  have h1 := List.mem_of_find?_eq_some e
  have h2 := List.find?_some e
  have h2 : kv.1 = Sum.inl x := of_decide_eq_true h2
  obtain ⟨p, hp, rfl⟩ := List.mem_map.mp h1
  exact ⟨p, hp, Sum.inl.inj h2⟩
theorem nmK_none {items : List (FD × Addr)} {x : Int} (h : valV (nmK items) (.inl x) = none) : ∀ p ∈ items, p.1.byte ≠ x := by
  intro p hp e
  unfold valV at h
  rw [Option.map_eq_none_iff, List.find?_eq_none] at h
  exact h (.inl p.1.byte, .str p.1.name) (List.mem_map.mpr ⟨p, hp, rfl⟩) (decide_eq_true (congrArg Sum.inl e))
theorem nmK_keys (items : List (FD × Addr)) : ((nmK items).map fun kv => kV kv.1) = ((items.map (·.1)).map (·.byte)).map V.int := by
  unfold nmK
  rw [List.map_map, List.map_map, List.map_map]; rfl
theorem kvsOf_inl (items : List (FD × Addr)) : (kvsOf items).map (·.1) = ((items.map (·.1)).map (·.byte)).map Sum.inl := by
  unfold kvsOf
  rw [List.map_map, List.map_map, List.map_map]; rfl
theorem nmK_inl (items : List (FD × Addr)) : (nmK items).map (·.1) = ((items.map (·.1)).map (·.byte)).map Sum.inl := by
  unfold nmK
  rw [List.map_map, List.map_map, List.map_map]; rfl
theorem nok_rep {k n : Nat} (hk : k < 26) (h1 : 1 ≤ n) (h8 : n ≤ 8) : NameOk ⟨(List.replicate n (LET.getD k 0)).toArray⟩ := by
  have e : (⟨(List.replicate n (LET.getD k 0)).toArray⟩ : Str).length = n := by show (Array.size _) = _; simp
  refine ⟨by rw [e]; exact h1, by rw [e]; exact h8, fun c hc => ?_⟩
  have hc : c ∈ List.replicate n (LET.getD k 0) := by simpa using hc
  rw [List.eq_of_mem_replicate hc]; exact let_mem hk
theorem nok_x : NameOk "x" := by decide +kernel
theorem nok_y : NameOk "y" := by decide +kernel
theorem Bag.keep {H H' : Hp} {b c d : Addr} (h : Bag H b c) (k : ∀ a o, a ≠ d → H a = some o → H' a = some o) (nb : b ≠ d) (nc : c ≠ d) : Bag H' b c := by
  obtain ⟨ns, a, r, s, B⟩ := h
  exact ⟨ns, a, r, s, k _ _ nb B.ob, k _ _ nc B.cl, B.len, B.a0, B.a1, B.r0, B.s0, B.s1⟩
def spNames : Sp := fun vs H Q _ => ∃ (b c : Addr) (stop : Int), vs = [.ref b, .int stop] ∧ Bag H b c ∧
  ∀ d items H', Vc.Ed [b] H H' → Bag H' b c → H d = none → H' d = some (.dK (nmK items)) → ((items.map (·.1)).map (·.byte)).Nodup → items.length ≤ 20 → (∀ p ∈ items, NameOk p.1.name) → Q (.ref d) H'
section
variable {w : World} {K : PySem.W.Frag} {mg : Str → Option Value} {base : Heap} {A : Ad}
theorem ok__law_names (T : Txt K mg A) : FnOk PG w K mg base CX0 2 A.f__law_names A.d__law_names ["_law_bag_here", "_law_stop"] spNames := by
  have G__law_draw := ok__law_draw (P := PG) (w := w) (base := base) T
  refine T.F__law_names.ok sc__law_names (fun vs H Q E h => ?_) (fun cdv Ar outer s H vs Q E hr h => ?_)
  · obtain ⟨b, c, stop, rfl, _⟩ := h
    rfl
  · obtain ⟨b, c, stop, rfl, hB, k⟩ := h
    have hu := hu_of hr
    refine ⟨_, (pss_cons (ps_set (i := 2) sc__law_names.nd rfl (Or.inl rfl) pe_str) (pss_cons (ps_set (i := 3) sc__law_names.nd rfl (Or.inl rfl) pe_dnewK) (pss_cons (ps_for PassesOwn.never rfl (pi_range1 (by rfl) T.n_range (pa_cons (pe_call G__law_draw (by exact hr.mono (by decide)) (by rfl) T.g__law_draw T.F__law_draw.kp T.b__law_draw .nil pass0 (pa_cons (pv 0) (pa_cons pe_int pa_nil))) pa_nil)) (pg_name (i := 4) sc__law_names.nd rfl (Or.inl rfl)) (pss_cons (ps_set (i := 5) sc__law_names.nd rfl (Or.inl rfl) (pe_call G__law_draw (by exact hr.mono (by decide)) (by rfl) T.g__law_draw T.F__law_draw.kp T.b__law_draw .nil pass0 (pa_cons (pv 0) (pa_cons pe_int pa_nil)))) (pss_cons (ps_while PassesOwn.never (PW.pt (pw_or (pt_cmpR op_eq (pv 5) (pv 1) (nomark _)) (pw_or1 (pt_cmp (pc_din (by exact hu) (pv 5) (pv 3)))))) (pss_one (ps_set (i := 5) sc__law_names.nd rfl (Or.inl rfl) (pe_op op_mod (pe_op op_add (pv 5) pe_int) pe_int)))) (pss_one (ps_dput (by exact hu) (pv 3) (pv 5) (pe_op Vc.op_mulSign (pe_ix ix_str (pv 2) (pv 4) (fun _ _ => rfl)) (pe_op op_add pe_int (pe_call G__law_draw (by exact hr.mono (by decide)) (by rfl) T.g__law_draw T.F__law_draw.kp T.b__law_draw .nil pass0 (pa_cons (pv 0) (pa_cons pe_int pa_nil))))) rfl))))) (pss_cons (ps_set (i := 6) sc__law_names.nd rfl (Or.inl rfl) (pe_callTy (call_list_dK rfl) (by rfl) T.n_list (by decide +kernel) (pa_cons (pv 3) pa_nil))) (pss_cons (ps_set (i := 7) sc__law_names.nd rfl (Or.inl rfl) (pe_call G__law_draw (by exact hr.mono (by decide)) (by rfl) T.g__law_draw T.F__law_draw.kp T.b__law_draw .nil pass0 (pa_cons (pv 0) (pa_cons pe_int pa_nil)))) (pss_cons (ps_if (pt_cmpR op_eq (pv 7) pe_int (nomark _)) (pss_one (ps_dput (by exact hu) (pv 3) (pe_op op_sub (pe_un un_neg pe_int) (pe_call G__law_draw (by exact hr.mono (by decide)) (by rfl) T.g__law_draw T.F__law_draw.kp T.b__law_draw .nil pass0 (pa_cons (pv 0) (pa_cons pe_int pa_nil)))) pe_str rfl)) pss_nil) (pss_cons (ps_if (pt_cmpR op_eq (pv 7) pe_int (nomark _)) (pss_one (ps_dput (by exact hu) (pv 3) (pe_op op_add pe_int (pe_call G__law_draw (by exact hr.mono (by decide)) (by rfl) T.g__law_draw T.F__law_draw.kp T.b__law_draw .nil pass0 (pa_cons (pv 0) (pa_cons (pe_op op_pow pe_int pe_int) pa_nil)))) pe_str rfl)) pss_nil) (pss_cons (ps_if (pt_cmpR op_eq (pv 7) pe_int (nomark _)) (pss_one (ps_dput (by exact hu) (pv 3) (pv 1) pe_str rfl)) pss_nil) (pss_cons (ps_if (PW.pt (pw_and (pt_cmpR op_eq (pv 7) pe_int (nomark _)) (pw_and1 (pt_cmpR op_gt (pe_callB call_len_seq (by rfl) T.n_len (by decide +kernel) (pa_cons (pv 6) pa_nil)) pe_int (nomark _))))) (pss_cons (ps_set (i := 8) sc__law_names.nd rfl (Or.inl rfl) (pe_call G__law_draw (by exact hr.mono (by decide)) (by rfl) T.g__law_draw T.F__law_draw.kp T.b__law_draw .nil pass0 (pa_cons (pv 0) (pa_cons (pe_op op_sub (pe_callB call_len_seq (by rfl) T.n_len (by decide +kernel) (pa_cons (pv 6) pa_nil)) pe_int) pa_nil)))) (pss_one (ps_dput (by exact hu) (pv 3) (pe_ix ix_list (pv 6) (pe_op op_add (pv 8) pe_int) (fun _ _ => rfl)) (pe_dget (by exact hu) (pv 3) (pe_ix ix_list (pv 6) (pv 8) (fun _ _ => rfl)) (fun _ _ => rfl)) rfl))) pss_nil) (pss_one (ps_ret (pv 3)))))))))))), ?_⟩
    walk_at "go"
    intro d nd
    generalize hu1 : upd _ d _ = H1
    obtain ⟨e1, hd1⟩ := Vc.alloc hu1 nd
    have nbd : d ≠ b := (hB.fb nd).1.symm
    have ncd : d ≠ c := (hB.fb nd).2.symm
    have put : ∀ {H5 H6 : Hp} {its : List (FD × Addr)} (f : FD), H5 d = some (.dK (nmK its)) → Bag H5 b c → upd H5 d (.dK (putK (nmK its) (.inl f.byte) (.str f.name))) = H6 → Vc.Ed [d] H5 H6 ∧ Bag H6 b c ∧ H6 d = some (.dK (nmK (putI its f d))) := fun f h5 hB5 hu => by
      obtain ⟨e, h6⟩ := Vc.chg hu h5
      exact ⟨e, hB5.ed1 e nbd.symm ncd.symm, by rw [← nmK_put]; exact h6⟩
    walk_at "go"
    refine ⟨b, c, 18, rfl, hB.ed0 e1, by omega, by omega, fun n H2 n0 n1 e2 hB2 => ?_⟩
    have hd2 := e2.at1 nbd hd1
    walk_at "go"
    refine ⟨by omega, by omega, for_range (lo := 0) (fun i σ H' => ∃ y4 y5 its, σ = [some (.ref b), some (.int stop), some (.str "abcdefghijklmnopqrstuvwxyz"), some (.ref d), y4, y5, none, none, none] ∧ Vc.Ed [b] H H' ∧ Bag H' b c ∧ H' d = some (.dK (nmK its)) ∧ ((its.map (·.1)).map (·.byte)).Nodup ∧ its.length = i ∧ ∀ p ∈ its, NameOk p.1.name) ⟨none, none, [], rfl, (by walk_at "ed"), hB2, hd2, List.nodup_nil, rfl, (by intro p h; cases h)⟩ ?_ ?_⟩
    · rintro i σ H3 hi ⟨y4, y5, its, rfl, e3, hB3, hd3, ndb, li, nm⟩
      have hi : i < 18 := by omega
      walk_at "go"
      refine ⟨b, c, 256, rfl, hB3, by omega, by omega, fun byte H4 b0 b1 e4 hB4 => ?_⟩
      have hd4 := e4.at1 nbd hd3
      walk_at "go"
      obtain ⟨v, v256, hv⟩ := free_nat 256 (stop :: (its.map (·.1)).map (·.byte)) (by simp; omega)
      refine ⟨fun m σ H' => ∃ byte : Int, σ = [some (.ref b), some (.int stop), some (.str "abcdefghijklmnopqrstuvwxyz"), some (.ref d), some (.int (0 + (i : Int))), some (.int byte), none, none, none] ∧ 0 ≤ byte ∧ byte < 256 ∧ H' = H4 ∧ m = (((v : Int) - byte) % 256).toNat, ⟨_, byte, rfl, b0, b1, rfl, rfl⟩, ?_⟩
      rintro m σ H' ⟨byte, rfl, b0, b1, rfl, rfl⟩
      walk_at "go"
      refine Vc.go_ite (fun h1 => ?_) (fun h1 => ?_)
      · have ne : byte ≠ v := fun z => hv (List.mem_cons.mpr (.inl (z.symm.trans h1)))
        walk_at "go"
        refine ⟨fun σ' H'' => ∃ byte' : Int, σ' = [some (.ref b), some (.int stop), some (.str "abcdefghijklmnopqrstuvwxyz"), some (.ref d), some (.int (0 + (i : Int))), some (.int byte'), none, none, none] ∧ 0 ≤ byte' ∧ byte' < 256 ∧ H'' = H' ∧ (((v : Int) - byte') % 256).toNat < (((v : Int) - byte) % 256).toNat, ?_, ?_⟩
        · rintro σ' H'' ⟨byte', e1, e2, e3, e4, e5⟩
          exact ⟨_, e5, byte', e1, e2, e3, e4, rfl⟩
        · walk_at "go"
          exact ⟨_, rfl, by omega, by omega, rfl, by omega⟩
      · walk_at "go"
        refine Vc.go_iteb (fun h2 => ?_) (fun h2 => ?_)
        · have ne : byte ≠ v := fun z => hv (List.mem_cons_of_mem _ (by
            obtain ⟨p, hp, e⟩ := nmK_key h2
            exact List.mem_map.mpr ⟨p.1, List.mem_map.mpr ⟨p, hp, rfl⟩, e.trans z⟩))
          walk_at "go"
          refine ⟨fun σ' H'' => ∃ byte' : Int, σ' = [some (.ref b), some (.int stop), some (.str "abcdefghijklmnopqrstuvwxyz"), some (.ref d), some (.int (0 + (i : Int))), some (.int byte'), none, none, none] ∧ 0 ≤ byte' ∧ byte' < 256 ∧ H'' = H' ∧ (((v : Int) - byte') % 256).toNat < (((v : Int) - byte) % 256).toNat, ?_, ?_⟩
          · rintro σ' H'' ⟨byte', e1, e2, e3, e4, e5⟩
            exact ⟨_, e5, byte', e1, e2, e3, e4, rfl⟩
          · walk_at "go"
            exact ⟨_, rfl, by omega, by omega, rfl, by omega⟩
        · have hn : valV (nmK its) (.inl byte) = none := Option.not_isSome_iff_eq_none.mp (by rw [h2]; decide)
          have ha : atI ("abcdefghijklmnopqrstuvwxyz" : Str).cps.toList (0 + (i : Int)) = some (LET.getD i 0) := by
            have := let_at (i := 0 + (i : Int)) (by omega) (by omega)
            rwa [show (0 + (i : Int)).toNat = i by omega] at this
          walk_at "go"
          refine ⟨b, c, 8, rfl, hB4, by omega, by omega, fun r H5 r0 r1 e5 hB5 => ?_⟩
          have hd5 := e5.at1 nbd hd4
          have kl : (nmK its).length ≤ 1000 := by rw [nmK_len]; omega
          walk_at "go"
          refine ⟨_, _, rfl, rfl, by omega, by omega, ?_⟩
          walk_at "go"
          generalize hu6 : upd _ d _ = H6
          obtain ⟨e6, hB6, hd6⟩ := put ⟨byte, ⟨(List.replicate (1 + r).toNat (LET.getD i 0)).toArray⟩, 0, ""⟩ hd5 hB5 hu6
          refine ⟨_, _, _, rfl, by walk_at "ed", hB6, hd6, putI_nd ndb, ?_, putI_ok nm (nok_rep (by omega) (by omega) (by omega))⟩
          rw [putI_new (nmK_none hn), List.length_append, li]; rfl
    · rintro σ H3 ⟨y4, y5, its, rfl, e3, hB3, hd3, ndb, li, nm⟩
      walk_at "go"
      intro L nL
      generalize hu4 : upd _ L _ = H4
      obtain ⟨e4, hL4⟩ := Vc.alloc hu4 nL
      rw [nmK_keys] at hL4
      have hd4 := e4.at0 hd3
      walk_at "go"
      refine ⟨b, c, 6, rfl, hB3.ed0 e4, by omega, by omega, fun kd H5 k0 k1 e5 hB5 => ?_⟩
      have hd5 := e5.at1 nbd hd4
      have hL5 := e5.at1 (hB3.fb nL).1.symm hL4
      have kl : (nmK its).length ≤ 1000 := by rw [nmK_len]; omega
      have e05 : Vc.Ed [b] H H5 := by walk_at "ed"
      have cs : kd = 0 ∨ kd = 1 ∨ kd = 2 ∨ kd = 3 ∨ kd = 4 ∨ kd = 5 := by omega
      rcases cs with rfl | rfl | rfl | rfl | rfl | rfl
      · walk_at "goo"
        exact k d its H5 e05 hB5 nd hd5 ndb (by omega) nm
      · walk_at "goo"
        refine ⟨b, c, 300, rfl, hB5, by omega, by omega, fun r H6 r0 r1 e6 hB6 => ?_⟩
        have hd6 := e6.at1 nbd hd5
        walk_at "goo"
        generalize hu7 : upd _ d _ = H7
        obtain ⟨e7, hB7, hd7⟩ := put ⟨-1 - r, "x", 0, ""⟩ hd6 hB6 hu7
        walk_at "goo"
        exact k d _ H7 (by walk_at "ed") hB7 nd hd7 (putI_nd ndb) (Nat.le_trans putI_len (by omega)) (putI_ok nm nok_x)
      · walk_at "goo"
        refine ⟨b, c, _, rfl, hB5, by decide, by decide, fun r H6 r0 r1 e6 hB6 => ?_⟩
        have hd6 := e6.at1 nbd hd5
        walk_at "goo"
        generalize hu7 : upd _ d _ = H7
        obtain ⟨e7, hB7, hd7⟩ := put ⟨256 + r, "x", 0, ""⟩ hd6 hB6 hu7
        walk_at "goo"
        exact k d _ H7 (by walk_at "ed") hB7 nd hd7 (putI_nd ndb) (Nat.le_trans putI_len (by omega)) (putI_ok nm nok_x)
      · walk_at "goo"
        generalize hu7 : upd _ d _ = H7
        obtain ⟨e7, hB7, hd7⟩ := put ⟨stop, "x", 0, ""⟩ hd5 hB5 hu7
        walk_at "goo"
        exact k d _ H7 (by walk_at "ed") hB7 nd hd7 (putI_nd ndb) (Nat.le_trans putI_len (by omega)) (putI_ok nm nok_x)
      · walk_at "goo"
        rw [List.length_map, List.length_map, List.length_map]
        refine Vc.go_ite (fun h1 => ?_) (fun h1 => ?_)
        · walk_at "goo"
          rw [List.length_map, List.length_map, List.length_map]
          refine ⟨b, c, _, rfl, hB5, by omega, by omega, fun r H6 r0 r1 e6 hB6 => ?_⟩
          have hd6 := e6.at1 nbd hd5
          have nLb : L ≠ b := (hB3.fb nL).1.symm
          have hL6 := e6.at1 nLb hL5
          obtain ⟨r, rfl⟩ : ∃ r' : Nat, r = (r' : Int) := ⟨r.toNat, by omega⟩
          have lr : r + 1 < its.length := by omega
          have a1 : atI (((its.map (·.1)).map (·.byte)).map V.int) (r : Int) = some (.int (its[r]'(by omega)).1.byte) := atI_nat (by simp [show r < its.length by omega])
          have a2 : atI (((its.map (·.1)).map (·.byte)).map V.int) ((r : Int) + 1) = some (.int (its[r + 1]'lr).1.byte) := by
            have : ((r : Int) + 1) = ((r + 1 : Nat) : Int) := by omega
            rw [this]
            exact atI_nat (by simp [lr])
          have hv := nmK_val ndb (List.getElem_mem (show r < its.length by omega))
          walk_at "goo"
          generalize hu7 : upd _ d _ = H7
          obtain ⟨e7, hB7, hd7⟩ := put ⟨(its[r + 1]'lr).1.byte, (its[r]'(by omega)).1.name, 0, ""⟩ hd6 hB6 hu7
          walk_at "goo"
          exact k d _ H7 (by walk_at "ed") hB7 nd hd7 (putI_nd ndb) (Nat.le_trans putI_len (by omega)) (putI_ok nm (nm (its[r]'(by omega)) (List.getElem_mem _)))
        · walk_at "goo"
          exact k d its H5 e05 hB5 nd hd5 ndb (by omega) nm
      · walk_at "goo"
        exact k d its H5 e05 hB5 nd hd5 ndb (by omega) nm
end

end My
namespace My
open PySem PySem.Spec PyProof.Rows L2
/-! ### k04: the law -/
def spLaw (K : PySem.W.Frag) : Sp := fun vs H Q _ => ∃ (a : Addr) (ns : List Int), vs = [.ref a] ∧ SqL K H a (ns.map V.int) ∧ ns.length ≤ 63 ∧ ∀ H', Q (.bl true) H'
theorem ansF_at {o : Option Str} {n : Str} {l : Int} {f : Str} : (ansF o n l f).all isAt = true ∧ (ansF o n l f).length ≤ 1000 := by
  cases o <;> exact ⟨rfl, by simp [ansF, ansS]⟩
theorem ansS_at {o : Option Str} {s l : Int} : (ansS o s l).all isAt = true ∧ (ansS o s l).length ≤ 1000 := by
  cases o <;> exact ⟨rfl, by simp [ansF, ansS]⟩
theorem ansS_congr {stop : Int} {is js : List (FD × Addr)} (h : is.map bn = js.map bn) : ansS (setErr stop (is.map (·.1))) stop is.length = ansS (setErr stop (js.map (·.1))) stop js.length := by
  have l : is.length = js.length := by have := congrArg List.length h; rwa [List.length_map, List.length_map] at this
  have nm : ∀ l : List (FD × Addr), (l.map (·.1)).map (·.name) = (l.map bn).map (·.2) := fun l => by rw [List.map_map, List.map_map]; rfl
  have ok : FormsOk stop (is.map (·.1)) ↔ FormsOk stop (js.map (·.1)) := by
    have one : ∀ {us vs : List (FD × Addr)}, us.map bn = vs.map bn → us.length = vs.length → FormsOk stop (us.map (·.1)) → FormsOk stop (vs.map (·.1)) := fun {us vs} e l h => by
      refine ⟨by have := h.n1; rw [List.length_map] at this ⊢; omega, by have := h.n16; rw [List.length_map] at this ⊢; omega, by have := h.ndn; rw [nm] at this ⊢; rw [← e]; exact this, fun f hf => ?_⟩
      obtain ⟨p, hp, rfl⟩ := List.mem_map.mp hf
      have : bn p ∈ us.map bn := by rw [e]; exact List.mem_map.mpr ⟨p, hp, rfl⟩
      obtain ⟨q, hq, eq⟩ := List.mem_map.mp this
      have eb : q.1.byte = p.1.byte := congrArg Prod.fst eq
      have := h.byt q.1 (List.mem_map.mpr ⟨q, hq, rfl⟩)
      rw [eb] at this; exact this
    exact ⟨one h l, one h.symm l.symm⟩
  have e : setErr stop (is.map (·.1)) = setErr stop (js.map (·.1)) := by
    unfold setErr
    by_cases hs : ¬ (0 ≤ stop ∧ stop ≤ 255)
    · rw [if_pos hs, if_pos hs]
    · rw [if_neg hs, if_neg hs]
      by_cases ho : FormsOk stop (is.map (·.1))
      · rw [if_neg (fun z => z ho), if_neg (fun z => z (ok.mp ho))]
      · rw [if_pos ho, if_pos (fun z => ho (ok.mpr z))]
  rw [e, l]
theorem form_fine {n : Str} {l : Int} {f : Str} (h : NameOk n) (l1 : 1 ≤ l) (l4 : l ≤ 4) (hf : f = "next" ∨ f = "end") : formErr n l f = none := by
  unfold formErr
  rw [if_neg (fun z => z h), if_neg, if_neg]
  · intro z; rcases hf with e | e
    · exact z (.inl e)
    · exact z (.inr (.inr (.inr e)))
  · have : ¬ (f = "jump" ∨ f = "test") := by
      rintro (e | e) <;> rcases hf with g | g <;> rw [g] at e <;> exact absurd e (by decide +kernel)
    rw [if_neg this]; omega
theorem MadeAt.puts {A : Ad} {H H' : Hp} {d : Addr} {items : List (FD × Addr)} {f : FD} {a : Addr} (h : MadeAt A H d items) (hf : FormAt A H a f) (hu : upd H d (.dK (putK (kvsOf items) (.inl f.byte) (.ref a))) = H') : Vc.Ed [d] H H' ∧ MadeAt A H' d (putI items f a) := by
  obtain ⟨e, hd⟩ := Vc.chg hu h.ob
  refine ⟨e, by rw [← kvsOf_puti]; exact hd, ?_⟩
  exact putI_ok (P := fun p => FormAt A H' p.2 p.1) (fun p hp => (h.fm p hp).ed1 e h.ob fun _ _ _ z => nomatch z) (hf.ed1 e h.ob fun _ _ _ z => nomatch z)
theorem MadeAt.ed {A : Ad} {H H' : Hp} {d : Addr} {items : List (FD × Addr)} {S : List Addr} (h : MadeAt A H d items) (e : Vc.Ed S H H') (n : d ∉ S) (m : ∀ p ∈ items, p.2 ∉ S) : MadeAt A H' d items :=
  ⟨e.keep _ _ n h.ob, fun p hp => (h.fm p hp).ed e (m p hp)⟩
theorem MadeAt.ed0 {A : Ad} {H H' : Hp} {d : Addr} {items : List (FD × Addr)} (e : Vc.Ed [] H H') (h : MadeAt A H d items) : MadeAt A H' d items := h.ed e (fun z => nomatch z) (fun _ _ z => nomatch z)
theorem MadeAt.ed1 {A : Ad} {H H' : Hp} {d q : Addr} {items : List (FD × Addr)} (h : MadeAt A H d items) (e : Vc.Ed [q] H H') {o : HO} (hq : H q = some o) (k : ∀ C dx fs, o ≠ .ins C dx fs) (n : d ≠ q) : MadeAt A H' d items :=
  ⟨e.at1 n h.ob, fun p hp => (h.fm p hp).ed1 e hq k⟩
theorem Bag.dk {H : Hp} {b c : Addr} (h : Bag H b c) : ∃ kvs, H b = some (.dK kvs) := by
  obtain ⟨ns, a, r, s, B⟩ := h
  exact ⟨_, B.ob⟩
theorem sorted_eq {xs ys zs : List Int} (h1 : xs.Perm zs) (h2 : ys.Perm zs) (s1 : xs.Pairwise (· ≤ ·)) (s2 : ys.Pairwise (· ≤ ·)) : xs = ys :=
  List.Perm.eq_of_pairwise (fun _ _ _ _ a b => Int.le_antisymm a b) s1 s2 (h1.trans h2.symm)
theorem ch_ab : Chars "ab" := by unfold Chars; decide +kernel
theorem le_ab : ("ab" : Str).length ≤ 1000 := by decide +kernel
section
variable {w : World} {K : PySem.W.Frag} {mg : Str → Option Value} {base : Heap} {A : Ad}
theorem ok_law (T : Txt K mg A) : FnOk PG w K mg base CX0 8 A.f_law A.d_law ["_law_script"] (spLaw K) := by
  have G__law_bag := ok__law_bag (P := PG) (w := w) (base := base) T
  have G__law_draw := ok__law_draw (P := PG) (w := w) (base := base) T
  have G__law_same := ok__law_same (P := PG) (w := w) (base := base) T 2
  have G__law_name := ok__law_name (w := w) (base := base) T
  have G__law_form := ok__law_form (w := w) (base := base) T
  have G__law_form_due := ok__law_form_due (w := w) (base := base) T
  have G__law_set := ok__law_set (w := w) (base := base) T
  have G__law_set_due := ok__law_set_due (w := w) (base := base) T
  have G__law_names := ok__law_names (w := w) (base := base) T
  have G_Formu_initu := ok_Formu_initu (w := w) (base := base) T
  refine T.F_law.ok sc_law (fun vs H Q E h => ?_) (fun cdv Ar outer s H vs Q E hr h => ?_)
  · obtain ⟨a, ns, rfl, _⟩ := h
    rfl
  · obtain ⟨a, ns, rfl, hS, hl, k⟩ := h
    have hu := hu_of hr
    refine ⟨_, (pss_cons (ps_set (i := 1) sc_law.nd rfl (Or.inl rfl) (pe_call G__law_bag (by exact hr.mono (by decide)) (by rfl) T.g__law_bag T.F__law_bag.kp T.b__law_bag .nil pass0 (pa_cons (pv 0) pa_nil))) (pss_cons (ps_for PassesOwn.never rfl (pi_range1 (by rfl) T.n_range (pa_cons pe_int pa_nil)) (pg_name (i := 2) sc_law.nd rfl (Or.inl rfl)) (pss_cons (ps_set (i := 3) sc_law.nd rfl (Or.inl rfl) (pe_call G__law_name (by exact hr.mono (by decide)) (by rfl) T.g__law_name T.F__law_name.kp T.b__law_name .nil pass0 (pa_cons (pv 1) pa_nil))) (pss_cons (ps_set (i := 4) sc_law.nd rfl (Or.inl rfl) (pe_op op_sub (pe_call G__law_draw (by exact hr.mono (by decide)) (by rfl) T.g__law_draw T.F__law_draw.kp T.b__law_draw .nil pass0 (pa_cons (pv 1) (pa_cons pe_int pa_nil))) pe_int)) (Evl.pss_cut (ps_if (pt_cmpR op_eq (pe_call G__law_draw (by exact hr.mono (by decide)) (by rfl) T.g__law_draw T.F__law_draw.kp T.b__law_draw .nil pass0 (pa_cons (pv 1) (pa_cons pe_int pa_nil))) pe_int (nomark _)) (pss_one (ps_set (i := 4) sc_law.nd rfl (Or.inl rfl) (pe_op op_add pe_int (pe_call G__law_draw (by exact hr.mono (by decide)) (by rfl) T.g__law_draw T.F__law_draw.kp T.b__law_draw .nil pass0 (pa_cons (pv 1) (pa_cons (pe_op op_pow pe_int pe_int) pa_nil)))))) pss_nil) (pss_cons (ps_set (i := 5) sc_law.nd rfl (Or.inl rfl) (pe_ix ix_list (pe_lst (pa_cons pe_str (pa_cons pe_str (pa_cons pe_str (pa_cons pe_str (pa_cons pe_str (pa_cons pe_str (pa_cons pe_str (pa_cons pe_str pa_nil))))))))) (pe_call G__law_draw (by exact hr.mono (by decide)) (by rfl) T.g__law_draw T.F__law_draw.kp T.b__law_draw .nil pass0 (pa_cons (pv 1) (pa_cons pe_int pa_nil))) (fun _ _ => rfl))) (pss_cons (ps_if (pt_not (pt_val (pe_call G__law_same (by exact hr.mono (by decide)) (by rfl) T.g__law_same T.F__law_same.kp T.b__law_same .nil pass0 (pa_cons (pe_call G__law_form (by exact hr.mono (by decide)) (by rfl) T.g__law_form T.F__law_form.kp T.b__law_form .nil pass0 (pa_cons (pv 3) (pa_cons (pv 4) (pa_cons (pv 5) pa_nil)))) (pa_cons (pe_call G__law_form_due (by exact hr.mono (by decide)) (by rfl) T.g__law_form_due T.F__law_form_due.kp T.b__law_form_due .nil pass0 (pa_cons (pv 3) (pa_cons (pv 4) (pa_cons (pv 5) pa_nil)))) pa_nil))))) (pss_one (ps_ret pe_bl)) pss_nil) (pss_one (ps_if (pt_not (pt_val (pe_call G__law_same (by exact hr.mono (by decide)) (by rfl) T.g__law_same T.F__law_same.kp T.b__law_same .nil pass0 (pa_cons (pe_call G__law_form (by exact hr.mono (by decide)) (by rfl) T.g__law_form T.F__law_form.kp T.b__law_form .nil pass0 (pa_cons pe_str (pa_cons pe_int (pa_cons (pv 5) pa_nil)))) (pa_cons (pe_call G__law_form_due (by exact hr.mono (by decide)) (by rfl) T.g__law_form_due T.F__law_form_due.kp T.b__law_form_due .nil pass0 (pa_cons pe_str (pa_cons pe_int (pa_cons (pv 5) pa_nil)))) pa_nil))))) (pss_one (ps_ret pe_bl)) pss_nil)))))))) (pss_cons (ps_if (pt_not (pt_val (pe_call G__law_same (by exact hr.mono (by decide)) (by rfl) T.g__law_same T.F__law_same.kp T.b__law_same .nil pass0 (pa_cons (ClX.pe_cval (pe_glob (v := .ref A.C_Form) (by rfl) T.g_Form rfl)) (pa_cons (pe_tup (pa_cons pe_str (pa_cons pe_str (pa_cons pe_str (pa_cons pe_str pa_nil))))) pa_nil))))) (pss_one (ps_ret pe_bl)) pss_nil) (pss_cons (ps_set (i := 6) sc_law.nd rfl (Or.inl rfl) (pe_op op_sub (pe_call G__law_draw (by exact hr.mono (by decide)) (by rfl) T.g__law_draw T.F__law_draw.kp T.b__law_draw .nil pass0 (pa_cons (pv 1) (pa_cons pe_int pa_nil))) pe_int)) (pss_cons (ps_set (i := 7) sc_law.nd rfl (Or.inl rfl) (pe_call G__law_names (by exact hr.mono (by decide)) (by rfl) T.g__law_names T.F__law_names.kp T.b__law_names .nil pass0 (pa_cons (pv 1) (pa_cons (pv 6) pa_nil)))) (pss_cons (ps_set (i := 8) sc_law.nd rfl (Or.inl rfl) pe_dnewK) (pss_cons (ps_lock (ps_for PassesOwn.never rfl (pi_keys (pv 7)) (pg_name (i := 9) sc_law.nd rfl (Or.inl rfl)) (pss_one (ps_dput (by exact hu) (pv 8) (pv 9) (pe_make T.mk_Form G_Formu_initu (by exact hr.mono (by decide)) (by rfl) T.g_Form T.b_Formu_initu .nil passL (pa_cons (pe_dget (by exact hu) (pv 7) (pv 9) (fun _ _ => rfl)) (pa_cons (pe_op op_add pe_int (pe_call G__law_draw (by exact hr.mono (by decide)) (by rfl) T.g__law_draw T.F__law_draw.kp T.b__law_draw .nil pass0 (pa_cons (pv 1) (pa_cons pe_int pa_nil)))) (pa_cons (pe_ix ix_list (pe_lst (pa_cons pe_str (pa_cons pe_str pa_nil))) (pe_call G__law_draw (by exact hr.mono (by decide)) (by rfl) T.g__law_draw T.F__law_draw.kp T.b__law_draw .nil pass0 (pa_cons (pv 1) (pa_cons pe_int pa_nil))) (fun _ _ => rfl)) pa_nil)))) rfl)))) (pss_cons (ps_if (PW.pt (pw_or (pt_not (pt_val (pe_call G__law_same (by exact hr.mono (by decide)) (by rfl) T.g__law_same T.F__law_same.kp T.b__law_same .nil pass0 (pa_cons (pe_call G__law_set (by exact hr.mono (by decide)) (by rfl) T.g__law_set T.F__law_set.kp T.b__law_set .nil pass0 (pa_cons (pv 6) (pa_cons (pv 8) pa_nil))) (pa_cons (pe_call G__law_set_due (by exact hr.mono (by decide)) (by rfl) T.g__law_set_due T.F__law_set_due.kp T.b__law_set_due .nil pass0 (pa_cons (pv 6) (pa_cons (pv 7) pa_nil))) pa_nil))))) (pw_or1 (pt_cmpR (op_neD (by exact hr.units)) (pe_callB (call_sortedDI rfl) (by rfl) T.n_sorted (by decide +kernel) (pa_cons (pv 8) pa_nil)) (pe_callB (call_sortedDI rfl) (by rfl) T.n_sorted (by decide +kernel) (pa_cons (pv 7) pa_nil)) (nomark _))))) (pss_one (ps_ret pe_bl)) pss_nil) (pss_cons (ps_if (pt_not (pt_val (pe_call G__law_same (by exact hr.mono (by decide)) (by rfl) T.g__law_same T.F__law_same.kp T.b__law_same .nil pass0 (pa_cons (pe_call G__law_set (by exact hr.mono (by decide)) (by rfl) T.g__law_set T.F__law_set.kp T.b__law_set .nil pass0 (pa_cons (pv 6) (pa_cons (pv 8) pa_nil))) (pa_cons (pe_call G__law_set_due (by exact hr.mono (by decide)) (by rfl) T.g__law_set_due T.F__law_set_due.kp T.b__law_set_due .nil pass0 (pa_cons (pv 6) (pa_cons (pv 7) pa_nil))) pa_nil))))) (pss_one (ps_ret pe_bl)) pss_nil) (pss_cons (ps_dput (by exact hu) (pv 8) pe_int (pe_make T.mk_Form G_Formu_initu (by exact hr.mono (by decide)) (by rfl) T.g_Form T.b_Formu_initu .nil passL (pa_cons pe_str (pa_cons pe_int (pa_cons pe_str pa_nil)))) rfl) (pss_cons (ps_dput (by exact hu) (pv 7) pe_int pe_str rfl) (pss_one (ps_ret (pe_call G__law_same (by exact hr.mono (by decide)) (by rfl) T.g__law_same T.F__law_same.kp T.b__law_same .nil pass0 (pa_cons (pe_call G__law_set (by exact hr.mono (by decide)) (by rfl) T.g__law_set T.F__law_set.kp T.b__law_set .nil pass0 (pa_cons pe_int (pa_cons (pv 8) pa_nil))) (pa_cons (pe_call G__law_set_due (by exact hr.mono (by decide)) (by rfl) T.g__law_set_due T.F__law_set_due.kp T.b__law_set_due .nil pass0 (pa_cons pe_int (pa_cons (pv 7) pa_nil))) pa_nil)))))))))))))))), ?_⟩
    walk_at "go"
    refine ⟨a, ns, rfl, hS, hl, fun b c H1 e1 hB1 nb nc => ?_⟩
    walk_at "go"
    refine ⟨by omega, by omega, for_range (lo := 0) (fun i σ H' => ∃ y2 y3 y4 y5, σ = [some (.ref a), some (.ref b), y2, y3, y4, y5, none, none, none, none] ∧ Bag H' b c) ⟨none, none, none, none, rfl, hB1⟩ ?_ ?_⟩
    · rintro i σ H2 hi ⟨y2, y3, y4, y5, rfl, hB2⟩
      walk_at "go"
      refine ⟨b, c, rfl, hB2, fun z H3 e3 hB3 lz cz => ?_⟩
      walk_at "go"
      refine ⟨b, c, 8, rfl, hB3, by omega, by omega, fun l0 H4 l00 l01 e4 hB4 => ?_⟩
      walk_at "go"
      refine Evl.q_cut (M := fun σ H' => ∃ l, σ = [some (.ref a), some (.ref b), some (.int (0 + (i : Int))), some (.str z), some (.int l), y5, none, none, none, none] ∧ Bag H' b c) ?_ ?_
      · walk_at "go"
        refine ⟨b, c, 8, rfl, hB4, by omega, by omega, fun x H5 _ _ e5 hB5 => ?_⟩
        walk_at "go"
        refine Vc.go_ite (fun g => ?_) (fun g => ?_)
        · walk_at "go"
          refine ⟨b, c, _, rfl, hB5, by decide, by decide, fun x H6 _ _ e6 hB6 => ?_⟩
          walk_at "go"
          exact ⟨_, rfl, hB6⟩
        · walk_at "go"
          exact ⟨_, rfl, hB5⟩
      · rintro σ H5 ⟨l, rfl, hB5⟩
        walk_at "go"
        intro p np
        generalize hu6 : upd _ p _ = H6
        obtain ⟨e6, hp6⟩ := Vc.alloc hu6 np
        walk_at "go"
        refine ⟨b, c, 8, rfl, hB5.ed0 e6, by omega, by omega, fun fi H7 f0 f1 e7 hB7 => ?_⟩
        obtain ⟨fl, hfa⟩ : ∃ fl, atI [V.str "next", .str "jump", .str "test", .str "end", .str "Next", .str "", .str "jumps", .str "call"] fi = some (.str fl) := by
          have : fi = 0 ∨ fi = 1 ∨ fi = 2 ∨ fi = 3 ∨ fi = 4 ∨ fi = 5 ∨ fi = 6 ∨ fi = 7 := by omega
          rcases this with e | e | e | e | e | e | e | e <;> subst e <;> exact ⟨_, rfl⟩
        have hp7 := e7.at1 (hB5.fb np).1.symm hp6
        walk_at "go"
        refine ⟨z, l, fl, rfl, by omega, cz, fun q1 H8 e8 A1 => ?_⟩
        walk_at "go"
        refine ⟨z, l, fl, rfl, by omega, cz, fun q2 H9 e9 A2 => ?_⟩
        walk_at "go"
        refine ⟨_, _, _, rfl, sh_ats ansF_at.2, .tup (.inl (.inl (e9.at0 A1))) (dp_ats ansF_at.1), .tup (.inl (.inl A2)) (dp_ats ansF_at.1), fun H10 e10 => ?_⟩
        walk_at "go"
        refine ⟨"ab", 2, fl, rfl, le_ab, ch_ab, fun q3 H11 e11 A3 => ?_⟩
        walk_at "go"
        refine ⟨"ab", 2, fl, rfl, le_ab, ch_ab, fun q4 H12 e12 A4 => ?_⟩
        walk_at "go"
        refine ⟨_, _, _, rfl, sh_ats ansF_at.2, .tup (.inl (.inl (e12.at0 A3))) (dp_ats ansF_at.1), .tup (.inl (.inl A4)) (dp_ats ansF_at.1), fun H13 e13 => ?_⟩
        walk_at "go"
        exact ⟨_, _, _, _, rfl, (((((hB7.ed0 e8).ed0 e9).ed0 e10).ed0 e11).ed0 e12).ed0 e13⟩
    · rintro σ H2 ⟨y2, y3, y4, y5, rfl, hB2⟩
      have cr := T.cr_Form
      have cv := T.cv_FLOWS
      walk_at "go"
      intro t nt
      generalize hu3 : upd _ t _ = H3
      obtain ⟨e3, ht3⟩ := Vc.alloc hu3 nt
      walk_at "go"
      refine ⟨_, _, .tuple ([.str "next", .str "jump", .str "test", .str "end"].map vD), rfl, sh_ats (by show 4 ≤ 1000; decide), .tup (T.q_FLOWS _) (dp_ats rfl), .tup (.inl (.inl ht3)) (dp_ats rfl), fun H4 e4 => ?_⟩
      have hB4 := (hB2.ed0 e3).ed0 e4
      walk_at "go"
      refine ⟨b, c, 300, rfl, hB4, by omega, by omega, fun s0 H5 s00 s01 e5 hB5 => ?_⟩
      walk_at "go"
      generalize s0 - 20 = stop
      refine ⟨b, c, stop, rfl, hB5, fun d items H6 e6 hB6 nd hd6 ndb li nm => ?_⟩
      walk_at "go"
      intro f nf
      generalize hu7 : upd _ f _ = H7
      obtain ⟨e7, hf7⟩ := Vc.alloc hu7 nf
      have hd7 := e7.at0 hd6
      have hB7 := hB6.ed0 e7
      have ndf : d ≠ f := ne_of_none hd6 nf
      have nbd : b ≠ d := (hB5.fb nd).1
      have ncd : c ≠ d := (hB5.fb nd).2
      have nbf : b ≠ f := (hB6.fb nf).1
      have ncf : c ≠ f := (hB6.fb nf).2
      walk_at "go"
      refine Vc.lock_keys rfl hd7 [b, f] (fun H1 i σ H' => ∃ y9 its, σ = [some (.ref a), some (.ref b), y2, y3, y4, y5, some (.int stop), some (.ref d), some (.ref f), y9] ∧ Vc.Ed [b, f] H1 H' ∧ Bag H' b c ∧ MadeAt A H' f its ∧ its.map bn = (items.take i).map bn ∧ ∀ p ∈ its, p.2 ≠ d) (fun _ _ _ _ ⟨_, _, _, h, _⟩ => h) (fun H8 od e8 h8 => ⟨none, [], rfl, .refl, hB7.ed1 e8 nbd ncd, ⟨e8.at1 ndf.symm hf7, (by intro p h; cases h)⟩, rfl, (by intro p h; cases h)⟩) ?_ ?_
      · rintro H8 od i k' v σ' H9 e8 h8 h9 hk ⟨y9, its, rfl, e9, hB9, M9, hb, nds⟩
        obtain ⟨p, hp, rfl, rfl⟩ := nmK_get hk
        have hm := List.mem_of_getElem? hp
        have hi : i < items.length := (List.getElem?_eq_some_iff.mp hp).1
        have hv := nmK_val ndb hm
        change gName 9 (V.int p.1.byte) _ _ _
        walk_at "go"
        refine ⟨b, c, 4, rfl, hB9, by omega, by omega, fun l H10 l0 l1 e10 hB10 => ?_⟩
        walk_at "go"
        intro q nq
        generalize hu11 : upd _ q _ = H11
        obtain ⟨e11, hq11⟩ := Vc.alloc hu11 nq
        walk_at "go"
        refine ⟨b, c, 2, rfl, hB10.ed0 e11, by omega, by omega, fun fi H12 f0 f1 e12 hB12 => ?_⟩
        obtain ⟨fl, hfl, hfa⟩ : ∃ fl : Str, (fl = "next" ∨ fl = "end") ∧ atI [V.str "next", .str "end"] fi = some (.str fl) := by
          have : fi = 0 ∨ fi = 1 := by omega
          rcases this with e | e <;> subst e
          · exact ⟨"next", .inl rfl, rfl⟩
          · exact ⟨"end", .inr rfl, rfl⟩
        have hq12 := e12.at1 (hB10.fb nq).1.symm hq11
        walk_at "go"
        intro x dx nx ndx ne
        generalize hu13 : upd _ x _ = H13
        obtain ⟨e13, hx13, hdx13⟩ := Vc.allocI hu13 nx ndx ne
        have lnm := (nm p hm).2.1
        refine ⟨x, dx, ⟨p.1.byte, p.1.name, 1 + l, fl⟩, rfl, Nat.le_trans lnm (by decide), hx13, fun e he => ?_, fun _ H14 e14 hF => ⟨rfl, ?_⟩⟩
        · have := form_fine (nm p hm) (l := 1 + l) (by omega) (by omega) hfl
          rw [this] at he; cases he
        · obtain ⟨kb, hbk⟩ := hB9.dk
          have nfb : f ≠ b := nbf.symm
          have M10 := M9.ed1 e10 hbk (fun _ _ _ z => nomatch z) nfb
          obtain ⟨kb2, hbk2⟩ := (hB10.ed0 e11).dk
          have M12 := (M10.ed0 e11).ed1 e12 hbk2 (fun _ _ _ z => nomatch z) nfb
          have M13 := M12.ed0 e13
          have nfx : f ≠ x := ne_of_none M12.ob nx
          have M14 : MadeAt A H14 f its := M13.ed e14 (fun z => nfx (List.mem_singleton.mp z)) fun r hr z => by
            obtain ⟨_, hz⟩ := M12.fm r hr
            rw [List.mem_singleton.mp z, nx] at hz; cases hz
          have hB14 := (hB12.ed0 e13).ed1 e14 (hB12.fb nx).1 (hB12.fb nx).2
          have hf14 := M14.ob
          have nxd : x ≠ d := fun z => by
            have := e12.frz _ _ _ (e11.frz _ _ _ (e10.frz _ _ _ h9))
            rw [← z, nx] at this; cases this
          have il : its.length ≤ 30 := by
            have := congrArg List.length hb
            rw [List.length_map, List.length_map, List.length_take] at this
            omega
          have kl : (kvsOf its).length ≤ 1000 := by rw [kvsOf_len]; omega
          have byt : ∀ r ∈ its, r.1.byte ≠ p.1.byte := fun r hr e => by
            have : bn r ∈ (items.take i).map bn := by rw [← hb]; exact List.mem_map.mpr ⟨r, hr, rfl⟩
            obtain ⟨r', hr', e'⟩ := List.mem_map.mp this
            have e'' : r'.1.byte = r.1.byte := congrArg Prod.fst e'
            exact nd_take ndb hp r' hr' (e''.trans e)
          walk_at "go"
          generalize hu15 : upd _ f _ = H15
          obtain ⟨e15, M15⟩ := M14.puts hF hu15
          have hB15 := hB14.ed1 e15 nbf ncf
          rw [putI_new (f := ⟨p.1.byte, p.1.name, 1 + l, fl⟩) byt] at M15
          have e914 : Vc.Ed [b, f] H9 H14 := by
            have a1 : Vc.Ed [b, f] H9 H12 := by walk_at "ed"
            exact (a1.ex e13).one e14 (.inr (a1.dom _ nx))
          refine ⟨_, _, rfl, (e9.trans (e914.one e15 (.inl (by simp))) (fun x h => .inl h)), hB15, M15, ?_, ?_⟩
          · rw [List.map_append, hb, List.take_add_one, hp, List.map_append]; rfl
          · intro r hr
            rcases List.mem_append.mp hr with hr | hr
            · exact nds r hr
            · rw [List.mem_singleton.mp hr]; exact nxd
      · rintro H8 σ' H9 H10 e8 ⟨y9, its, rfl, e9, hB9, M9, hb, nds⟩ e10 hd10 k10
        rw [nmK_len, List.take_of_length_le (Nat.le_refl _)] at hb
        have hB10 := hB9.keep k10 nbd ncd
        have M10 : MadeAt A H10 f its := ⟨k10 _ _ ndf.symm M9.ob, fun p hp => by
          obtain ⟨dx, h⟩ := M9.fm p hp
          exact ⟨dx, k10 _ _ (nds p hp) h⟩⟩
        rw [← nmK_bn hb] at hd10
        have ndi : ((its.map (·.1)).map (·.byte)).Nodup := by rw [byt_bn hb]; exact ndb
        have il : its.length ≤ 20 := by have := congrArg List.length hb; rw [List.length_map, List.length_map] at this; omega
        clear hb e10 k10 hd7 hd6 e9
        have hf10 := M10.ob
        walk_at "go"
        refine ⟨stop, f, its, rfl, M10, ndi, by omega, fun q1 H11 e11 A1 => ?_⟩
        have hd11 := e11.at0 hd10
        walk_at "go"
        refine ⟨stop, d, its, rfl, hd11, ndi, by omega, fun q2 H12 e12 A2 => ?_⟩
        walk_at "go"
        refine ⟨_, _, _, rfl, sh_ats ansS_at.2, .tup (.inl (.inl (e12.at0 A1))) (dp_ats ansS_at.1), .tup (.inl (.inl A2)) (dp_ats ansS_at.1), fun H13 e13 => ?_⟩
        have M13 := ((M10.ed0 e11).ed0 e12).ed0 e13
        have hd13 := e13.at0 (e12.at0 hd11)
        have hf13 := M13.ob
        walk_at "go"
        refine ⟨f, _, (its.map (·.1)).map (·.byte), rfl, .inl hf13, kvsOf_inl _, by rw [List.length_map, List.length_map]; omega, fun ys s1 perm1 srt1 ns1 => ?_⟩
        generalize hu14 : upd _ s1 _ = H14
        obtain ⟨e14, hs14⟩ := Vc.alloc hu14 ns1
        walk_at "go"
        refine ⟨d, _, (its.map (·.1)).map (·.byte), rfl, .inl (e14.at0 hd13), nmK_inl _, by rw [List.length_map, List.length_map]; omega, fun zs s2 perm2 srt2 ns2 => ?_⟩
        generalize hu15 : upd _ s2 _ = H15
        obtain ⟨e15, hs15⟩ := Vc.alloc hu15 ns2
        refine go_neLs (.of (e15.at0 hs14)) (.of hs15) ?_
        rw [sorted_eq perm1 perm2 srt1 srt2]
        walk_at "go"
        have M15 := (M13.ed0 e14).ed0 e15
        have hd15 := e15.at0 (e14.at0 hd13)
        refine ⟨stop, f, its, rfl, M15, ndi, by omega, fun q3 H16 e16 A3 => ?_⟩
        have hd16 := e16.at0 hd15
        walk_at "go"
        refine ⟨stop, d, its, rfl, hd16, ndi, by omega, fun q4 H17 e17 A4 => ?_⟩
        walk_at "go"
        refine ⟨_, _, _, rfl, sh_ats ansS_at.2, .tup (.inl (.inl (e17.at0 A3))) (dp_ats ansS_at.1), .tup (.inl (.inl A4)) (dp_ats ansS_at.1), fun H18 e18 => ?_⟩
        have M18 := ((M15.ed0 e16).ed0 e17).ed0 e18
        have hd18 := e18.at0 (e17.at0 hd16)
        walk_at "go"
        intro x dx nx ndx ne
        generalize hu19 : upd _ x _ = H19
        obtain ⟨e19, hx19, hdx19⟩ := Vc.allocI hu19 nx ndx ne
        refine ⟨x, dx, ⟨7, "y", 1, "end"⟩, rfl, by decide +kernel, hx19, fun e he => ?_, fun _ H20 e20 hF => ⟨rfl, ?_⟩⟩
        · have := form_fine nok_y (l := 1) (f := "end") (by omega) (by omega) (.inr rfl)
          rw [this] at he; cases he
        have M19 := M18.ed0 e19
        have nfx : f ≠ x := ne_of_none M18.ob nx
        have M20 : MadeAt A H20 f its := M19.ed e20 (fun z => nfx (List.mem_singleton.mp z)) fun r hr z => by
          obtain ⟨_, hz⟩ := M18.fm r hr
          rw [List.mem_singleton.mp z, nx] at hz; cases hz
        have ndx2 : d ≠ x := ne_of_none hd18 nx
        have hd20 := e20.at1 ndx2 (e19.at0 hd18)
        have hf20 := M20.ob
        have kl : (kvsOf its).length ≤ 1000 := by rw [kvsOf_len]; omega
        have kl2 : (nmK its).length ≤ 1000 := by rw [nmK_len]; omega
        walk_at "go"
        generalize hu21 : upd _ f _ = H21
        obtain ⟨e21, M21⟩ := M20.puts hF hu21
        have hd21 := e21.at1 ndf hd20
        walk_at "go"
        generalize hu22 : upd _ d _ = H22
        obtain ⟨e22, hd22⟩ := Vc.chg hu22 hd21
        have M22 := M21.ed1 e22 hd21 (fun _ _ _ z => nomatch z) ndf.symm
        have hd22 : H22 d = some (.dK (nmK (putI its ⟨7, "y", 1, "end"⟩ x))) := by rw [← nmK_put]; exact hd22
        have il2 : (putI its ⟨7, "y", 1, "end"⟩ x).length ≤ 21 := Nat.le_trans putI_len (by omega)
        walk_at "go"
        refine ⟨8, f, _, rfl, M22, putI_nd ndi, by omega, fun q5 H23 e23 A5 => ?_⟩
        have hd23 := e23.at0 hd22
        walk_at "go"
        refine ⟨8, d, _, rfl, hd23, putI_nd ndi, by omega, fun q6 H24 e24 A6 => ?_⟩
        walk_at "go"
        refine ⟨_, _, _, rfl, sh_ats ansS_at.2, .tup (.inl (.inl (e24.at0 A5))) (dp_ats ansS_at.1), .tup (.inl (.inl A6)) (dp_ats ansS_at.1), fun H25 e25 => ?_⟩
        exact k H25
end

end My
namespace My
open PySem PySem.Spec PyProof.Rows L2
theorem all_mk {w : World} {K : PySem.W.Frag} {h : Heap} {mg : Str → Option Value} {fa : Addr} (X : K.In h) (G : h.Ns mainGlobals mg) (hfa : mg "law" = some (.ref fa))
    {C_Form : Addr}
    {C_CodeSet : Addr}
    {f_is_byte : Addr} {oc1 kV1 dc1 pm1 cd1 ct1 : Value} {od1 an1 : Option Addr} {sl1 : Array (Option Value)}
    {f_is_name : Addr} {oc2 kV2 dc2 pm2 cd2 ct2 : Value} {od2 an2 : Option Addr} {sl2 : Array (Option Value)}
    {f_Formu_initu : Addr} {oc3 kV3 dc3 pm3 cd3 ct3 : Value} {od3 an3 : Option Addr} {sl3 : Array (Option Value)}
    {f_check_forms : Addr} {oc4 kV4 dc4 pm4 cd4 ct4 : Value} {od4 an4 : Option Addr} {sl4 : Array (Option Value)}
    {f_CodeSetu_initu : Addr} {oc5 kV5 dc5 pm5 cd5 ct5 : Value} {od5 an5 : Option Addr} {sl5 : Array (Option Value)}
    {f_CodeSetu_lenu : Addr} {oc6 kV6 dc6 pm6 cd6 ct6 : Value} {od6 an6 : Option Addr} {sl6 : Array (Option Value)}
    {f__law_bag : Addr} {oc7 kV7 dc7 pm7 cd7 ct7 : Value} {od7 an7 : Option Addr} {sl7 : Array (Option Value)}
    {f__law_draw : Addr} {oc8 kV8 dc8 pm8 cd8 ct8 : Value} {od8 an8 : Option Addr} {sl8 : Array (Option Value)}
    {f__law_same : Addr} {oc9 kV9 dc9 pm9 cd9 ct9 : Value} {od9 an9 : Option Addr} {sl9 : Array (Option Value)}
    {f__law_part : Addr} {oc10 kV10 dc10 pm10 cd10 ct10 : Value} {od10 an10 : Option Addr} {sl10 : Array (Option Value)}
    {f__law_form : Addr} {oc11 kV11 dc11 pm11 cd11 ct11 : Value} {od11 an11 : Option Addr} {sl11 : Array (Option Value)}
    {f__law_form_due : Addr} {oc12 kV12 dc12 pm12 cd12 ct12 : Value} {od12 an12 : Option Addr} {sl12 : Array (Option Value)}
    {f__law_name : Addr} {oc13 kV13 dc13 pm13 cd13 ct13 : Value} {od13 an13 : Option Addr} {sl13 : Array (Option Value)}
    {f__law_set : Addr} {oc14 kV14 dc14 pm14 cd14 ct14 : Value} {od14 an14 : Option Addr} {sl14 : Array (Option Value)}
    {f__law_set_due : Addr} {oc15 kV15 dc15 pm15 cd15 ct15 : Value} {od15 an15 : Option Addr} {sl15 : Array (Option Value)}
    {f__law_names : Addr} {oc16 kV16 dc16 pm16 cd16 ct16 : Value} {od16 an16 : Option Addr} {sl16 : Array (Option Value)}
    {f_law : Addr} {oc17 kV17 dc17 pm17 cd17 ct17 : Value} {od17 an17 : Option Addr} {sl17 : Array (Option Value)}
    {t_LETTERS : Tok}
    {C_CodeError : Addr}
    {C_BadInput : Addr}
    {C_NotRight : Addr}
    {C_NoWay : Addr}
    {C_BadByte : Addr}
    {C_BadLayout : Addr}
    {C_BadAddress : Addr}
    {C_BadCodes f_BadCodesu_initu cda18 cc18 : Addr} {oc18 kV18 dc18 pm18 ct18 : Value} {od18 an18 : Option Addr} {sl18 : Array (Option Value)}
    {nm18 q18 : Str} {N18 : Addr} {bs18 bm18 sub18 : List Value} {sn18 : List Str} {ab18 : Bool} {col18 : Option Bool} {dd18 : Option Addr} {ka18 kb18 kc18 kd18 ke18 : Option Value}
    {ccl18 ocl18 : Value} {ccd18 ocd18 : Option Addr} {vs18 : Array Value} {ccs18 ocs18 : Array (Option Value)} {file18 : Str} {tf18 : Tok}
    {a_FLOWS : Addr} {odF : Option Addr} {tF1 tF2 tF3 tF4 : Tok} {nF : Nat} {slF : Array (Option Value)}
    {tM : Tok}
    (aC_Form : PySem.W.nsIn K mainGlobals "Form" = some (some (.ref C_Form)))
    (aC_CodeSet : PySem.W.nsIn K mainGlobals "CodeSet" = some (some (.ref C_CodeSet)))
    (a_is_byte : PySem.W.nsIn K mainGlobals "is_byte" = some (some (.ref f_is_byte)))
    (l_is_byte : K.lookup f_is_byte = some ⟨oc1, od1, .func (PySem.W.fnOf "is_byte" "is_byte" (defArgs s_is_byte) (defBody s_is_byte) (defScope s_is_byte) .none kV1 dc1 pm1 an1 cd1 ct1), sl1⟩)
    (c_is_byte : PySem.W.codeIn K cd1 "is_byte" = true)
    (k_is_byte : PySem.W.keepIn K (.ref f_is_byte) = true)
    (a_is_name : PySem.W.nsIn K mainGlobals "is_name" = some (some (.ref f_is_name)))
    (l_is_name : K.lookup f_is_name = some ⟨oc2, od2, .func (PySem.W.fnOf "is_name" "is_name" (defArgs s_is_name) (defBody s_is_name) (defScope s_is_name) .none kV2 dc2 pm2 an2 cd2 ct2), sl2⟩)
    (c_is_name : PySem.W.codeIn K cd2 "is_name" = true)
    (k_is_name : PySem.W.keepIn K (.ref f_is_name) = true)
    (a_Formu_initu : PySem.W.findIn K (.ref C_Form) "__init__" = some (some (.ref f_Formu_initu)))
    (i_Formu_initu : PySem.W.isFn K (.ref f_Formu_initu) = true)
    (l_Formu_initu : K.lookup f_Formu_initu = some ⟨oc3, od3, .func (PySem.W.fnOf "__init__" "Form.__init__" (defArgs s_Formu_initu) (defBody s_Formu_initu) (defScope s_Formu_initu) .none kV3 dc3 pm3 an3 cd3 ct3), sl3⟩)
    (c_Formu_initu : PySem.W.codeIn K cd3 "Form.__init__" = true)
    (k_Formu_initu : PySem.W.keepIn K (.ref f_Formu_initu) = true)
    (a_check_forms : PySem.W.nsIn K mainGlobals "check_forms" = some (some (.ref f_check_forms)))
    (l_check_forms : K.lookup f_check_forms = some ⟨oc4, od4, .func (PySem.W.fnOf "check_forms" "check_forms" (defArgs s_check_forms) (defBody s_check_forms) (defScope s_check_forms) .none kV4 dc4 pm4 an4 cd4 ct4), sl4⟩)
    (c_check_forms : PySem.W.codeIn K cd4 "check_forms" = true)
    (k_check_forms : PySem.W.keepIn K (.ref f_check_forms) = true)
    (a_CodeSetu_initu : PySem.W.findIn K (.ref C_CodeSet) "__init__" = some (some (.ref f_CodeSetu_initu)))
    (i_CodeSetu_initu : PySem.W.isFn K (.ref f_CodeSetu_initu) = true)
    (l_CodeSetu_initu : K.lookup f_CodeSetu_initu = some ⟨oc5, od5, .func (PySem.W.fnOf "__init__" "CodeSet.__init__" (defArgs s_CodeSetu_initu) (defBody s_CodeSetu_initu) (defScope s_CodeSetu_initu) .none kV5 dc5 pm5 an5 cd5 ct5), sl5⟩)
    (c_CodeSetu_initu : PySem.W.codeIn K cd5 "CodeSet.__init__" = true)
    (k_CodeSetu_initu : PySem.W.keepIn K (.ref f_CodeSetu_initu) = true)
    (a_CodeSetu_lenu : PySem.W.findIn K (.ref C_CodeSet) "__len__" = some (some (.ref f_CodeSetu_lenu)))
    (i_CodeSetu_lenu : PySem.W.isFn K (.ref f_CodeSetu_lenu) = true)
    (l_CodeSetu_lenu : K.lookup f_CodeSetu_lenu = some ⟨oc6, od6, .func (PySem.W.fnOf "__len__" "CodeSet.__len__" (defArgs s_CodeSetu_lenu) (defBody s_CodeSetu_lenu) (defScope s_CodeSetu_lenu) .none kV6 dc6 pm6 an6 cd6 ct6), sl6⟩)
    (c_CodeSetu_lenu : PySem.W.codeIn K cd6 "CodeSet.__len__" = true)
    (k_CodeSetu_lenu : PySem.W.keepIn K (.ref f_CodeSetu_lenu) = true)
    (a__law_bag : PySem.W.nsIn K mainGlobals "_law_bag" = some (some (.ref f__law_bag)))
    (l__law_bag : K.lookup f__law_bag = some ⟨oc7, od7, .func (PySem.W.fnOf "_law_bag" "_law_bag" (defArgs s__law_bag) (defBody s__law_bag) (defScope s__law_bag) .none kV7 dc7 pm7 an7 cd7 ct7), sl7⟩)
    (c__law_bag : PySem.W.codeIn K cd7 "_law_bag" = true)
    (k__law_bag : PySem.W.keepIn K (.ref f__law_bag) = true)
    (a__law_draw : PySem.W.nsIn K mainGlobals "_law_draw" = some (some (.ref f__law_draw)))
    (l__law_draw : K.lookup f__law_draw = some ⟨oc8, od8, .func (PySem.W.fnOf "_law_draw" "_law_draw" (defArgs s__law_draw) (defBody s__law_draw) (defScope s__law_draw) .none kV8 dc8 pm8 an8 cd8 ct8), sl8⟩)
    (c__law_draw : PySem.W.codeIn K cd8 "_law_draw" = true)
    (k__law_draw : PySem.W.keepIn K (.ref f__law_draw) = true)
    (a__law_same : PySem.W.nsIn K mainGlobals "_law_same" = some (some (.ref f__law_same)))
    (l__law_same : K.lookup f__law_same = some ⟨oc9, od9, .func (PySem.W.fnOf "_law_same" "_law_same" (defArgs s__law_same) (defBody s__law_same) (defScope s__law_same) .none kV9 dc9 pm9 an9 cd9 ct9), sl9⟩)
    (c__law_same : PySem.W.codeIn K cd9 "_law_same" = true)
    (k__law_same : PySem.W.keepIn K (.ref f__law_same) = true)
    (a__law_part : PySem.W.nsIn K mainGlobals "_law_part" = some (some (.ref f__law_part)))
    (l__law_part : K.lookup f__law_part = some ⟨oc10, od10, .func (PySem.W.fnOf "_law_part" "_law_part" (defArgs s__law_part) (defBody s__law_part) (defScope s__law_part) .none kV10 dc10 pm10 an10 cd10 ct10), sl10⟩)
    (c__law_part : PySem.W.codeIn K cd10 "_law_part" = true)
    (k__law_part : PySem.W.keepIn K (.ref f__law_part) = true)
    (a__law_form : PySem.W.nsIn K mainGlobals "_law_form" = some (some (.ref f__law_form)))
    (l__law_form : K.lookup f__law_form = some ⟨oc11, od11, .func (PySem.W.fnOf "_law_form" "_law_form" (defArgs s__law_form) (defBody s__law_form) (defScope s__law_form) .none kV11 dc11 pm11 an11 cd11 ct11), sl11⟩)
    (c__law_form : PySem.W.codeIn K cd11 "_law_form" = true)
    (k__law_form : PySem.W.keepIn K (.ref f__law_form) = true)
    (a__law_form_due : PySem.W.nsIn K mainGlobals "_law_form_due" = some (some (.ref f__law_form_due)))
    (l__law_form_due : K.lookup f__law_form_due = some ⟨oc12, od12, .func (PySem.W.fnOf "_law_form_due" "_law_form_due" (defArgs s__law_form_due) (defBody s__law_form_due) (defScope s__law_form_due) .none kV12 dc12 pm12 an12 cd12 ct12), sl12⟩)
    (c__law_form_due : PySem.W.codeIn K cd12 "_law_form_due" = true)
    (k__law_form_due : PySem.W.keepIn K (.ref f__law_form_due) = true)
    (a__law_name : PySem.W.nsIn K mainGlobals "_law_name" = some (some (.ref f__law_name)))
    (l__law_name : K.lookup f__law_name = some ⟨oc13, od13, .func (PySem.W.fnOf "_law_name" "_law_name" (defArgs s__law_name) (defBody s__law_name) (defScope s__law_name) .none kV13 dc13 pm13 an13 cd13 ct13), sl13⟩)
    (c__law_name : PySem.W.codeIn K cd13 "_law_name" = true)
    (k__law_name : PySem.W.keepIn K (.ref f__law_name) = true)
    (a__law_set : PySem.W.nsIn K mainGlobals "_law_set" = some (some (.ref f__law_set)))
    (l__law_set : K.lookup f__law_set = some ⟨oc14, od14, .func (PySem.W.fnOf "_law_set" "_law_set" (defArgs s__law_set) (defBody s__law_set) (defScope s__law_set) .none kV14 dc14 pm14 an14 cd14 ct14), sl14⟩)
    (c__law_set : PySem.W.codeIn K cd14 "_law_set" = true)
    (k__law_set : PySem.W.keepIn K (.ref f__law_set) = true)
    (a__law_set_due : PySem.W.nsIn K mainGlobals "_law_set_due" = some (some (.ref f__law_set_due)))
    (l__law_set_due : K.lookup f__law_set_due = some ⟨oc15, od15, .func (PySem.W.fnOf "_law_set_due" "_law_set_due" (defArgs s__law_set_due) (defBody s__law_set_due) (defScope s__law_set_due) .none kV15 dc15 pm15 an15 cd15 ct15), sl15⟩)
    (c__law_set_due : PySem.W.codeIn K cd15 "_law_set_due" = true)
    (k__law_set_due : PySem.W.keepIn K (.ref f__law_set_due) = true)
    (a__law_names : PySem.W.nsIn K mainGlobals "_law_names" = some (some (.ref f__law_names)))
    (l__law_names : K.lookup f__law_names = some ⟨oc16, od16, .func (PySem.W.fnOf "_law_names" "_law_names" (defArgs s__law_names) (defBody s__law_names) (defScope s__law_names) .none kV16 dc16 pm16 an16 cd16 ct16), sl16⟩)
    (c__law_names : PySem.W.codeIn K cd16 "_law_names" = true)
    (k__law_names : PySem.W.keepIn K (.ref f__law_names) = true)
    (a_law : PySem.W.nsIn K mainGlobals "law" = some (some (.ref f_law)))
    (l_law : K.lookup f_law = some ⟨oc17, od17, .func (PySem.W.fnOf "law" "law" (defArgs s_law) (defBody s_law) (defScope s_law) .none kV17 dc17 pm17 an17 cd17 ct17), sl17⟩)
    (c_law : PySem.W.codeIn K cd17 "law" = true)
    (k_law : PySem.W.keepIn K (.ref f_law) = true)
    (pg_Form : PySem.W.plainGet K C_Form Str.empty = true)
    (hd_Form : PySem.W.hasDictIn K C_Form = true)
    (po_Form : PySem.W.plainOver K C_Form = true)
    (sa_Form : PySem.W.findIn K (.ref C_Form) "__setattr__" = some (some (.builtin "object.__setattr__")))
    (mk_Form : PySem.W.makesIn K C_Form = true)
    (kc_Form : PySem.W.keepIn K (.ref C_Form) = true)
    (no_Form_name : PySem.W.findIn K (.ref C_Form) "name" = some none)
    (no_Form_length : PySem.W.findIn K (.ref C_Form) "length" = some none)
    (no_Form_flow : PySem.W.findIn K (.ref C_Form) "flow" = some none)
    (pg_CodeSet : PySem.W.plainGet K C_CodeSet Str.empty = true)
    (hd_CodeSet : PySem.W.hasDictIn K C_CodeSet = true)
    (po_CodeSet : PySem.W.plainOver K C_CodeSet = true)
    (sa_CodeSet : PySem.W.findIn K (.ref C_CodeSet) "__setattr__" = some (some (.builtin "object.__setattr__")))
    (mk_CodeSet : PySem.W.makesIn K C_CodeSet = true)
    (kc_CodeSet : PySem.W.keepIn K (.ref C_CodeSet) = true)
    (no_CodeSet_stop : PySem.W.findIn K (.ref C_CodeSet) "stop" = some none)
    (no_CodeSet_order : PySem.W.findIn K (.ref C_CodeSet) "order" = some none)
    (no_CodeSet_table : PySem.W.findIn K (.ref C_CodeSet) "table" = some none)
    (z_len : PySem.W.nsIn K mainGlobals "len" = some none)
    (z_abs : PySem.W.nsIn K mainGlobals "abs" = some none)
    (z_int : PySem.W.nsIn K mainGlobals "int" = some none)
    (z_list : PySem.W.nsIn K mainGlobals "list" = some none)
    (z_range : PySem.W.nsIn K mainGlobals "range" = some none)
    (z_isinstance : PySem.W.nsIn K mainGlobals "isinstance" = some none)
    (z_bool : PySem.W.nsIn K mainGlobals "bool" = some none)
    (z_str : PySem.W.nsIn K mainGlobals "str" = some none)
    (z_tuple : PySem.W.nsIn K mainGlobals "tuple" = some none)
    (z_all : PySem.W.nsIn K mainGlobals "all" = some none)
    (z_set : PySem.W.nsIn K mainGlobals "set" = some none)
    (z_sorted : PySem.W.nsIn K mainGlobals "sorted" = some none)
    (z_ValueError : PySem.W.nsIn K mainGlobals "ValueError" = some none)
    (v_LETTERS : PySem.W.nsIn K mainGlobals "LETTERS" = some (some (.str "abcdefghijklmnopqrstuvwxyz" t_LETTERS)))
    (aC_CodeError : PySem.W.nsIn K mainGlobals "CodeError" = some (some (.ref C_CodeError)))
    (aC_BadInput : PySem.W.nsIn K mainGlobals "BadInput" = some (some (.ref C_BadInput)))
    (aC_NotRight : PySem.W.nsIn K mainGlobals "NotRight" = some (some (.ref C_NotRight)))
    (aC_NoWay : PySem.W.nsIn K mainGlobals "NoWay" = some (some (.ref C_NoWay)))
    (aC_BadByte : PySem.W.nsIn K mainGlobals "BadByte" = some (some (.ref C_BadByte)))
    (aC_BadLayout : PySem.W.nsIn K mainGlobals "BadLayout" = some (some (.ref C_BadLayout)))
    (aC_BadAddress : PySem.W.nsIn K mainGlobals "BadAddress" = some (some (.ref C_BadAddress)))
    (zsuper : PySem.W.nsIn K mainGlobals "super" = some none)
    (znoop : PySem.W.nsIn K cStatics "thirdparty.any" = some none)
    (zgcn : PySem.W.specialIn K (.builtin "object.__class__") "__get__" = some (some (.builtin "getset_descriptor.__get__")))
    (zgct : PySem.W.takesIn K (.builtin "object.__class__") = some true)
    (ztop : ((PySem.Challenge.pw_codestitch_k04_refused_code_sets).main.scope.names.lookup ("super" : Str)).isSome = false)
    (aC_BadCodes : PySem.W.nsIn K mainGlobals "BadCodes" = some (some (.ref C_BadCodes)))
    (lkC_BadCodes : K.lookup C_BadCodes = some (excClassObj nm18 q18 C_BadCodes N18 bs18 bm18 true sn18 sub18 ab18 col18 dd18 ka18 kb18 kc18 kd18 ke18 "ValueError.__new__"))
    (bmC_BadCodes : PySem.HandSPX.refsVE bm18 = true)
    (saC_BadCodes : PySem.W.findIn K (.ref C_BadCodes) "__setattr__" = some (some (.builtin "object.__setattr__")))
    (exC_BadCodes : PySem.W.subIn K (.ref C_BadCodes) (.type "BaseException") = some true)
    (tyC_BadCodes : PySem.W.typeIn K (.ref C_BadCodes) = some (.type "type"))
    (kpC_BadCodes : PySem.W.keepIn K (.ref C_BadCodes) = true)
    (inC_BadCodes : PySem.W.findIn K (.ref C_BadCodes) "__init__" = some (some (.ref f_BadCodesu_initu)))
    (tiC_BadCodes : PySem.W.typeIn K (.ref f_BadCodesu_initu) = some (.type "function"))
    (noC_BadCodes_part : PySem.W.findIn K (.ref C_BadCodes) "part" = some none)
    (gaC_BadCodes : PySem.W.findIn K (.ref C_BadCodes) "__getattribute__" = some (some (.builtin "BaseException.__getattribute__")))
    (ggC_BadCodes : PySem.W.findIn K (.ref C_BadCodes) "__getattr__" = some none)
    (hdC_BadCodes : PySem.W.hasDictIn K C_BadCodes = true)
    (gcC_BadCodes : PySem.W.findIn K (.ref C_BadCodes) "__class__" = some (some (.builtin "object.__class__")))
    (moC_BadCodes : PySem.W.mroIn K C_BadCodes (.type "object") = some true)
    (l_BadCodesu_initu : K.lookup f_BadCodesu_initu = some ⟨oc18, od18, .func (PySem.W.ksFn "__init__" "BadCodes.__init__" (defArgs s_BadCodesu_initu) (defBody s_BadCodesu_initu) (defScope s_BadCodesu_initu) .none kV18 dc18 pm18 an18 (.ref cda18) ct18 cc18), sl18⟩)
    (c_BadCodesu_initu : PySem.W.codeIn K (.ref cda18) "BadCodes.__init__" = true)
    (k_BadCodesu_initu : PySem.W.keepIn K (.ref f_BadCodesu_initu) = true)
    (cl_BadCodesu_initu : K.lookup cda18 = some ⟨ccl18, ccd18, .fields vs18, ccs18⟩)
    (cf_BadCodesu_initu : vs18[2]? = some (.str file18 tf18))
    (fe_BadCodesu_initu : (((PySem.Challenge.pw_codestitch_k04_refused_code_sets).main.file : Str) == file18) = true)
    (ce_BadCodesu_initu : K.lookup cc18 = some ⟨ocl18, ocd18, .cell (some (.ref C_BadCodes)), ocs18⟩)
    (mrC_BadCodes : PySem.W.mroIn K C_BadCodes (.ref C_BadCodes) = some true)
    (suC_BadCodes : PySem.W.ks_superIn K C_BadCodes C_BadCodes "__init__" = some (some (.builtin "ValueError.__init__")))
    (svC_BadCodes : PySem.W.subIn K (.ref C_BadCodes) (.type "ValueError") = some true)
    (kit_BadCodes_BadCodes : PySem.W.kitOne K (.ref C_BadCodes) (.ref C_BadCodes) = some true)
    (kit_BadCodes_BadInput : PySem.W.kitOne K (.ref C_BadCodes) (.ref C_BadInput) = some true)
    (kit_BadCodes_ValueError : PySem.W.kitOne K (.ref C_BadCodes) (.type "ValueError") = some true)
    (kit_BadCodes_NotRight : PySem.W.kitOne K (.ref C_BadCodes) (.ref C_NotRight) = some false)
    (kit_BadCodes_NoWay : PySem.W.kitOne K (.ref C_BadCodes) (.ref C_NoWay) = some false)
    (kit_BadCodes_BadByte : PySem.W.kitOne K (.ref C_BadCodes) (.ref C_BadByte) = some false)
    (kit_BadCodes_BadLayout : PySem.W.kitOne K (.ref C_BadCodes) (.ref C_BadLayout) = some false)
    (kit_BadCodes_BadAddress : PySem.W.kitOne K (.ref C_BadCodes) (.ref C_BadAddress) = some false)
    (exm_BadCodes_CodeError : PySem.W.exmOne K (.ref C_BadCodes) (.ref C_CodeError) = some true)
    (rd_Form : PySem.W.readsIn K C_Form (.type "type") = true)
    (gat_Form : PySem.W.specialIn K (.ref C_Form) "__getattribute__" = some (some (.builtin "type.__getattribute__")))
    (rd_CodeSet : PySem.W.readsIn K C_CodeSet (.type "type") = true)
    (gat_CodeSet : PySem.W.specialIn K (.ref C_CodeSet) "__getattribute__" = some (some (.builtin "type.__getattribute__")))
    (cvF : PySem.W.findCls K (.ref C_Form) (.type "type") "FLOWS" = some (.val (.ref a_FLOWS)))
    (lkF : K.lookup a_FLOWS = some ⟨.type "tuple", odF, .seq #[.str "next" tF1, .str "jump" tF2, .str "test" tF3, .str "end" tF4] nF, slF⟩)
    (cvM : PySem.W.findCls K (.ref C_CodeSet) (.type "type") "MOST_FORMS" = some (.val (.int 16 tM))) :
    ∃ fd : FuncData, (∀ (s : Shared) (v : Value), BindsTo s fd ⟨[v], []⟩ [("_law_script", v)]) ∧ ∀ base : Heap, K.In base → base.Ns mainGlobals mg → FnOk PySem.Challenge.pw_codestitch_k04_refused_code_sets w K mg base CX0 8 fa fd ["_law_script"] (spLaw K) := by
  have e := hfa.symm.trans (PySem.W.mg_of X G a_law)
  cases e
  have F_is_byte := fun_mk (st := s_is_byte) l_is_byte c_is_byte k_is_byte
  have F_is_name := fun_mk (st := s_is_name) l_is_name c_is_name k_is_name
  have F_Formu_initu := fun_mk (st := s_Formu_initu) l_Formu_initu c_Formu_initu k_Formu_initu
  have F_check_forms := fun_mk (st := s_check_forms) l_check_forms c_check_forms k_check_forms
  have F_CodeSetu_initu := fun_mk (st := s_CodeSetu_initu) l_CodeSetu_initu c_CodeSetu_initu k_CodeSetu_initu
  have F_CodeSetu_lenu := fun_mk (st := s_CodeSetu_lenu) l_CodeSetu_lenu c_CodeSetu_lenu k_CodeSetu_lenu
  have F__law_bag := fun_mk (st := s__law_bag) l__law_bag c__law_bag k__law_bag
  have F__law_draw := fun_mk (st := s__law_draw) l__law_draw c__law_draw k__law_draw
  have F__law_same := fun_mk (st := s__law_same) l__law_same c__law_same k__law_same
  have F__law_part := fun_mk (st := s__law_part) l__law_part c__law_part k__law_part
  have F__law_form := fun_mk (st := s__law_form) l__law_form c__law_form k__law_form
  have F__law_form_due := fun_mk (st := s__law_form_due) l__law_form_due c__law_form_due k__law_form_due
  have F__law_name := fun_mk (st := s__law_name) l__law_name c__law_name k__law_name
  have F__law_set := fun_mk (st := s__law_set) l__law_set c__law_set k__law_set
  have F__law_set_due := fun_mk (st := s__law_set_due) l__law_set_due c__law_set_due k__law_set_due
  have F__law_names := fun_mk (st := s__law_names) l__law_names c__law_names k__law_names
  have F_law := fun_mk (st := s_law) l_law c_law k_law
  have F_BadCodesu_initu : Vc.FunS PySem.Challenge.pw_codestitch_k04_refused_code_sets K mg "__init__" "BadCodes.__init__" s_BadCodesu_initu f_BadCodesu_initu (PySem.W.ksFn "__init__" "BadCodes.__init__" (defArgs s_BadCodesu_initu) (defBody s_BadCodesu_initu) (defScope s_BadCodesu_initu) .none kV18 dc18 pm18 an18 (.ref cda18) ct18 cc18) C_BadCodes "self" := ⟨⟨_, _, _, _, _, _, _, _, _, _, rfl, l_BadCodesu_initu, c_BadCodesu_initu, ⟨⟨_, _, _, l_BadCodesu_initu⟩, ⟨_, rfl, rfl⟩, ⟨_, _, _, _, _, _, cl_BadCodesu_initu, cf_BadCodesu_initu, fe_BadCodesu_initu⟩, ⟨_, _, _, ce_BadCodesu_initu⟩, mrC_BadCodes, suC_BadCodes, svC_BadCodes, PySem.W.mg_none_of X G zsuper, znoop, ztop⟩⟩, k_BadCodesu_initu⟩
  have T : Txt K mg { C_Form := C_Form, C_CodeSet := C_CodeSet, f_is_byte := f_is_byte, d_is_byte := PySem.W.fnOf "is_byte" "is_byte" (defArgs s_is_byte) (defBody s_is_byte) (defScope s_is_byte) .none kV1 dc1 pm1 an1 cd1 ct1, f_is_name := f_is_name, d_is_name := PySem.W.fnOf "is_name" "is_name" (defArgs s_is_name) (defBody s_is_name) (defScope s_is_name) .none kV2 dc2 pm2 an2 cd2 ct2, f_Formu_initu := f_Formu_initu, d_Formu_initu := PySem.W.fnOf "__init__" "Form.__init__" (defArgs s_Formu_initu) (defBody s_Formu_initu) (defScope s_Formu_initu) .none kV3 dc3 pm3 an3 cd3 ct3, f_check_forms := f_check_forms, d_check_forms := PySem.W.fnOf "check_forms" "check_forms" (defArgs s_check_forms) (defBody s_check_forms) (defScope s_check_forms) .none kV4 dc4 pm4 an4 cd4 ct4, f_CodeSetu_initu := f_CodeSetu_initu, d_CodeSetu_initu := PySem.W.fnOf "__init__" "CodeSet.__init__" (defArgs s_CodeSetu_initu) (defBody s_CodeSetu_initu) (defScope s_CodeSetu_initu) .none kV5 dc5 pm5 an5 cd5 ct5, f_CodeSetu_lenu := f_CodeSetu_lenu, d_CodeSetu_lenu := PySem.W.fnOf "__len__" "CodeSet.__len__" (defArgs s_CodeSetu_lenu) (defBody s_CodeSetu_lenu) (defScope s_CodeSetu_lenu) .none kV6 dc6 pm6 an6 cd6 ct6, f__law_bag := f__law_bag, d__law_bag := PySem.W.fnOf "_law_bag" "_law_bag" (defArgs s__law_bag) (defBody s__law_bag) (defScope s__law_bag) .none kV7 dc7 pm7 an7 cd7 ct7, f__law_draw := f__law_draw, d__law_draw := PySem.W.fnOf "_law_draw" "_law_draw" (defArgs s__law_draw) (defBody s__law_draw) (defScope s__law_draw) .none kV8 dc8 pm8 an8 cd8 ct8, f__law_same := f__law_same, d__law_same := PySem.W.fnOf "_law_same" "_law_same" (defArgs s__law_same) (defBody s__law_same) (defScope s__law_same) .none kV9 dc9 pm9 an9 cd9 ct9, f__law_part := f__law_part, d__law_part := PySem.W.fnOf "_law_part" "_law_part" (defArgs s__law_part) (defBody s__law_part) (defScope s__law_part) .none kV10 dc10 pm10 an10 cd10 ct10, f__law_form := f__law_form, d__law_form := PySem.W.fnOf "_law_form" "_law_form" (defArgs s__law_form) (defBody s__law_form) (defScope s__law_form) .none kV11 dc11 pm11 an11 cd11 ct11, f__law_form_due := f__law_form_due, d__law_form_due := PySem.W.fnOf "_law_form_due" "_law_form_due" (defArgs s__law_form_due) (defBody s__law_form_due) (defScope s__law_form_due) .none kV12 dc12 pm12 an12 cd12 ct12, f__law_name := f__law_name, d__law_name := PySem.W.fnOf "_law_name" "_law_name" (defArgs s__law_name) (defBody s__law_name) (defScope s__law_name) .none kV13 dc13 pm13 an13 cd13 ct13, f__law_set := f__law_set, d__law_set := PySem.W.fnOf "_law_set" "_law_set" (defArgs s__law_set) (defBody s__law_set) (defScope s__law_set) .none kV14 dc14 pm14 an14 cd14 ct14, f__law_set_due := f__law_set_due, d__law_set_due := PySem.W.fnOf "_law_set_due" "_law_set_due" (defArgs s__law_set_due) (defBody s__law_set_due) (defScope s__law_set_due) .none kV15 dc15 pm15 an15 cd15 ct15, f__law_names := f__law_names, d__law_names := PySem.W.fnOf "_law_names" "_law_names" (defArgs s__law_names) (defBody s__law_names) (defScope s__law_names) .none kV16 dc16 pm16 an16 cd16 ct16, f_law := fa, d_law := PySem.W.fnOf "law" "law" (defArgs s_law) (defBody s_law) (defScope s_law) .none kV17 dc17 pm17 an17 cd17 ct17, C_CodeError := C_CodeError, C_BadInput := C_BadInput, C_NotRight := C_NotRight, C_NoWay := C_NoWay, C_BadByte := C_BadByte, C_BadLayout := C_BadLayout, C_BadAddress := C_BadAddress, C_BadCodes := C_BadCodes, f_BadCodesu_initu := f_BadCodesu_initu, d_BadCodesu_initu := PySem.W.ksFn "__init__" "BadCodes.__init__" (defArgs s_BadCodesu_initu) (defBody s_BadCodesu_initu) (defScope s_BadCodesu_initu) .none kV18 dc18 pm18 an18 (.ref cda18) ct18 cc18, a_FLOWS := a_FLOWS } := {
    g_Form := (PySem.W.mg_of X G aC_Form),
    g_CodeSet := (PySem.W.mg_of X G aC_CodeSet),
    g_is_byte := (PySem.W.mg_of X G a_is_byte),
    F_is_byte := (F_is_byte),
    b_is_byte := (F_is_byte.binds (ps := ["value"]) fun _ _ _ _ _ _ us hl => match us, hl with | [_], _ => rfl),
    g_is_name := (PySem.W.mg_of X G a_is_name),
    F_is_name := (F_is_name),
    b_is_name := (F_is_name.binds (ps := ["value"]) fun _ _ _ _ _ _ us hl => match us, hl with | [_], _ => rfl),
    F_Formu_initu := (F_Formu_initu),
    b_Formu_initu := (F_Formu_initu.binds (ps := ["self", "name", "length", "flow"]) fun _ _ _ _ _ _ us hl => match us, hl with | [_, _, _, _], _ => rfl),
    g_check_forms := (PySem.W.mg_of X G a_check_forms),
    F_check_forms := (F_check_forms),
    b_check_forms := (F_check_forms.binds (ps := ["stop", "forms"]) fun _ _ _ _ _ _ us hl => match us, hl with | [_, _], _ => rfl),
    F_CodeSetu_initu := (F_CodeSetu_initu),
    b_CodeSetu_initu := (F_CodeSetu_initu.binds (ps := ["self", "stop", "forms"]) fun _ _ _ _ _ _ us hl => match us, hl with | [_, _, _], _ => rfl),
    F_CodeSetu_lenu := (F_CodeSetu_lenu),
    b_CodeSetu_lenu := (F_CodeSetu_lenu.binds (ps := ["self"]) fun _ _ _ _ _ _ us hl => match us, hl with | [_], _ => rfl),
    g__law_bag := (PySem.W.mg_of X G a__law_bag),
    F__law_bag := (F__law_bag),
    b__law_bag := (F__law_bag.binds (ps := ["_law_script"]) fun _ _ _ _ _ _ us hl => match us, hl with | [_], _ => rfl),
    g__law_draw := (PySem.W.mg_of X G a__law_draw),
    F__law_draw := (F__law_draw),
    b__law_draw := (F__law_draw.binds (ps := ["_law_bag_here", "_law_limit"]) fun _ _ _ _ _ _ us hl => match us, hl with | [_, _], _ => rfl),
    g__law_same := (PySem.W.mg_of X G a__law_same),
    F__law_same := (F__law_same),
    b__law_same := (F__law_same.binds (ps := ["_law_actual", "_law_expected"]) fun _ _ _ _ _ _ us hl => match us, hl with | [_, _], _ => rfl),
    g__law_part := (PySem.W.mg_of X G a__law_part),
    F__law_part := (F__law_part),
    b__law_part := (F__law_part.binds (ps := ["_law_error"]) fun _ _ _ _ _ _ us hl => match us, hl with | [_], _ => rfl),
    g__law_form := (PySem.W.mg_of X G a__law_form),
    F__law_form := (F__law_form),
    b__law_form := (F__law_form.binds (ps := ["_law_name_here", "_law_length", "_law_flow"]) fun _ _ _ _ _ _ us hl => match us, hl with | [_, _, _], _ => rfl),
    g__law_form_due := (PySem.W.mg_of X G a__law_form_due),
    F__law_form_due := (F__law_form_due),
    b__law_form_due := (F__law_form_due.binds (ps := ["_law_name_here", "_law_length", "_law_flow"]) fun _ _ _ _ _ _ us hl => match us, hl with | [_, _, _], _ => rfl),
    g__law_name := (PySem.W.mg_of X G a__law_name),
    F__law_name := (F__law_name),
    b__law_name := (F__law_name.binds (ps := ["_law_bag_here"]) fun _ _ _ _ _ _ us hl => match us, hl with | [_], _ => rfl),
    g__law_set := (PySem.W.mg_of X G a__law_set),
    F__law_set := (F__law_set),
    b__law_set := (F__law_set.binds (ps := ["_law_stop", "_law_forms"]) fun _ _ _ _ _ _ us hl => match us, hl with | [_, _], _ => rfl),
    g__law_set_due := (PySem.W.mg_of X G a__law_set_due),
    F__law_set_due := (F__law_set_due),
    b__law_set_due := (F__law_set_due.binds (ps := ["_law_stop", "_law_names_here"]) fun _ _ _ _ _ _ us hl => match us, hl with | [_, _], _ => rfl),
    g__law_names := (PySem.W.mg_of X G a__law_names),
    F__law_names := (F__law_names),
    b__law_names := (F__law_names.binds (ps := ["_law_bag_here", "_law_stop"]) fun _ _ _ _ _ _ us hl => match us, hl with | [_, _], _ => rfl),
    g_law := (PySem.W.mg_of X G a_law),
    F_law := (F_law),
    b_law := (F_law.binds (ps := ["_law_script"]) fun _ _ _ _ _ _ us hl => match us, hl with | [_], _ => rfl),
    cl_Form := (⟨pg_Form, hd_Form, po_Form, sa_Form⟩),
    mk_Form := (⟨mk_Form, a_Formu_initu, i_Formu_initu, kc_Form⟩),
    no_Form_name := (no_Form_name),
    no_Form_length := (no_Form_length),
    no_Form_flow := (no_Form_flow),
    cl_CodeSet := (⟨pg_CodeSet, hd_CodeSet, po_CodeSet, sa_CodeSet⟩),
    mk_CodeSet := (⟨mk_CodeSet, a_CodeSetu_initu, i_CodeSetu_initu, kc_CodeSet⟩),
    no_CodeSet_stop := (no_CodeSet_stop),
    no_CodeSet_order := (no_CodeSet_order),
    no_CodeSet_table := (no_CodeSet_table),
    n_len := (PySem.W.mg_none_of X G z_len),
    n_abs := (PySem.W.mg_none_of X G z_abs),
    n_int := (PySem.W.mg_none_of X G z_int),
    n_list := (PySem.W.mg_none_of X G z_list),
    n_range := (PySem.W.mg_none_of X G z_range),
    n_isinstance := (PySem.W.mg_none_of X G z_isinstance),
    n_bool := (PySem.W.mg_none_of X G z_bool),
    n_str := (PySem.W.mg_none_of X G z_str),
    n_tuple := (PySem.W.mg_none_of X G z_tuple),
    n_all := (PySem.W.mg_none_of X G z_all),
    n_set := (PySem.W.mg_none_of X G z_set),
    n_sorted := (PySem.W.mg_none_of X G z_sorted),
    n_ValueError := (PySem.W.mg_none_of X G z_ValueError),
    g_LETTERS := (⟨_, PySem.W.mg_of X G v_LETTERS⟩),
    g_CodeError := (PySem.W.mg_of X G aC_CodeError),
    g_BadInput := (PySem.W.mg_of X G aC_BadInput),
    g_NotRight := (PySem.W.mg_of X G aC_NotRight),
    g_NoWay := (PySem.W.mg_of X G aC_NoWay),
    g_BadByte := (PySem.W.mg_of X G aC_BadByte),
    g_BadLayout := (PySem.W.mg_of X G aC_BadLayout),
    g_BadAddress := (PySem.W.mg_of X G aC_BadAddress),
    g_BadCodes := (PySem.W.mg_of X G aC_BadCodes),
    ox_BadCodes := (⟨⟨_, _, _, _, _, _, _, _, _, _, _, _, _, _, _, lkC_BadCodes, bmC_BadCodes⟩, saC_BadCodes, exC_BadCodes, tyC_BadCodes, kpC_BadCodes⟩),
    i_BadCodes := (inC_BadCodes),
    ti_BadCodes := (tiC_BadCodes),
    no_BadCodes_part := (noC_BadCodes_part),
    xf_BadCodes := (⟨gaC_BadCodes, ggC_BadCodes, exC_BadCodes, hdC_BadCodes⟩),
    ec_BadCodes := (⟨gaC_BadCodes, ggC_BadCodes, exC_BadCodes, hdC_BadCodes, gcC_BadCodes, zgcn, zgct, moC_BadCodes⟩),
    F_BadCodesu_initu := (F_BadCodesu_initu),
    b_BadCodesu_initu := (F_BadCodesu_initu.binds (ps := ["self", "part"]) fun _ _ _ _ _ _ _ us hl => match us, hl with | [_, _], _ => rfl),
    kit_BadCodes_BadCodes := (kit_BadCodes_BadCodes),
    kit_BadCodes_BadInput := (kit_BadCodes_BadInput),
    kit_BadCodes_ValueError := (kit_BadCodes_ValueError),
    kit_BadCodes_NotRight := (kit_BadCodes_NotRight),
    kit_BadCodes_NoWay := (kit_BadCodes_NoWay),
    kit_BadCodes_BadByte := (kit_BadCodes_BadByte),
    kit_BadCodes_BadLayout := (kit_BadCodes_BadLayout),
    kit_BadCodes_BadAddress := (kit_BadCodes_BadAddress),
    exm_BadCodes_CodeError := (exm_BadCodes_CodeError),
    sp_CodeSet_CodeSetu_lenu := (⟨a_CodeSetu_lenu, i_CodeSetu_lenu⟩),
    cr_Form := (⟨rd_Form, gat_Form⟩),
    cr_CodeSet := (⟨rd_CodeSet, gat_CodeSet⟩),
    cv_FLOWS := (⟨cvF, rfl⟩),
    q_FLOWS := (fun H => .inr ⟨_, _, _, lkF, rfl, rfl, by show 4 ≤ sizeLine; decide, .cons ⟨_, rfl⟩ (.cons ⟨_, rfl⟩ (.cons ⟨_, rfl⟩ (.cons ⟨_, rfl⟩ .nil)))⟩),
    cv_MOST := (⟨_, cvM, _, rfl⟩) }
  exact ⟨PySem.W.fnOf "law" "law" (defArgs s_law) (defBody s_law) (defScope s_law) .none kV17 dc17 pm17 an17 cd17 ct17, fun s v => .of_eq rfl, fun base _ _ => ok_law T⟩
end My
open PySem PySem.W PyProof.Rows
set_option maxRecDepth 100000 in
set_option maxHeartbeats 0 in
theorem PySem.Challenge.cw_codestitch_k04_refused_code_sets_holds : PySem.Challenge.rw_codestitch_k04_refused_code_sets.Holds := by
  w_on; o_law; k_head; (case hw => w_witness2)
  k_fill
  refine L2.walk_of (l := PySem.Challenge.rw_codestitch_k04_refused_code_sets) (n := 63) (k := 8) (x := "_law_script") (CX := fun _ => L2.CX0) (sp := fun w => My.spLaw _) rfl (by decide) rfl ⟨rfl, by decide, by decide⟩ (fun w h Y => PySem.W.kIn_of Y) ?F (fun _ _ a ns hl _ hS => ⟨a, ns, rfl, hS, hl, fun _ => rfl⟩) (fun _ _ _ _ _ h => h)
  case F =>
    intro w mg fa h KX G hmg
    refine' My.all_mk KX G hmg ?aC_Form ?aC_CodeSet ?a_is_byte ?l_is_byte ?c_is_byte ?k_is_byte ?a_is_name ?l_is_name ?c_is_name ?k_is_name ?a_Formu_initu ?i_Formu_initu ?l_Formu_initu ?c_Formu_initu ?k_Formu_initu ?a_check_forms ?l_check_forms ?c_check_forms ?k_check_forms ?a_CodeSetu_initu ?i_CodeSetu_initu ?l_CodeSetu_initu ?c_CodeSetu_initu ?k_CodeSetu_initu ?a_CodeSetu_lenu ?i_CodeSetu_lenu ?l_CodeSetu_lenu ?c_CodeSetu_lenu ?k_CodeSetu_lenu ?a__law_bag ?l__law_bag ?c__law_bag ?k__law_bag ?a__law_draw ?l__law_draw ?c__law_draw ?k__law_draw ?a__law_same ?l__law_same ?c__law_same ?k__law_same ?a__law_part ?l__law_part ?c__law_part ?k__law_part ?a__law_form ?l__law_form ?c__law_form ?k__law_form ?a__law_form_due ?l__law_form_due ?c__law_form_due ?k__law_form_due ?a__law_name ?l__law_name ?c__law_name ?k__law_name ?a__law_set ?l__law_set ?c__law_set ?k__law_set ?a__law_set_due ?l__law_set_due ?c__law_set_due ?k__law_set_due ?a__law_names ?l__law_names ?c__law_names ?k__law_names ?a_law ?l_law ?c_law ?k_law ?pg_Form ?hd_Form ?po_Form ?sa_Form ?mk_Form ?kc_Form ?no_Form_name ?no_Form_length ?no_Form_flow ?pg_CodeSet ?hd_CodeSet ?po_CodeSet ?sa_CodeSet ?mk_CodeSet ?kc_CodeSet ?no_CodeSet_stop ?no_CodeSet_order ?no_CodeSet_table ?z_len ?z_abs ?z_int ?z_list ?z_range ?z_isinstance ?z_bool ?z_str ?z_tuple ?z_all ?z_set ?z_sorted ?z_ValueError ?v_LETTERS ?aC_CodeError ?aC_BadInput ?aC_NotRight ?aC_NoWay ?aC_BadByte ?aC_BadLayout ?aC_BadAddress ?zsuper ?znoop ?zgcn ?zgct ?ztop ?aC_BadCodes ?lkC_BadCodes ?bmC_BadCodes ?saC_BadCodes ?exC_BadCodes ?tyC_BadCodes ?kpC_BadCodes ?inC_BadCodes ?tiC_BadCodes ?noC_BadCodes_part ?gaC_BadCodes ?ggC_BadCodes ?hdC_BadCodes ?gcC_BadCodes ?moC_BadCodes ?l_BadCodesu_initu ?c_BadCodesu_initu ?k_BadCodesu_initu ?cl_BadCodesu_initu ?cf_BadCodesu_initu ?fe_BadCodesu_initu ?ce_BadCodesu_initu ?mrC_BadCodes ?suC_BadCodes ?svC_BadCodes ?kit_BadCodes_BadCodes ?kit_BadCodes_BadInput ?kit_BadCodes_ValueError ?kit_BadCodes_NotRight ?kit_BadCodes_NoWay ?kit_BadCodes_BadByte ?kit_BadCodes_BadLayout ?kit_BadCodes_BadAddress ?exm_BadCodes_CodeError ?rd_Form ?gat_Form ?rd_CodeSet ?gat_CodeSet ?cvF ?lkF ?cvM
    (case aC_Form => k_is); (case aC_CodeSet => k_is); (case a_is_byte => k_is); (case l_is_byte => k_is); (case c_is_byte => k_is); (case k_is_byte => k_is)
    (case a_is_name => k_is); (case l_is_name => k_is); (case c_is_name => k_is); (case k_is_name => k_is); (case a_Formu_initu => k_is); (case i_Formu_initu => k_is)
    (case l_Formu_initu => k_is); (case c_Formu_initu => k_is); (case k_Formu_initu => k_is); (case a_check_forms => k_is); (case l_check_forms => k_is); (case c_check_forms => k_is)
    (case k_check_forms => k_is); (case a_CodeSetu_initu => k_is); (case i_CodeSetu_initu => k_is); (case l_CodeSetu_initu => k_is); (case c_CodeSetu_initu => k_is); (case k_CodeSetu_initu => k_is)
    (case a_CodeSetu_lenu => k_is); (case i_CodeSetu_lenu => k_is); (case l_CodeSetu_lenu => k_is); (case c_CodeSetu_lenu => k_is); (case k_CodeSetu_lenu => k_is); (case a__law_bag => k_is)
    (case l__law_bag => k_is); (case c__law_bag => k_is); (case k__law_bag => k_is); (case a__law_draw => k_is); (case l__law_draw => k_is); (case c__law_draw => k_is)
    (case k__law_draw => k_is); (case a__law_same => k_is); (case l__law_same => k_is); (case c__law_same => k_is); (case k__law_same => k_is); (case a__law_part => k_is)
    (case l__law_part => k_is); (case c__law_part => k_is); (case k__law_part => k_is); (case a__law_form => k_is); (case l__law_form => k_is); (case c__law_form => k_is)
    (case k__law_form => k_is); (case a__law_form_due => k_is); (case l__law_form_due => k_is); (case c__law_form_due => k_is); (case k__law_form_due => k_is); (case a__law_name => k_is)
    (case l__law_name => k_is); (case c__law_name => k_is); (case k__law_name => k_is); (case a__law_set => k_is); (case l__law_set => k_is); (case c__law_set => k_is)
    (case k__law_set => k_is); (case a__law_set_due => k_is); (case l__law_set_due => k_is); (case c__law_set_due => k_is); (case k__law_set_due => k_is); (case a__law_names => k_is)
    (case l__law_names => k_is); (case c__law_names => k_is); (case k__law_names => k_is); (case a_law => k_is); (case l_law => k_is); (case c_law => k_is)
    (case k_law => k_is); (case pg_Form => k_is); (case hd_Form => k_is); (case po_Form => k_is); (case sa_Form => k_is); (case mk_Form => k_is)
    (case kc_Form => k_is); (case no_Form_name => k_is); (case no_Form_length => k_is); (case no_Form_flow => k_is); (case pg_CodeSet => k_is); (case hd_CodeSet => k_is)
    (case po_CodeSet => k_is); (case sa_CodeSet => k_is); (case mk_CodeSet => k_is); (case kc_CodeSet => k_is); (case no_CodeSet_stop => k_is); (case no_CodeSet_order => k_is)
    (case no_CodeSet_table => k_is); (case z_len => k_is); (case z_abs => k_is); (case z_int => k_is); (case z_list => k_is); (case z_range => k_is)
    (case z_isinstance => k_is); (case z_bool => k_is); (case z_str => k_is); (case z_tuple => k_is); (case z_all => k_is); (case z_set => k_is)
    (case z_sorted => k_is); (case z_ValueError => k_is); (case v_LETTERS => k_is); (case aC_CodeError => k_is); (case aC_BadInput => k_is); (case aC_NotRight => k_is)
    (case aC_NoWay => k_is); (case aC_BadByte => k_is); (case aC_BadLayout => k_is); (case aC_BadAddress => k_is); (case zsuper => k_is); (case znoop => k_is)
    (case zgcn => k_is); (case zgct => k_is); (case ztop => decide +kernel); (case aC_BadCodes => k_is); (case lkC_BadCodes => k_is); (case bmC_BadCodes => decide +kernel)
    (case saC_BadCodes => k_is); (case exC_BadCodes => k_is); (case tyC_BadCodes => k_is); (case kpC_BadCodes => k_is); (case inC_BadCodes => k_is); (case tiC_BadCodes => k_is)
    (case noC_BadCodes_part => k_is); (case gaC_BadCodes => k_is); (case ggC_BadCodes => k_is); (case hdC_BadCodes => k_is); (case gcC_BadCodes => k_is); (case moC_BadCodes => k_is)
    (case l_BadCodesu_initu => k_is); (case c_BadCodesu_initu => k_is); (case k_BadCodesu_initu => k_is); (case cl_BadCodesu_initu => k_is); (case cf_BadCodesu_initu => rfl); (case fe_BadCodesu_initu => decide +kernel)
    (case ce_BadCodesu_initu => k_is); (case mrC_BadCodes => k_is); (case suC_BadCodes => ks_is); (case svC_BadCodes => k_is); (case kit_BadCodes_BadCodes => kit_is); (case kit_BadCodes_BadInput => kit_is)
    (case kit_BadCodes_ValueError => kit_is); (case kit_BadCodes_NotRight => kit_is); (case kit_BadCodes_NoWay => kit_is); (case kit_BadCodes_BadByte => kit_is); (case kit_BadCodes_BadLayout => kit_is); (case kit_BadCodes_BadAddress => kit_is)
    (case exm_BadCodes_CodeError => kts_exm); (case rd_Form => k_is); (case gat_Form => k_is); (case rd_CodeSet => k_is); (case gat_CodeSet => k_is); (case cvF => k_is)
    (case lkF => k_is); (case cvM => k_is)
