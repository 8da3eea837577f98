import PyProof.Rows.All
import Wide.All
import OpenK.AllK
import Wide.FinOn
import HandS.ForMost
import HandS.Wide
import HandS.IsInst
import HandS.Evl
import HandS.Walk
import HandS.Strs
import HandS.Conv
import HandS.ClsMeth
import HandS.DictComp
import PySem.Challenge.RW_codestitch_k01_followers
set_option Elab.async false
set_option linter.all false
set_option maxRecDepth 100000
set_option maxHeartbeats 4000000
open PySem PySem.Spec PyProof.Rows L2
/-! Vc: edges between abstract heaps, and readings answered step by step (my own layer over HandS). -/
namespace Vc
open PySem PySem.Spec PyProof.Rows L2

/-! ### edges: H' comes from H; at most the objects of S were changed -/
structure Ed (S : List Addr) (H H' : Hp) : Prop where
  keep : ∀ a o, a ∉ S → H a = some o → H' a = some o
  tup : ∀ a xs, H a = some (.tup xs) → H' a = some (.tup xs)
  frz : ∀ a o u, H a = some (.frz o u) → H' a = some (.frz o u)
  dom : ∀ a, H' a = none → H a = none
theorem Ed.refl {S : List Addr} {H : Hp} : Ed S H H := ⟨fun _ _ _ h => h, fun _ _ h => h, fun _ _ _ h => h, fun _ h => h⟩
theorem Ed.new {S : List Addr} {H : Hp} {p : Addr} {o : HO} (h : H p = none) : Ed S H (upd H p o) where
  keep := fun a u _ e => by rw [upd_ne (ne_of_none e h)]; exact e
  tup := fun a u e => by rw [upd_ne (ne_of_none e h)]; exact e
  frz := fun a _ u e => by rw [upd_ne (ne_of_none e h)]; exact e
  dom := fun a e => by
    by_cases q : a = p
    · rw [q]; exact h
    · rw [upd_ne q] at e; exact e
theorem Ed.mut {H : Hp} {p : Addr} {o u : HO} (h : H p = some u) (m : Mut (some u)) : Ed [p] H (upd H p o) where
  keep := fun a v ha e => by
    have : a ≠ p := fun q => ha (by rw [q]; exact List.mem_singleton.mpr rfl)
    rw [upd_ne this]; exact e
  tup := fun a xs e => by
    have : a ≠ p := fun q => by rw [q, h] at e; cases e; exact m
    rw [upd_ne this]; exact e
  frz := fun a _ xs e => by
    have : a ≠ p := fun q => by rw [q, h] at e; cases e; exact m
    rw [upd_ne this]; exact e
  dom := fun a e => by
    by_cases q : a = p
    · subst q; rw [upd_same] at e; cases e
    · rw [upd_ne q] at e; exact e
theorem Ed.trans {S T : List Addr} {H H1 H2 : Hp} (a : Ed S H H1) (b : Ed T H1 H2) (hs : ∀ x ∈ T, x ∈ S ∨ H x = none) : Ed S H H2 where
  keep := fun x o hx e => by
    have e1 := a.keep x o hx e
    refine b.keep x o (fun z => ?_) e1
    rcases hs x z with q | q
    · exact hx q
    · rw [e] at q; cases q
  tup := fun x o e => b.tup x o (a.tup x o e)
  frz := fun x o u e => b.frz x o u (a.frz x o u e)
  dom := fun x e => a.dom x (b.dom x e)
theorem Ed.mono {S T : List Addr} {H H1 : Hp} (a : Ed S H H1) (hs : ∀ x ∈ S, x ∈ T) : Ed T H H1 :=
  ⟨fun x o hx e => a.keep x o (fun z => hx (hs x z)) e, a.tup, a.frz, a.dom⟩
theorem Ed.ex {S : List Addr} {H H1 H2 : Hp} (a : Ed S H H1) (b : Ed [] H1 H2) : Ed S H H2 := a.trans b fun _ z => nomatch z
theorem Ed.one {S : List Addr} {H H1 H2 : Hp} {p : Addr} (a : Ed S H H1) (b : Ed [p] H1 H2) (h : p ∈ S ∨ H p = none) : Ed S H H2 :=
  a.trans b fun x z => by rw [List.mem_singleton.mp z]; exact h
theorem Ed.same {H H' : Hp} (e : Ed [] H H') : Same H H' := fun a o h => e.keep a o (fun z => nomatch z) h
theorem Ed.at0 {H H' : Hp} {a : Addr} {o : HO} (e : Ed [] H H') (h : H a = some o) : H' a = some o := e.keep a o (fun z => nomatch z) h
theorem Ed.at1 {H H' : Hp} {a p : Addr} {o : HO} (e : Ed [p] H H') (n : a ≠ p) (h : H a = some o) : H' a = some o := e.keep a o (fun z => n (List.mem_singleton.mp z)) h
theorem Ed.at2 {H H' : Hp} {a p q : Addr} {o : HO} (e : Ed [p, q] H H') (n : a ≠ p) (m : a ≠ q) (h : H a = some o) : H' a = some o := e.keep a o (fun z => by
  rcases List.mem_cons.mp z with z | z
  · exact n z
  · exact m (List.mem_singleton.mp z)) h
theorem Ed.rdt {S : List Addr} {H H' : Hp} {a : Addr} {xs : List V} (e : Ed S H H') (h : Rd H a (.tup xs)) : Rd H' a (.tup xs) := by
  rcases h with h | ⟨o, h⟩
  · exact .inl (e.tup _ _ h)
  · exact .inr ⟨o, e.frz _ _ _ h⟩
theorem Ed.sqt {K : PySem.W.Frag} {S : List Addr} {H H' : Hp} {a : Addr} {xs : List V} (e : Ed S H H') (h : SqT K H a xs) : SqT K H' a xs := by
  rcases h with h | h
  · exact .inl (e.rdt h)
  · exact .inr h
theorem Ed.sql {K : PySem.W.Frag} {S : List Addr} {H H' : Hp} {a : Addr} {xs : List V} (e : Ed S H H') (n : a ∉ S) (h : SqL K H a xs) : SqL K H' a xs := by
  rcases h with (h | ⟨o, h⟩) | h
  · exact .inl (.inl (e.keep _ _ n h))
  · exact .inl (.inr ⟨o, e.frz _ _ _ h⟩)
  · exact .inr h
theorem Ed.sql0 {K : PySem.W.Frag} {H H' : Hp} {a : Addr} {xs : List V} (e : Ed [] H H') (h : SqL K H a xs) : SqL K H' a xs := e.sql (fun z => nomatch z) h
theorem Ed.sql1 {K : PySem.W.Frag} {H H' : Hp} {a p : Addr} {xs : List V} (e : Ed [p] H H') (n : a ≠ p) (h : SqL K H a xs) : SqL K H' a xs := e.sql (fun z => n (List.mem_singleton.mp z)) h
/-- a list that is read; p holds no list -/
theorem Ed.sqlk {K : PySem.W.Frag} {H H' : Hp} {a p : Addr} {o : HO} {xs : List V} (e : Ed [p] H H') (hp : H p = some o) (n : ∀ ys, o ≠ .lst ys) (h : SqL K H a xs) : SqL K H' a xs := by
  rcases h with (h | ⟨ob, h⟩) | h
  · exact .inl (.inl (e.keep _ _ (fun z => by rw [List.mem_singleton.mp z, hp] at h; cases h; exact n xs rfl) h))
  · exact .inl (.inr ⟨ob, e.frz _ _ _ h⟩)
  · exact .inr h

/-! ### data stay -/
mutual
theorem Dp.ed {K : PySem.W.Frag} {S : List Addr} {H H' : Hp} (e : Ed S H H') (hS : ∀ a ∈ S, ∀ xs, H a ≠ some (.lst xs)) : ∀ (d : PyData) (v : V), Dp K H v d → Dp K H' v d
  | .none, _, h => by cases h; exact .non
  | .bool b, _, h => by cases h; exact .bl b
  | .int i, _, h => by cases h; exact .int i
  | .str x, _, h => by cases h; exact .str x
  | .list ds, _, h => by
    cases h with
    | lst ha hd =>
      refine .lst ?_ (Dp.edAll e hS ds _ hd)
      rcases ha with (ha | ⟨ob, ha⟩) | ha
      · exact .inl (.inl (e.keep _ _ (fun z => hS _ z _ ha) ha))
      · exact .inl (.inr ⟨ob, e.frz _ _ _ ha⟩)
      · exact .inr ha
  | .tuple ds, _, h => by
    cases h with
    | tup ha hd => exact .tup (e.sqt ha) (Dp.edAll e hS ds _ hd)
theorem Dp.edAll {K : PySem.W.Frag} {S : List Addr} {H H' : Hp} (e : Ed S H H') (hS : ∀ a ∈ S, ∀ xs, H a ≠ some (.lst xs)) : ∀ (ds : List PyData) (vs : List V), DpAll K H vs ds → DpAll K H' vs ds
  | [], _, h => by cases h; exact .nil
  | d :: ds, _, h => by
    cases h with
    | cons h1 h2 => exact .cons (Dp.ed e hS d _ h1) (Dp.edAll e hS ds _ h2)
end
theorem Dp.ed0 {K : PySem.W.Frag} {H H' : Hp} {d : PyData} {v : V} (e : Ed [] H H') (h : Dp K H v d) : Dp K H' v d := Dp.ed e (fun _ z => nomatch z) d v h

/-! ### readings, step by step: what is left is stated without its binders -/
section
variable {K : PySem.W.Frag} {σ : L2.St} {H : Hp} {D : Ends} {Q : VK} {QB : Bool → Hp → Prop} {QA : List V → Hp → Prop} {te ta tb : TE} {tt tu : TT} {t u : TS} {g : TG} {v x y : V} {i j : Int}
-- statements
theorem go_seq (h : t { D with nx := u D } σ H) : tSeq t u D σ H := h
theorem go_asg (h : te σ H fun x H1 => g x σ H1 D.nx) : tAsg te g D σ H := h
theorem go_drop (h : te σ H fun _ H1 => D.nx σ H1) : tDrop te D σ H := h
theorem go_ret (h : te σ H D.rt) : tRet te D σ H := h
theorem go_retN (h : D.rt .non H) : tRetN D σ H := h
theorem go_next (h : D.nx σ H) : tNext D σ H := h
theorem go_break (h : D.bk σ H) : tBreak D σ H := h
theorem go_cont (h : D.ct σ H) : tCont D σ H := h
theorem go_ifS (h : tt σ H fun b H1 => if b = true then t D σ H1 else u D σ H1) : tIfS tt t u D σ H := h
theorem go_name {n : Nat} {R : L2.St → Hp → Prop} (h : R (σ.set n (some v)) H) : gName n v σ H R := h
-- tests
theorem go_test (h : te σ H fun x H' => ∃ k, x = .bl k ∧ QB k H') : tTest te σ H QB := h
theorem go_B (h : te σ H fun x H' => ∃ k, x = .bl k ∧ QB k H') : tB te σ H QB := h
theorem go_bl {b : Bool} {R : Bool → Prop} (h : R b) : ∃ k, V.bl b = .bl k ∧ R k := ⟨b, rfl, h⟩
theorem go_notT (h : tt σ H fun c H1 => QB (!c) H1) : tNot tt σ H QB := h
theorem go_andT (h : tt σ H fun c H1 => if c = true then tu σ H1 QB else QB false H1) : tAnd tt tu σ H QB := h
theorem go_orT (h : tt σ H fun c H1 => if c = true then QB true H1 else tu σ H1 QB) : tOr tt tu σ H QB := h
theorem go_yes (h : QB true H) : tYes σ H QB := h
-- values
theorem go_var {n : Nat} (e : σ[n]? = some (some v)) (h : Q v H) : tVar n σ H Q := ⟨v, e, h⟩
theorem go_c (h : Q v H) : tC v σ H Q := h
theorem go_op {r : R2} (h : ta σ H fun x H1 => tb σ H1 fun y H2 => r x y H2 Q) : tOp r ta tb σ H Q := h
theorem go_un {r : V → Hp → VK → Prop} (h : ta σ H fun x H1 => r x H1 Q) : tUn r ta σ H Q := h
theorem go_andV (h : ta σ H fun x H1 => ∃ c, x = .bl c ∧ if c = true then tb σ H1 Q else Q (.bl false) H1) : tAndV ta tb σ H Q := h
theorem go_orV (h : ta σ H fun x H1 => ∃ c, x = .bl c ∧ if c = true then Q (.bl true) H1 else tb σ H1 Q) : tOrV ta tb σ H Q := h
theorem go_notV (h : ta σ H fun x H1 => ∃ c, x = .bl c ∧ Q (.bl (!c)) H1) : tNotV ta σ H Q := h
theorem go_blP {b : Bool} {P : Bool → Prop} (h : P b) : ∃ c, V.bl b = .bl c ∧ P c := ⟨b, rfl, h⟩
theorem go_if (h : tt σ H fun c H1 => if c = true then ta σ H1 Q else tb σ H1 Q) : tIf tt ta tb σ H Q := h
theorem go_I0 {f : Int → Int → V} (h : Q (f i j) H) : rI0 f (.int i) (.int j) H Q := ⟨i, j, rfl, rfl, h⟩
theorem go_I {C : Int → Int → Prop} {f : Int → Int → V} (hc : C i j) (h : Q (f i j) H) : rI C f (.int i) (.int j) H Q := ⟨i, j, rfl, rfl, hc, h⟩
theorem go_U {f : Int → V} (h : Q (f i) H) : rU f (.int i) H Q := ⟨i, rfl, h⟩
theorem go_eqI (h : Q (.bl (decide (i = j))) H) : rEq (.int i) (.int j) H Q := ⟨rfl, by
  have : decide (V.int i = V.int j) = decide (i = j) := by rw [Bool.eq_iff_iff]; simp
  rw [this]; exact h⟩
theorem go_neI (h : Q (.bl (!decide (i = j))) H) : rNe (.int i) (.int j) H Q := ⟨rfl, by
  have : decide (V.int i = V.int j) = decide (i = j) := by rw [Bool.eq_iff_iff]; simp
  rw [this]; exact h⟩
theorem go_eqS {a b : Str} (h : Q (.bl (decide (a = b))) H) : rEq (.str a) (.str b) H Q := ⟨rfl, by
  have : decide (V.str a = V.str b) = decide (a = b) := by rw [Bool.eq_iff_iff]; simp
  rw [this]; exact h⟩
theorem go_neS {a b : Str} (h : Q (.bl (!decide (a = b))) H) : rNe (.str a) (.str b) H Q := ⟨rfl, by
  have : decide (V.str a = V.str b) = decide (a = b) := by rw [Bool.eq_iff_iff]; simp
  rw [this]; exact h⟩
theorem go_eqB {a b : Bool} (h : Q (.bl (decide (a = b))) H) : rEq (.bl a) (.bl b) H Q := ⟨rfl, by
  have : decide (V.bl a = V.bl b) = decide (a = b) := by rw [Bool.eq_iff_iff]; simp
  rw [this]; exact h⟩
theorem go_neB {a b : Bool} (h : Q (.bl (!decide (a = b))) H) : rNe (.bl a) (.bl b) H Q := ⟨rfl, by
  have : decide (V.bl a = V.bl b) = decide (a = b) := by rw [Bool.eq_iff_iff]; simp
  rw [this]; exact h⟩
theorem go_eqg (hs : scal x y = true) (h : Q (.bl (decide (x = y))) H) : rEq x y H Q := ⟨hs, h⟩
theorem go_neg (hs : scal x y = true) (h : Q (.bl (!decide (x = y))) H) : rNe x y H Q := ⟨hs, h⟩
theorem go_cb {r : List V → Hp → VK → Prop} {ts : TA} (h : ts σ H fun vs H1 => r vs H1 Q) : tCB r ts σ H Q := h
theorem go_nil (h : QA [] H) : tNil σ H QA := h
theorem go_cons {tr : TA} (h : ta σ H fun x H1 => tr σ H1 fun xs H2 => QA (x :: xs) H2) : tCons ta tr σ H QA := h
theorem go_call {sp : Sp} {E : XK} {ts : TA} (h : ts σ H fun vs H1 => sp vs H1 Q E) : tCall sp [] E ts σ H Q := by
  unfold tCall
  simpa only [List.append_nil] using h
theorem go_tup {ts : TA} (h : ts σ H fun xs H1 => xs.length ≤ sizeLine ∧ ∀ p, H1 p = none → Q (.ref p) (upd H1 p (.tup xs))) : tTup ts σ H Q := h
theorem go_lst {ts : TA} (h : ts σ H fun xs H1 => xs.length ≤ sizeLine ∧ ∀ p, H1 p = none → Q (.ref p) (upd H1 p (.lst xs))) : tLst ts σ H Q := h
theorem go_len {xs : List V} {P : Prop} (hl : xs.length ≤ 1000) (h : P) : xs.length ≤ sizeLine ∧ P := ⟨Nat.le_of_lt (small1000 hl), h⟩
theorem go_dnew (h : ∀ p, H p = none → Q (.ref p) (upd H p (.dK []))) : tDNewK σ H Q := h
theorem go_dget (h : ta σ H fun x H1 => tb σ H1 fun y H2 => ∃ a v, x = .ref a ∧ DGet H2 a y (some v) ∧ Q v H2) : tDGet ta tb σ H Q := h
theorem go_dgetS {a : Addr} {k : Str} {kvs : List (Key × V)} {v : V} {R : V → Prop} (e : H a = some (.dK kvs)) (ev : valV kvs (.inr k) = some v) (h : R v) : ∃ a' v', V.ref a = .ref a' ∧ DGet H a' (.str k) (some v') ∧ R v' :=
  ⟨a, v, rfl, by rw [← ev]; exact DGet.k (k := .inr k) e, h⟩
theorem go_dgetI {a : Addr} {k : Int} {kvs : List (Key × V)} {v : V} {R : V → Prop} (e : H a = some (.dK kvs)) (ev : valV kvs (.inl k) = some v) (h : R v) : ∃ a' v', V.ref a = .ref a' ∧ DGet H a' (.int k) (some v') ∧ R v' :=
  ⟨a, v, rfl, by rw [← ev]; exact DGet.k (k := .inl k) e, h⟩
theorem go_din (h : ta σ H fun y H1 => tb σ H1 fun x H2 => ∃ a o, x = .ref a ∧ DGet H2 a y o ∧ Q (.bl o.isSome) H2) : tDIn ta tb σ H Q := h
theorem go_dnotin (h : ta σ H fun y H1 => tb σ H1 fun x H2 => ∃ a o, x = .ref a ∧ DGet H2 a y o ∧ Q (.bl (!o.isSome)) H2) : tDNotIn ta tb σ H Q := h
theorem go_dinI {a : Addr} {k : Int} {kvs : List (Key × V)} {P : Option V → Prop} (e : H a = some (.dK kvs)) (h : P (valV kvs (.inl k))) : ∃ a' o, V.ref a = .ref a' ∧ DGet H a' (.int k) o ∧ P o :=
  ⟨a, _, rfl, DGet.k (k := .inl k) e, h⟩
theorem go_dput {tv : TE} (h : tv σ H fun v H1 => ta σ H1 fun x H2 => tb σ H2 fun y H3 => ∃ a H4, x = .ref a ∧ DPut H3 a y v H4 ∧ D.nx σ H4) : sDPut ta tb tv D σ H := h
theorem go_dputS {a : Addr} {k : Str} {kvs : List (Key × V)} {v : V} {P : Hp → Prop} (e : H a = some (.dK kvs)) (hl : kvs.length ≤ 1000) (h : P (upd H a (.dK (putK kvs (.inr k) v)))) : ∃ a' H4, V.ref a = .ref a' ∧ DPut H a' (.str k) v H4 ∧ P H4 :=
  ⟨a, _, rfl, DPut.k (k := .inr k) e (small1000 hl), h⟩
theorem go_dputI {a : Addr} {k : Int} {kvs : List (Key × V)} {v : V} {P : Hp → Prop} (e : H a = some (.dK kvs)) (hl : kvs.length ≤ 1000) (h : P (upd H a (.dK (putK kvs (.inl k) v)))) : ∃ a' H4, V.ref a = .ref a' ∧ DPut H a' (.int k) v H4 ∧ P H4 :=
  ⟨a, _, rfl, DPut.k (k := .inl k) e (small1000 hl), h⟩
theorem go_ixL {p : Addr} {xs : List V} (hs : SqL K H p xs) (ha : atI xs i = some v) (h : Q v H) : rIxL K (.ref p) (.int i) H Q := ⟨p, xs, i, v, rfl, rfl, hs, ha, h⟩
theorem go_ixT {p : Addr} {xs : List V} (hs : SqT K H p xs) (ha : atI xs i = some v) (h : Q v H) : rIxT K (.ref p) (.int i) H Q := ⟨p, xs, i, v, rfl, rfl, hs, ha, h⟩
theorem go_ixS {z : Str} {c : Nat} (hz : z.length ≤ 1000) (ha : atI z.cps.toList i = some c) (h : Q (.str ⟨#[c]⟩) H) : rIxS (.str z) (.int i) H Q := ⟨z, i, c, rfl, rfl, Nat.le_of_lt (small1000 hz), ha, h⟩
theorem go_sl {r : V → Option Int → Option Int → Hp → VK → Prop} {tl th : TO} (h : te σ H fun x H1 => tl σ H1 fun l H2 => th σ H2 fun u H3 => r x l u H3 Q) : tSl r te tl th σ H Q := h
theorem go_nopart {QO : Option Int → Hp → Prop} (h : QO none H) : tNoPart σ H QO := h
theorem go_part {QO : Option Int → Hp → Prop} (h : te σ H fun x H1 => ∃ i, x = .int i ∧ QO (some i) H1) : tPart te σ H QO := h
theorem go_partI {P : Int → Prop} (h : P i) : ∃ j, V.int i = .int j ∧ P j := ⟨i, rfl, h⟩
theorem go_slL {p : Addr} {xs : List V} {lo hi : Option Int} (hs : SqL K H p xs) (h : ∀ q, H q = none → Q (.ref q) (upd H q (.lst (cutV xs lo hi)))) : rSlL K (.ref p) lo hi H Q := ⟨p, xs, rfl, hs, h⟩
theorem go_slS {z : Str} {lo hi : Option Int} (hz : z.length ≤ 1000) (h : Q (.str (cutS z lo hi)) H) : rSlS (.str z) lo hi H Q := ⟨z, rfl, Nat.le_of_lt (small1000 hz), h⟩
theorem go_abs {R : Int → Prop} (h : R i) : ∃ j, [V.int i] = [.int j] ∧ R j := ⟨i, rfl, h⟩
theorem go_int1 {R : Int → Prop} {R' : Bool → Prop} (h : R i) : (∃ j, [V.int i] = [.int j] ∧ R j) ∨ ∃ k, [V.int i] = [.bl k] ∧ R' k := .inl ⟨i, rfl, h⟩
theorem go_int1b {k : Bool} {R : Int → Prop} {R' : Bool → Prop} (h : R' k) : (∃ j, [V.bl k] = [.int j] ∧ R j) ∨ ∃ k', [V.bl k] = [.bl k'] ∧ R' k' := .inr ⟨k, rfl, h⟩
theorem go_bm {T : String} {r : V → List V → Hp → VK → Prop} {to : TE} {ts : TA} (h : to σ H fun x H1 => tyV K T x H1 ∧ ts σ H1 fun xs H2 => r x xs H2 Q) : tBM K T r to ts σ H Q := h
theorem go_bm0 {T : String} {r : V → List V → Hp → VK → Prop} {to : TE} (h : to σ H fun x H1 => tyV K T x H1 ∧ r x [] H1 Q) : tBM0 K T r to σ H Q := h
theorem go_tyL {p : Addr} {xs : List V} {P : Prop} (e : SqL K H p xs) (h : P) : tyV K "list" (.ref p) H ∧ P := ⟨.inl ⟨rfl, xs, e⟩, h⟩
theorem go_append {p : Addr} {xs : List V} (e : H p = some (.lst xs)) (hl : xs.length ≤ 1000) (h : Q .non (upd H p (.lst (xs ++ [v])))) : rAppend (.ref p) [v] H Q := ⟨p, xs, v, rfl, rfl, e, small1000 hl, h⟩
theorem go_lenL {p : Addr} {xs : List V} {R : List V → Prop} (e : SqL K H p xs) (h : R xs) : ∃ q ys, [V.ref p] = [.ref q] ∧ (SqL K H q ys ∨ SqT K H q ys) ∧ R ys := ⟨p, xs, rfl, .inl e, h⟩
theorem go_lenT {p : Addr} {xs : List V} {R : List V → Prop} (e : SqT K H p xs) (h : R xs) : ∃ q ys, [V.ref p] = [.ref q] ∧ (SqL K H q ys ∨ SqT K H q ys) ∧ R ys := ⟨p, xs, rfl, .inr e, h⟩
theorem go_for {wi : TI} (h : wi σ H fun J H1 => ∃ W : Nat → Nat → L2.St → Hp → Prop, (∃ m, W 0 m σ H1) ∧ ∀ i m σ H, W i m σ H →
  (J.stop i H ∧ D.nx σ H) ∨ (J.go i H ∧ ∃ N : L2.St → Hp → Prop, (∀ σ' H', N σ' H' → ∃ m', m' < m ∧ W (i + 1) m' σ' H') ∧ ∀ x H', J.yld i H x H' → g x σ H' fun σ2 H2 => t { D with nx := N, ct := N, bk := D.nx } σ2 H2)) : tFor wi g t D σ H := h
theorem go_iList {tl : TE} {R : It → Hp → Prop} (h : tl σ H fun x H1 => ∃ a, x = .ref a ∧ (∃ xs, SqL K H1 a xs) ∧ R (Itl K a) H1) : iList K tl σ H R := h
theorem go_iTup {tl : TE} {R : It → Hp → Prop} (h : tl σ H fun x H1 => ∃ a, x = .ref a ∧ (∃ xs, SqT K H1 a xs) ∧ R (Itt K a) H1) : iTup K tl σ H R := h
theorem go_iRng1 {ts : TA} {R : It → Hp → Prop} (h : ts σ H fun vs H1 => ∃ j : Int, vs = [.int j] ∧ -(2 ^ 62) ≤ j ∧ j < 2 ^ 62 ∧ R (Itr 0 j.toNat) H1) : iRng1 ts σ H R := h
theorem go_iRng2 {ts : TA} {R : It → Hp → Prop} (h : ts σ H fun vs H1 => ∃ i j : Int, vs = [.int i, .int j] ∧ (-(2 ^ 62) ≤ i ∧ i < 2 ^ 62 ∧ -(2 ^ 62) ≤ j ∧ j < 2 ^ 62) ∧ R (Itr i (j - i).toNat) H1) : iRng2 ts σ H R := h
theorem go_iStr {tl : TE} {R : It → Hp → Prop} (h : tl σ H fun v H1 => ∃ x, v = .str x ∧ R (Its x) H1) : iStr tl σ H R := h
theorem go_lc {wi : TI} {vs : List Nat} (h : wi σ H fun J H1 => ∀ D, H1 D = none → ∃ W : Nat → Nat → Hp → Prop, (∃ m, W 0 m (upd H1 D (.lst []))) ∧ ∀ i m H, W i m H →
  (J.stop i H ∧ Q (.ref D) H) ∨ (J.go i H ∧ ∃ Nx : Hp → Prop, (∀ H', Nx H' → ∃ m', m' < m ∧ W (i + 1) m' H') ∧ ∀ x H', J.yld i H x H' → g x (wipe σ vs) H' fun σ2 H2 => wipe σ2 vs = wipe σ vs ∧ tt σ2 H2 fun b H3 =>
    if b = true then te σ2 H3 fun y H4 => ∃ acc, H4 D = some (.lst acc) ∧ acc.length < sizeLine ∧ Nx (upd H4 D (.lst (acc ++ [y]))) else Nx H3)) : tLc wi g tt te vs σ H Q := h
/-- a comprehension over n turns that give items one by one: the new list's items so far are told by Pv -/
theorem lc_by {J : It} {n : Nat} {G : Hp → Prop} {Y : Nat → Hp → V → Hp → Prop} {vs : List Nat} {R : Addr → Hp → Prop} (w : Walk J n G Y) (Pv : Addr → Nat → Hp → Prop) (h0 : ∀ D H2, H D = none → Ed [] H H2 → H2 D = some (.lst []) → Pv D 0 H2) (hG : ∀ D i H', H D = none → i ≤ n → Pv D i H' → G H')
    (hs : ∀ D i x H1 H', H D = none → i < n → Pv D i H1 → Y i H1 x H' → g x (wipe σ vs) H' fun σ2 H2 => wipe σ2 vs = wipe σ vs ∧ tt σ2 H2 fun b H3 =>
      if b = true then te σ2 H3 fun y H4 => ∃ acc, H4 D = some (.lst acc) ∧ acc.length < sizeLine ∧ Pv D (i + 1) (upd H4 D (.lst (acc ++ [y]))) else Pv D (i + 1) H3) (hd : ∀ D H', H D = none → Pv D n H' → R D H') :
    ∀ D, H D = none → ∃ W : Nat → Nat → Hp → Prop, (∃ m, W 0 m (upd H D (.lst []))) ∧ ∀ i m H, W i m H →
      (J.stop i H ∧ R D H) ∨ (J.go i H ∧ ∃ Nx : Hp → Prop, (∀ H', Nx H' → ∃ m', m' < m ∧ W (i + 1) m' H') ∧ ∀ x H', J.yld i H x H' → g x (wipe σ vs) H' fun σ2 H2 => wipe σ2 vs = wipe σ vs ∧ tt σ2 H2 fun b H3 =>
        if b = true then te σ2 H3 fun y H4 => ∃ acc, H4 D = some (.lst acc) ∧ acc.length < sizeLine ∧ Nx (upd H4 D (.lst (acc ++ [y]))) else Nx H3) := fun D nD =>
  lc_it w (Pv D) (h0 D _ nD (Ed.new nD) upd_same) (fun i H' hi p => hG D i H' nD hi p) (fun i x H1 H' hi p y => hs D i x H1 H' nD hi p y) (fun H' p => hd D H' nD p)
/-- list(xs) -/
theorem go_listL {p : Addr} {xs : List V} {R : List V → Prop} (e : SqL K H p xs) (h : R xs) : ∃ q ys, [V.ref p] = [.ref q] ∧ (SqL K H q ys ∨ SqT K H q ys) ∧ R ys := ⟨p, xs, rfl, .inl e, h⟩
theorem go_disp {trs : List (TE × TE)} (h : ∀ p, H p = none → tPairs trs σ (upd H p (.dK [])) fun ps H2 => H2 p = some (.dK []) ∧ ∃ kvs : List (Key × V), ps = kvs.map (fun kv => (kV kv.1, kv.2)) ∧ kvs.length ≤ 15 ∧ Q (.ref p) (upd H2 p (.dK (mergeK [] kvs)))) : tDisp trs σ H Q := h
theorem go_pairs {tk tv : TE} {trs : List (TE × TE)} {R : List (V × V) → Hp → Prop} (h : tk σ H fun k H1 => tv σ H1 fun v H2 => tPairs trs σ H2 fun ps H3 => R ((k, v) :: ps) H3) : tPairs ((tk, tv) :: trs) σ H R := h
theorem go_pairs0 {R : List (V × V) → Hp → Prop} (h : R [] H) : tPairs [] σ H R := h
/-- a new object, by name -/
theorem alloc {p : Addr} {o : HO} {H2 : Hp} (hu : upd H p o = H2) (h : H p = none) : Ed [] H H2 ∧ H2 p = some o := by subst hu; exact ⟨Ed.new h, upd_same⟩
/-- an object changed, by name -/
theorem chg {p : Addr} {o u : HO} {H2 : Hp} (hu : upd H p o = H2) (h : H p = some u) (m : Mut (some u) := by trivial) : Ed [p] H H2 ∧ H2 p = some o := by subst hu; exact ⟨Ed.mut h m, upd_same⟩
-- ifs
theorem go_ite {c : Prop} [Decidable c] {A B : Prop} (h1 : c → A) (h2 : ¬ c → B) : if decide c = true then A else B := by
  by_cases h : c
  · rw [if_pos (decide_eq_true h)]; exact h1 h
  · rw [if_neg (fun z => h (of_decide_eq_true z))]; exact h2 h
theorem go_iten {c : Prop} [Decidable c] {A B : Prop} (h1 : ¬ c → A) (h2 : c → B) : if (!decide c) = true then A else B := by
  by_cases h : c
  · rw [decide_eq_true h]; exact iteF (h2 h)
  · rw [decide_eq_false h]; exact iteT (h1 h)
theorem go_iteb {b : Bool} {A B : Prop} (h1 : b = true → A) (h2 : b = false → B) : if b = true then A else B := by
  cases b with
  | true => exact iteT (h1 rfl)
  | false => exact iteF (h2 rfl)
theorem go_itebn {b : Bool} {A B : Prop} (h1 : b = false → A) (h2 : b = true → B) : if (!b) = true then A else B := by
  cases b with
  | true => exact iteF (h2 rfl)
  | false => exact iteT (h1 rfl)
end

/-! ### distinct places -/
theorem ne1 {H : Hp} {a b : Addr} {o : HO} (h' : H b = none) (h : H a = some o) : a ≠ b := ne_of_none h h'
theorem ne2 {H : Hp} {a b : Addr} {o : HO} (h' : H a = none) (h : H b = some o) : a ≠ b := (ne_of_none h h').symm
theorem nek {H : Hp} {a b : Addr} {o u : HO} (h : H a = some o) (h' : H b = some u) (d : o ≠ u) : a ≠ b := ne_of h h' d
theorem Ed.ex' {S : List Addr} {H H1 H2 : Hp} (b : Ed [] H1 H2) (a : Ed S H H1) : Ed S H H2 := a.ex b
theorem Ed.one' {S : List Addr} {H H1 H2 : Hp} {p : Addr} (b : Ed [p] H1 H2) (a : Ed S H H1) (h : p ∈ S ∨ H p = none) : Ed S H H2 := a.one b h
theorem Ed.two' {S : List Addr} {H H1 H2 : Hp} {p q : Addr} (b : Ed [p, q] H1 H2) (a : Ed S H H1) (h : p ∈ S ∨ H p = none) (h' : q ∈ S ∨ H q = none) : Ed S H H2 :=
  a.trans b fun x z => by
    rcases List.mem_cons.mp z with z | z
    · rw [z]; exact h
    · rw [List.mem_singleton.mp z]; exact h'
theorem Ed.back {S : List Addr} {H H' : Hp} {a : Addr} (e : Ed S H H') (h : H' a = none) : H a = none := e.dom a h
theorem sqt_of {K : PySem.W.Frag} {H : Hp} {a : Addr} {xs : List V} (h : H a = some (.tup xs)) : SqT K H a xs := .inl (.inl h)
theorem go_neL {α : Type} [DecidableEq α] {a : α} {A B : Prop} (h : B) : if (!decide (a = a)) = true then A else B := by rw [decide_eq_true rfl]; exact iteF h
theorem go_eqL {α : Type} [DecidableEq α] {a : α} {A B : Prop} (h : A) : if decide (a = a) = true then A else B := by rw [decide_eq_true rfl]; exact iteT h
theorem go_nT {A B : Prop} (h : B) : if (!true) = true then A else B := iteF h
theorem go_nF {A B : Prop} (h : A) : if (!false) = true then A else B := iteT h
theorem go_iteT' {c : Prop} [Decidable c] {A B : Prop} (hc : c) (h : A) : if decide c = true then A else B := by rw [decide_eq_true hc]; exact iteT h
theorem go_iteF' {c : Prop} [Decidable c] {A B : Prop} (hc : ¬ c) (h : B) : if decide c = true then A else B := by rw [decide_eq_false hc]; exact iteF h
theorem go_itenT' {c : Prop} [Decidable c] {A B : Prop} (hc : ¬ c) (h : A) : if (!decide c) = true then A else B := by rw [decide_eq_false hc]; exact iteT h
theorem go_itenF' {c : Prop} [Decidable c] {A B : Prop} (hc : c) (h : B) : if (!decide c) = true then A else B := by rw [decide_eq_true hc]; exact iteF h
theorem go_strE {z : Str} {R : Str → Prop} (h : R z) : ∃ x, V.str z = .str x ∧ R x := ⟨z, rfl, h⟩
theorem go_sign {c : Nat} {z : Str} {R : Nat → Str → Prop} (h : R c z) : ∃ c' z', V.str ⟨#[c]⟩ = .str ⟨#[c']⟩ ∧ V.str z = .str z' ∧ R c' z' := ⟨c, z, rfl, rfl, h⟩
theorem go_lenS {z : Str} {R : Str → Prop} (l : z.length ≤ 1000) (h : R z) : ∃ x, [V.str z] = [.str x] ∧ x.length ≤ sizeLine ∧ R x := ⟨z, rfl, Nat.le_of_lt (small1000 l), h⟩
/-! ### is None -/
theorem go_isN {R : Prop} (h : R) : V.non = V.non ∧ R := ⟨rfl, h⟩
theorem go_iteN {x : V} {A B : Prop} (hx : x ≠ .non) (h : B) : if decide (x = V.non) = true then A else B := by rw [decide_eq_false hx]; exact iteF h
theorem go_iteNT {A B : Prop} (h : A) : if decide (V.non = V.non) = true then A else B := iteT h
/-! ### isinstance -/
theorem kit_int_int : kitB "int" "int" = some true := by decide +kernel
theorem kit_int_bool : kitB "int" "bool" = some false := by decide +kernel
theorem kit_int_str : kitB "int" "str" = some false := by decide +kernel
theorem kit_int_tuple : kitB "int" "tuple" = some false := by decide +kernel
theorem kit_int_list : kitB "int" "list" = some false := by decide +kernel
theorem kit_int_dict : kitB "int" "dict" = some false := by decide +kernel
theorem kit_bool_int : kitB "bool" "int" = some true := by decide +kernel
theorem kit_bool_bool : kitB "bool" "bool" = some true := by decide +kernel
theorem kit_bool_str : kitB "bool" "str" = some false := by decide +kernel
theorem kit_bool_tuple : kitB "bool" "tuple" = some false := by decide +kernel
theorem kit_bool_list : kitB "bool" "list" = some false := by decide +kernel
theorem kit_bool_dict : kitB "bool" "dict" = some false := by decide +kernel
theorem kit_str_int : kitB "str" "int" = some false := by decide +kernel
theorem kit_str_bool : kitB "str" "bool" = some false := by decide +kernel
theorem kit_str_str : kitB "str" "str" = some true := by decide +kernel
theorem kit_str_tuple : kitB "str" "tuple" = some false := by decide +kernel
theorem kit_str_list : kitB "str" "list" = some false := by decide +kernel
theorem kit_str_dict : kitB "str" "dict" = some false := by decide +kernel
theorem kit_NoneType_int : kitB "NoneType" "int" = some false := by decide +kernel
theorem kit_NoneType_bool : kitB "NoneType" "bool" = some false := by decide +kernel
theorem kit_NoneType_str : kitB "NoneType" "str" = some false := by decide +kernel
theorem kit_NoneType_tuple : kitB "NoneType" "tuple" = some false := by decide +kernel
theorem kit_NoneType_list : kitB "NoneType" "list" = some false := by decide +kernel
theorem kit_NoneType_dict : kitB "NoneType" "dict" = some false := by decide +kernel
theorem kit_list_int : kitB "list" "int" = some false := by decide +kernel
theorem kit_list_bool : kitB "list" "bool" = some false := by decide +kernel
theorem kit_list_str : kitB "list" "str" = some false := by decide +kernel
theorem kit_list_tuple : kitB "list" "tuple" = some false := by decide +kernel
theorem kit_list_list : kitB "list" "list" = some true := by decide +kernel
theorem kit_list_dict : kitB "list" "dict" = some false := by decide +kernel
theorem kit_tuple_int : kitB "tuple" "int" = some false := by decide +kernel
theorem kit_tuple_bool : kitB "tuple" "bool" = some false := by decide +kernel
theorem kit_tuple_str : kitB "tuple" "str" = some false := by decide +kernel
theorem kit_tuple_tuple : kitB "tuple" "tuple" = some true := by decide +kernel
theorem kit_tuple_list : kitB "tuple" "list" = some false := by decide +kernel
theorem kit_tuple_dict : kitB "tuple" "dict" = some false := by decide +kernel
theorem kit_dict_int : kitB "dict" "int" = some false := by decide +kernel
theorem kit_dict_bool : kitB "dict" "bool" = some false := by decide +kernel
theorem kit_dict_str : kitB "dict" "str" = some false := by decide +kernel
theorem kit_dict_tuple : kitB "dict" "tuple" = some false := by decide +kernel
theorem kit_dict_list : kitB "dict" "list" = some false := by decide +kernel
theorem kit_dict_dict : kitB "dict" "dict" = some true := by decide +kernel
section
variable {K : PySem.W.Frag} {H : Hp} {Q : VK} {x : V}
theorem tyL {a : Addr} {xs : List V} (h : SqL K H a xs) : TyX K H (.ref a) (.type "list") := by
  rcases h with (h | ⟨o, h⟩) | ⟨o, _, _, h, c, _⟩
  · exact .base (.lst h)
  · exact .base (.frz h)
  · exact .kList h c
theorem tyT {a : Addr} {xs : List V} (h : SqT K H a xs) : TyX K H (.ref a) (.type "tuple") := by
  rcases h with (h | ⟨o, h⟩) | ⟨o, _, _, h, c, _⟩
  · exact .base (.tup h)
  · exact .fTuple h
  · exact .kTuple h c
theorem go_isi {n m : String} {b : Bool} (ht : TyX K H x (.type n)) (hk : kitB n m = some b) (h : Q (.bl b) H) : rIsi K [x, .ty m] H Q := ⟨x, .ty m, .type n, .type m, b, rfl, .ty m, ht, kit_ty hk, h⟩
theorem or_t {b : Bool} : (true || b) = true := rfl
theorem or_f {b : Bool} : (false || b) = b := rfl
theorem go_isiT2 {tp : Addr} {n m m' : String} {b b' c : Bool} (ht : TyX K H x (.type n)) (e : H tp = some (.tup [.ty m, .ty m'])) (hk : kitB n m = some b) (hk' : kitB n m' = some b') (hc : (b || b') = c) (h : Q (.bl c) H) : rIsiT K [x, .ref tp] H Q :=
  ⟨x, tp, _, .type n, [.type m, .type m'], b || b', rfl, e, .cons (.ty m) (.cons (.ty m') .nil), ht,
    kitAny_cons (kit_ty hk) (fun z => by subst z; exact kitAny_cons (kit_ty hk') (fun z => by subst z; exact kitAny_nil) fun z => by subst z; rfl) fun z => by subst z; rfl, by rw [hc]; exact h⟩
end
/-! ### slices -/
theorem cut_take (xs : List V) (k : Nat) : cutV xs none (some (k : Int)) = xs.take k := by
  unfold cutV
  rw [HT.sIx_nat, HT.sIx_none, List.drop_zero, Nat.sub_zero]
  rcases Nat.le_total k xs.length with h | h
  · rw [Nat.min_eq_left h]
  · rw [Nat.min_eq_right h, List.take_length, List.take_of_length_le h]
theorem cut_drop (xs : List V) (k : Nat) : cutV xs (some (k : Int)) none = xs.drop k := by
  unfold cutV
  rw [HT.sIx_nat, HT.sIx_none]
  rcases Nat.le_total k xs.length with h | h
  · rw [Nat.min_eq_left h, List.take_of_length_le (by rw [List.length_drop]; omega)]
  · rw [Nat.min_eq_right h, List.drop_of_length_le h, List.drop_length, List.take_nil]
theorem cut_mid (xs : List V) (j k : Nat) : cutV xs (some (j : Int)) (some (k : Int)) = (xs.drop j).take (k - j) := by
  unfold cutV
  rw [HT.sIx_nat, HT.sIx_nat]
  rcases Nat.le_total j xs.length with h | h
  · rw [Nat.min_eq_left h]
    rcases Nat.le_total k xs.length with h' | h'
    · rw [Nat.min_eq_left h']
    · rw [Nat.min_eq_right h', List.take_of_length_le (by rw [List.length_drop]; omega), List.take_of_length_le (by rw [List.length_drop]; omega)]
  · rw [Nat.min_eq_right h, List.drop_of_length_le h, List.drop_length, List.take_nil, List.take_nil]
/-! ### sizes -/
theorem mulw {i j : Int} (hi : i.natAbs < 2 ^ 200) (hj : j.natAbs < 2 ^ 200) : CMulW i j := wide_mul (a := 200) (b := 200) hi hj (by decide) (by decide) (by decide)
theorem divw {i j : Int} (h : 0 < j) (hj : j.natAbs < 2 ^ 200) : CDivW i j := wide_div (b := 200) h hj (by decide) (by decide)
end Vc

/-! Setn: len(set(xs)) of a list of pairwise different texts (my own; the way is HandS.Strs', which has at most one text). -/
namespace Setn
open PySem PySem.Spec PyProof.Rows L2
theorem getD_take {xs : List Str} {i : Nat} (h : i < xs.length) : xs.take (i + 1) = xs.take i ++ [xs.getD i Str.empty] := by
  rw [List.take_add_one, List.getElem?_eq_getElem h, List.getD_eq_getElem?_getD, List.getElem?_eq_getElem h]; rfl
theorem any_beq (l : List Str) (k : Str) : l.any (· == k) = decide (k ∈ l) := by
  rw [Bool.eq_iff_iff, List.any_eq_true, decide_eq_true_eq]
  constructor
  · rintro ⟨x, hx, e⟩
    have := eq_of_beq e
    subst this
    exact hx
  · exact fun h => ⟨k, h, beq_self_eq_true k⟩
theorem notin_take {xs : List Str} (nd : xs.Nodup) {i : Nat} (h : i < xs.length) : (xs.take i).any (· == xs.getD i Str.empty) = false := by
  rw [any_beq, decide_eq_false_iff_not]; intro hm
  obtain ⟨j, hj, e⟩ := List.getElem_of_mem hm
  rw [List.length_take] at hj
  rw [List.getElem_take, List.getD_eq_getElem?_getD, List.getElem?_eq_getElem h] at e
  have := (List.getElem_inj nd).mp e
  omega
section
variable {prog : Program} {w : World} {A : Around} {R : Result → Shared → Prop} {I : Addr} {fp wr : List Addr} {G : Array GenState → Array GenState → Prop} {n : Nat} {P : Nat → Value → Prop} {St : Nat → Shared → Prop}
/-- the set's own loop over different texts -/
theorem loopD (W : WalksS prog w A.in1 I fp wr G n P St) (S : Addr) (hSf : S ∉ fp) (xs : List Str) (hsz : xs.length = n) (nd : xs.Nodup) (hn : n + 1 < scanBound)
    (hval : ∀ i v, P i v → ∃ t, v = .str (xs.getD i Str.empty) t) : ∀ (k i : Nat) (s : Shared), n - i = k → i ≤ n → St i s → s.heap.SetOf (PySem.strKind prog w) S (fun k' => (xs.take i).any (· == k')) i →
      (∀ s', Moved (S :: wr) G s s' → s'.heap.SetOf (PySem.strKind prog w) S (fun k' => (xs.take n).any (· == k')) n → R (.ok (.ret .none)) s') → codeAny (model prog w) A (.builtin "set.update.loop" ⟨[.ref S, .ref I], []⟩) R s := by
  have nw : S ∉ wr := fun h => hSf (W.sub _ h)
  have sw : ∀ b ∈ wr, b ∈ S :: wr := fun b hb => List.mem_cons_of_mem _ hb
  intro k
  induction k with
  | zero =>
    intro i s hk hi st hS hR
    obtain rfl : i = n := by omega
    refine codeAny_builtin F.entry_set_update_loop ?_
    rw [Around.under_plainId F.plain_set_update_loop _]; show wpAny _ A.in1 (pyNext (.ref I) >>= _) _ _ s
    refine wpAny_bind (W.done s _ _ st fun s' hm => ?_); show wpAny _ A.in1 (ret Value.none) _ _ s'
    refine wpAny_pure (hR s' (hm.mono sw) ?_)
    obtain ⟨o, es, ep, t, ho, rest⟩ := hS; exact ⟨o, es, ep, t, hm.heap S _ nw ho, rest⟩
  | succ k ih =>
    intro i s hk hi st hS hR
    have lt : i < n := by omega
    refine codeAny_builtin F.entry_set_update_loop ?_
    rw [Around.under_plainId F.plain_set_update_loop _]; show wpAny _ A.in1 (pyNext (.ref I) >>= _) _ _ s
    refine wpAny_bind (W.item i s _ _ lt st fun v s' hP st' hm => ?_); obtain ⟨t, rfl⟩ := hval i v hP
    have hS' : s'.heap.SetOf (PySem.strKind prog w) S (fun k' => (xs.take i).any (· == k')) i := by
      obtain ⟨o, es, ep, tb, ho, rest⟩ := hS; exact ⟨o, es, ep, tb, hm.heap S _ nw ho, rest⟩
    show wpAny _ A.in1 (holding [Value.str (xs.getD i Str.empty) t] (setAdd S (.str (xs.getD i Str.empty) t)) >>= _) _ _ s'
    refine wpAny_bind (wpAny_holding ?_); unfold setAdd; refine wpAny_holding ?_
    refine wpAny_bind ((PySem.strKind prog w).pyHash (k := xs.getD i Str.empty) (strKind_is _ _ _ _) ?_)
    refine wpAny_setAddHashed_of (knd := PySem.strKind prog w) (s := { s' with toks := s'.toks + 1 }) (strKind_is _ _ _ _) rfl hS' (by omega) fun h' sb hS2 => ?_
    rw [notin_take nd (by omega), if_neg (by decide)] at hS2
    have hS3 : h'.SetOf (PySem.strKind prog w) S (fun k' => (xs.take (i + 1)).any (· == k')) (i + 1) := SetOf_congr hS2 (fun k' => by
      rw [getD_take (by omega), List.any_append]
      congr 1
      rw [any_beq, Bool.eq_iff_iff]; simp) rfl
    refine wpAny_pure ⟨plainId_quiet F.plain_set_update_loop _, ih (i + 1) _ (by omega) lt (W.frame _ s' _ _ st' (Nat.le_succ _) fun b hb o e => ?_) hS3 fun s'' hm'' hS'' => ?_⟩
    · rw [sb.2 b (fun h : b = S => hSf (h ▸ hb))]; exact e
    · refine hR s'' (Moved.trans W.gtrans ((hm.mono sw).then_heap (Nat.le_succ _) fun b o hb e => ?_) hm'') hS''
      rw [sb.2 b (fun h : b = S => hb (h ▸ List.mem_cons_self))]; exact e
end
abbrev setO (led : Bool) : Obj := { cls := .type "set", dict := none, data := .set #[] 0 (.fresh 0 0 led) }
section
variable {prog : Program} {w : World} {A : Around} {E : Value → Shared → Prop} {s : Shared}
theorem call_setD {l : Addr} {items : Array Value} {xs : List Str} {Q : Value → Shared → Prop} (hh : A.handled = none) (hl : s.heap.IsList l items) (hi : StrsAre items.toList xs) (nd : xs.Nodup) (hn1 : xs.length + 1 < scanBound)
    (h : ∀ (h' : Heap) (tk : Nat), h'.SetOf (PySem.strKind prog w) s.heap.objs.size (fun k' => (xs.take items.size).any (· == k')) items.size → (∀ b o, b < s.heap.objs.size → s.heap.get? b = some o → h'.get? b = some o) → Q (.ref s.heap.objs.size) { s with heap := h', toks := tk }) :
    wpAny (model prog w) A (call (.type "set") [.ref l]) Q E s := by
  obtain ⟨c, tl, hmro⟩ := PySem.F.called_set.mro
  have hmade := PySem.F.called_set.made; have hsub := PySem.F.called_set.sub
  refine wpAny_call (codeAny_of_tree ?_); show wpAny _ _ (callAny (.type "set") _) _ _ _
  refine wpAny_pure ⟨Code.quiet_builtin _ (by decide +kernel), codeAny_builtin PySem.F.entry_type_call ?_⟩; rw [Around.under_plain (weight_type_call_type "set" [.ref l] []) rfl]
  have h1 := PySem.F.called_set.notType; have h2 := PySem.F.called_set.canCreate; have hct := PySem.F.typeCall_set_1 (.ref l)
  repeat (any_goals (first | assumption | wp_step))
  refine codeAny_mono (code_set_new_1 (.ref l) (E := E) (Q₁ := fun obj s₁ => ∃ led : Bool, obj = .ref s.heap.objs.size ∧ s₁ = { s with heap := s.heap.push (setO led) }) fun led => ⟨led, rfl, rfl⟩) fun r s₁ hr => ?_
  cases r with
  | error e => exact hr
  | ok fl =>
    cases fl with
    | ret obj =>
      obtain ⟨led, rfl, rfl⟩ := hr
      have hS : (s.heap.push (setO led)).get? s.heap.objs.size = some (setO led) := Heap.get?_push_size _ rfl
      have hT : Shared.TypeIs { s with heap := s.heap.push (setO led) } (.ref s.heap.objs.size) "set" := ⟨_, hS, rfl⟩
      have hli := PySem.F.called_set.init.lookup; have hbi := PySem.F.called_set.init.bind (.ref s.heap.objs.size)
      repeat (any_goals (first | assumption | wp_step))
      refine codeAny_mono (codeAny_call_builtin (R := wants (fun r s₂ => r = .none ∧ ∃ h' tk, s₂ = { s with heap := h', toks := tk } ∧ h'.SetOf (PySem.strKind prog w) s.heap.objs.size (fun k' => (xs.take items.size).any (· == k')) items.size ∧
          (∀ b o, b < s.heap.objs.size → s.heap.get? b = some o → h'.get? b = some o)) E) PySem.F.called_set.init.plain PySem.F.entry_set_init (check_set_init_1 hT ?_)) fun r₂ s₂ hr₂ => ?_
      · obtain ⟨ol, hol, hcl, nl, hdl⟩ := hl
        obtain ⟨ocls, odict, odata, oslots⟩ := ol
        simp only at hcl hdl; subst hcl; subst hdl
        have hol' : (s.heap.push (setO led)).get? l = some { cls := .type "list", dict := odict, data := .seq items nl, slots := oslots } := Heap.get?_push_of_some _ hol
        have hsls := PySem.F.sub_list_set; have hslf := PySem.F.sub_list_frozenset
        have hne : (Value.type "list" == Value.type "dict") = false := by decide
        have hl1 : (s.heap.push (setO led)).IsList l items := ⟨_, hol', rfl, nl, rfl⟩
        unfold Builtin.«set.__init__» noKeywords Builtin.Frozenset.updateFrom
        generalize hPI : pyIter = PI
        wp_walk
        subst hPI
        refine wpAny_pyIter_list hl1 ?_; refine wpAny_bind (wpAny_runValue ?_)
        have ll : l < s.heap.objs.size := Heap.lt_size hol
        have h3 : A.in1.in1.in1.handled = none := by simp [hh]
        have nI : l ≠ (s.heap.push (setO led)).objs.size := by rw [Heap.size_push]; exact Nat.ne_of_lt (Nat.lt_succ_of_lt ll)
        have hSf : s.heap.objs.size ∉ [(s.heap.push (setO led)).objs.size, l] := by
          rw [Heap.size_push]; simp only [List.mem_cons, List.not_mem_nil, or_false, not_or]; exact ⟨Nat.ne_of_lt (Nat.lt_succ_self _), Nat.ne_of_gt ll⟩
        have hsz : xs.length = items.size := by rw [← StrsAre.len_eq hi, Array.length_toList]
        have hval : ∀ (i : Nat) (v : Value), items[i]? = some v → ∃ t, v = .str (xs.getD i Str.empty) t := fun i v hv => SS.strs_at hi i v (by rw [Array.getElem?_toList]; exact hv)
        refine loopD ((Walks.list h3 _ l nI items).toS) s.heap.objs.size hSf xs hsz nd (by rw [← hsz]; exact hn1) hval (items.size - 0) 0 _ (by omega) (Nat.zero_le _) ⟨⟨_, Heap.get?_push_size _ rfl, rfl, rfl⟩, (hl1.push _)⟩ ?hS0 ?hR
        case hS0 =>
          have hget : ((s.heap.push (setO led)).push { cls := .type "list_iterator", data := .fields #[.ref l, .int 0 0] }).get? s.heap.objs.size = some (setO led) := Heap.get?_push_of_some _ hS
          exact SetOf_congr ((setObjOf_fresh (knd := PySem.strKind prog w) led).setOf hget (by unfold scanBound; omega)) (fun _ => rfl) rfl
        case hR =>
          intro s' hm hS'
          obtain ⟨h', g', d', tk', os'⟩ := s'
          obtain rfl : g' = s.gens := hm.gens
          obtain rfl : d' = s.drawn := hm.drawn
          obtain rfl : os' = s.os := hm.os
          show wpAny _ _ _ _ _ _; refine wpAny_pure ?_; show wpAny _ _ (ret Value.none) _ _ _
          refine wpAny_pure ⟨rfl, h', tk', rfl, hS', fun b o hb e => ?_⟩
          have b1 : b ≠ s.heap.objs.size := Nat.ne_of_lt hb
          have b2 : b ≠ (s.heap.push (setO led)).objs.size := by rw [Heap.size_push]; exact Nat.ne_of_lt (Nat.lt_succ_of_lt hb)
          exact hm.heap b o (by simp only [List.mem_cons, List.not_mem_nil, or_false, not_or]; exact ⟨b1, b2⟩) (Heap.get?_push_of_some _ (Heap.get?_push_of_some _ e))
      · cases r₂ with
        | error e => exact hr₂
        | ok fl₂ =>
          cases fl₂ with
          | ret r =>
            obtain ⟨rfl, h', tk, rfl, hS', hk'⟩ := hr₂
            repeat (any_goals (first | assumption | wp_step))
            exact h _ _ hS' hk'
          | _ => exact hr₂.elim
    | _ => exact hr.elim
end
/-- len(set(xs)) of different texts -/
def tLenSetN (K : PySem.W.Frag) (ta : TE) : TE := fun σ H Q => ta σ H fun x H1 => ∃ l, ∃ xs : List Str, x = .ref l ∧ SqL K H1 l (xs.map V.str) ∧ xs.Nodup ∧ xs.length ≤ 1000 ∧ Q (.int xs.length) H1
section
variable {X : Cx}
theorem pe_lenSetN {a : Expr} {ta : TE} {p p2 q pos : Pos} (hc : X.calm = true) (hg : Gl X "len") (hm : X.mg "len" = none) (hg2 : Gl X "set") (hm2 : X.mg "set" = none) (ha : PE X a ta) (na : starEach [a] X.env = (false, eval a X.env) :: starEach [] X.env := by rfl) :
    PE X (.Call (.Name "len" p) [.Call (.Name "set" p2) [a] [] q] [] pos) (tLenSetN X.K ta) := by
  refine ⟨fun pins s σ H Q I h => ?_⟩
  refine Call_ (ld_blt I hg hm boot_len ?_); refine PyProof.Rows.callWith_builtin1 (PyProof.Rows.args_cons ?_ rfl) rfl rfl
  refine Call_ (ld_blt I hg2 hm2 boot_set ?_)
  refine PyProof.Rows.callWith_type1 (PyProof.Rows.args_cons (thn (ha.run pins s σ H _ I h) fun v s1 ⟨x, H1, I1, r1, q1⟩ => PyProof.Rows.args_nil ?_) na) na rfl
  obtain ⟨l, xs, rfl, hq, nd, hz, q1⟩ := q1
  cases r1
  obtain ⟨its, r, pl, _⟩ := I1.list hq
  have hl : its.toArray.size = xs.length := by rw [List.size_toArray, ← r.length, List.length_map]
  refine call_setD (I1.ok.hd hc) pl.isList (by simpa using strsAre_of r) nd (by unfold scanBound; omega) fun h' tk hS hk => ?_
  refine PyProof.Rows.args_nil ?_
  rw [hl] at hS
  obtain ⟨o, es, ep, t, ho, hex, hd, _, _, _, hf, hn⟩ := hS
  have I2 : Inv X pins σ H1 { s1 with heap := h', toks := tk } := I1.kept fun b o e => hk b o (Heap.lt_size e) e
  exact call_len_set ho hex hd hf (by rw [hn] <;> omega) ⟨.int xs.length, H1, I2.tok _, ⟨_, by rw [hn]⟩, q1⟩
end
end Setn

/-! Vk: further readings by name: chains, classes' constants, fields, new instances, locked dicts, sorted. -/
namespace Vc
open PySem PySem.Spec PyProof.Rows L2
/-- a reading within a comprehension, told without the comprehension's own frame -/
theorem blkE {Y : Cx} {e : Expr} {t' t : TE} (h : PE Y e t') (q : t' = t) : PE Y e t := q ▸ h
theorem blkT {Y : Cx} {e : List Expr} {t' t : TT} (h : PTs Y e t') (q : t' = t) : PTs Y e t := q ▸ h
section
variable {K : PySem.W.Frag} {σ : L2.St} {H : Hp} {D : Ends} {Q : VK} {te ta tb tc tv : TE} {f : Str} {v x y : V} {i j : Int} {ts : TA} {g : TG} {t : TS} {tt : TT}
theorem go_chain {r r' : R2} (h : ta σ H fun x H1 => tb σ H1 fun y H2 => r x y H2 fun z H3 => ∃ k, z = .bl k ∧ (if k = true then tc σ H3 fun w' H4 => r' y w' H4 Q else Q (.bl false) H3)) : tChain r r' ta tb tc σ H Q := h
theorem go_cvalR (h : ta σ H fun x H1 => ∃ C mc v u, x = .ref C ∧ ClX.CRead K C mc ∧ ClX.CVal K C mc f v u ∧ Q v H1) : ClX.tCVal K ta f σ H Q := h
theorem go_cval {C : Addr} {mc u : Value} {R : V → Prop} (hr : ClX.CRead K C mc) (hv : ClX.CVal K C mc f v u) (h : R v) : ∃ C' mc' v' u', V.ref C = .ref C' ∧ ClX.CRead K C' mc' ∧ ClX.CVal K C' mc' f v' u' ∧ R v' := ⟨C, mc, v, u, rfl, hr, hv, h⟩
theorem go_fld (h : ta σ H fun x H1 => ∃ a C dx fs v, x = .ref a ∧ H1 a = some (.ins C dx fs) ∧ Cls K C ∧ NoAttr K C f ∧ fs.lookup f = some v ∧ Q v H1) : tFld K ta f σ H Q := h
theorem go_fldV {a C dx : Addr} {fs : List (Str × V)} {R : V → Prop} (e : H a = some (.ins C dx fs)) (hl : fs.lookup f = some v) (c : Cls K C) (n : NoAttr K C f) (h : R v) :
    ∃ a' C' dx' fs' v', V.ref a = .ref a' ∧ H a' = some (.ins C' dx' fs') ∧ Cls K C' ∧ NoAttr K C' f ∧ fs'.lookup f = some v' ∧ R v' := ⟨a, C, dx, fs, v, rfl, e, c, n, hl, h⟩
theorem go_sfld (h : tv σ H fun y H1 => ta σ H1 fun x H2 => ∃ a C dx fs, x = .ref a ∧ H2 a = some (.ins C dx fs) ∧ Cls K C ∧ NoAttr K C f ∧ fs.length < 1000 ∧ D.nx σ (upd H2 a (.ins C dx (putF f y fs)))) : sFld K ta tv f D σ H := h
theorem go_sfldV {a C dx : Addr} {fs : List (Str × V)} {R : Hp → Prop} (e : H a = some (.ins C dx fs)) (l : fs.length < 1000) (c : Cls K C) (n : NoAttr K C f) (h : R (upd H a (.ins C dx (putF f v fs)))) :
    ∃ a' C' dx' fs', V.ref a = .ref a' ∧ H a' = some (.ins C' dx' fs') ∧ Cls K C' ∧ NoAttr K C' f ∧ fs'.length < 1000 ∧ R (upd H a' (.ins C' dx' (putF f v fs'))) := ⟨a, C, dx, fs, rfl, e, c, n, l, h⟩
theorem go_make {C : Addr} {sp : Sp} {E : XK} (h : ts σ H fun vs H1 => ∀ x dx, H1 x = none → H1 dx = none → dx ≠ x → sp (.ref x :: vs) (upd (upd H1 dx (.own x)) x (.ins C dx [])) (fun v H2 => v = .non ∧ Q (.ref x) H2) E) : tMake C sp [] E ts σ H Q := by
  unfold tMake
  simpa only [List.append_nil] using h
theorem go_meth {C : Addr} {m : Str} {sp : Sp} {E : XK} (h : ta σ H fun x H1 => ∃ a dx fs, x = .ref a ∧ H1 a = some (.ins C dx fs) ∧ fs.lookup m = none ∧ ts σ H1 fun vs H2 => sp (x :: vs) H2 Q E) : tMeth C m sp [] E ta ts σ H Q := by
  unfold tMeth
  simpa only [List.append_nil] using h
theorem go_methV {a C dx : Addr} {fs : List (Str × V)} {m : Str} {R : Prop} (e : H a = some (.ins C dx fs)) (l : fs.lookup m = none) (h : R) : ∃ a' dx' fs', V.ref a = .ref a' ∧ H a' = some (.ins C dx' fs') ∧ fs'.lookup m = none ∧ R := ⟨a, dx, fs, rfl, e, l, h⟩
/-- a new instance, by name -/
theorem allocI {C p dx : Addr} {H2 : Hp} (hu : upd (upd H dx (.own p)) p (.ins C dx []) = H2) (np : H p = none) (nd : H dx = none) (ne : dx ≠ p) : Ed [] H H2 ∧ H2 p = some (.ins C dx []) ∧ H2 dx = some (.own p) := by
  subst hu
  have n1 : (upd H dx (.own p)) p = none := by rw [upd_ne ne.symm]; exact np
  exact ⟨(Ed.new nd).ex (Ed.new n1), upd_same, by rw [upd_ne ne]; exact upd_same⟩
theorem go_dgetIF {a : Addr} {k : Int} {o : Obj} {kvs : List (Key × V)} {R : V → Prop} (e : H a = some (.frz o (.dK kvs))) (ev : valV kvs (.inl k) = some v) (h : R v) : ∃ a' v', V.ref a = .ref a' ∧ DGet H a' (.int k) (some v') ∧ R v' :=
  ⟨a, v, rfl, .inl ⟨kvs, .inl k, .inr ⟨o, e⟩, rfl, ev.symm⟩, h⟩
theorem go_sorted {a : Addr} {ns : List Int} (e : SqL K H a (ns.map V.int)) (l : ns.length < 64) (h : ∀ (ns' : List Int) (p : Addr), ns'.Perm ns → ns'.Pairwise (· ≤ ·) → H p = none → Q (.ref p) (upd H p (.lst (ns'.map V.int)))) : rSorted K [.ref a] H Q := ⟨a, ns, rfl, e, l, h⟩
theorem go_listD {a : Addr} {kvs : List (Key × V)} (e : H a = some (.dK kvs)) (h : ∀ q, H q = none → Q (.ref q) (upd H q (.lst (kvs.map fun kv => kV kv.1)))) : rListD [.ref a] H Q := ⟨a, kvs, rfl, e, h⟩
theorem go_lenD {a : Addr} {kvs : List (Key × V)} {R : List (Key × V) → Prop} (e : H a = some (.dK kvs)) (h : R kvs) : ∃ b ls, [V.ref a] = [V.ref b] ∧ H b = some (.dK ls) ∧ R ls := ⟨a, kvs, rfl, e, h⟩
theorem go_lenSet (h : ta σ H fun x H1 => ∃ l, ∃ xs : List Str, x = .ref l ∧ SqL K H1 l (xs.map V.str) ∧ xs.Nodup ∧ xs.length ≤ 1000 ∧ Q (.int xs.length) H1) : Setn.tLenSetN K ta σ H Q := h
theorem go_lenSetV {a : Addr} {xs : List Str} {R : List Str → Prop} (e : SqL K H a (xs.map V.str)) (nd : xs.Nodup) (l : xs.length ≤ 1000) (h : R xs) : ∃ l', ∃ ys : List Str, V.ref a = .ref l' ∧ SqL K H l' (ys.map V.str) ∧ ys.Nodup ∧ ys.length ≤ 1000 ∧ R ys := ⟨a, xs, rfl, e, nd, l, h⟩
theorem go_in {a : Addr} {neg : Bool} {xs : List V} (e : SqL K H a xs ∨ SqT K H a xs) (hx : flatV x = true) (hf : xs.all flatV = true) (h : Q (.bl (if neg then !inV x xs else inV x xs)) H) : rIn K neg x (.ref a) H Q := ⟨a, xs, rfl, e, hx, hf, h⟩
theorem go_inL {a : Addr} {xs : List V} (e : SqL K H a xs) (hx : flatV x = true) (hf : xs.all flatV = true) (h : Q (.bl (inV x xs)) H) : rIn K false x (.ref a) H Q := go_in (neg := false) (.inl e) hx hf h
theorem go_inT {a : Addr} {xs : List V} (e : SqT K H a xs) (hx : flatV x = true) (hf : xs.all flatV = true) (h : Q (.bl (inV x xs)) H) : rIn K false x (.ref a) H Q := go_in (neg := false) (.inr e) hx hf h
theorem go_niL {a : Addr} {xs : List V} (e : SqL K H a xs) (hx : flatV x = true) (hf : xs.all flatV = true) (h : Q (.bl (!inV x xs)) H) : rIn K true x (.ref a) H Q := go_in (neg := true) (.inl e) hx hf h
theorem go_niT {a : Addr} {xs : List V} (e : SqT K H a xs) (hx : flatV x = true) (hf : xs.all flatV = true) (h : Q (.bl (!inV x xs)) H) : rIn K true x (.ref a) H Q := go_in (neg := true) (.inr e) hx hf h
theorem go_dc {wi : TI} {tk : TE} {vs : List Nat} (h : wi σ H fun J H1 => ∀ D, H1 D = none → ∃ W : Nat → Nat → Hp → Prop, (∃ m, W 0 m (upd H1 D (.dK []))) ∧ ∀ i m H, W i m H →
  (J.stop i H ∧ Q (.ref D) H) ∨ (J.go i H ∧ ∃ Nx : Hp → Prop, (∀ H', Nx H' → ∃ m', m' < m ∧ W (i + 1) m' H') ∧ ∀ x H', J.yld i H x H' → g x (wipe σ vs) H' fun σ2 H2 => wipe σ2 vs = wipe σ vs ∧ tt σ2 H2 fun b H3 =>
    if b = true then tk σ2 H3 fun y H4 => tv σ2 H4 fun z H5 => ∃ kvs k, y = kV k ∧ H5 D = some (.dK kvs) ∧ kvs.length < sizeLine ∧ Nx (upd H5 D (.dK (putK kvs k z))) else Nx H3)) : tDc wi g tt tk tv vs σ H Q := h
theorem go_aug {n : Nat} {ti : TIp} {x : V} (e : σ[n]? = some (some x)) (h : te σ H fun y H1 => ti x y H1 fun z H2 => D.nx (σ.set n (some z)) H2) : tAug n te ti D σ H := ⟨x, e, h⟩
theorem go_ipI {f : Int → Int → Int} (h : Q (.int (f i j)) H) : ipI f (.int i) (.int j) H Q := ⟨i, j, rfl, rfl, h⟩
theorem go_addS {a b : Str} {R : Str → Str → Prop} (l : a.length + b.length ≤ 1000) (h : R a b) : ∃ i j, V.str a = .str i ∧ V.str b = .str j ∧ i.length + j.length ≤ sizeLine ∧ R i j := ⟨a, b, rfl, rfl, Nat.le_of_lt (small1000 l), h⟩
theorem go_M1 {r : V → List V → Hp → VK → Prop} (h : ta σ H fun x H1 => (∃ a, x = .str a) ∧ tb σ H1 fun y H2 => r x [y] H2 Q) : tM1 r ta tb σ H Q := h
theorem go_M0 {r : V → List V → Hp → VK → Prop} (h : ta σ H fun x H1 => (∃ a, x = .str a) ∧ r x [] H1 Q) : tM0 r ta σ H Q := h
theorem go_isS {z : Str} {R : Prop} (h : R) : (∃ a, V.str z = .str a) ∧ R := ⟨⟨z, rfl⟩, h⟩
theorem go_join {a : Str} {p : Addr} {ys : List Str} {R : Str → List Str → Prop} (e : SqL K H p (ys.map V.str)) (l : (ys.map (·.length)).sum + ys.length * a.length ≤ 16777216) (h : R a ys) :
    ∃ a' p', ∃ zs : List Str, V.str a = .str a' ∧ [V.ref p] = [.ref p'] ∧ (SqL K H p' (zs.map V.str) ∨ SqT K H p' (zs.map V.str)) ∧ (zs.map (·.length)).sum + zs.length * a'.length ≤ 16777216 ∧ R a' zs := ⟨a, p, ys, rfl, rfl, .inl e, l, h⟩
theorem go_sub {to ti : TE} {ts : TSet} {R : L2.St → Hp → Prop} (h : to σ H fun o H1 => ti σ H1 fun i H2 => ts o i v H2 fun H3 => R σ H3) : gSub to ti ts v σ H R := h
theorem go_setL {p : Addr} {xs : List V} {k : Int} {j : Nat} {R : Hp → Prop} (e : H p = some (.lst xs)) (hj : ixN xs.length k = some j) (h : R (upd H p (.lst (xs.set j v)))) : rSetL (.ref p) (.int k) v H R := ⟨p, xs, k, j, rfl, rfl, e, hj, h⟩
theorem go_tupL {p : Addr} {xs : List V} {R : Addr → Hp → Prop} (e : SqL K H p xs) (h : ∀ l, H l = none → R l (upd H l (.tup xs))) : ∃ p' ys, [V.ref p] = [.ref p'] ∧ ((SqL K H p' ys ∧ ∀ l, H l = none → R l (upd H l (.tup ys))) ∨ (SqT K H p' ys ∧ R p' H)) := ⟨p, xs, rfl, .inl ⟨e, h⟩⟩
theorem at_m1 {xs : List V} (h : xs[xs.length - 1]? = some v) : atI xs (-1) = some v := by
  have h0 : 0 < xs.length := by
    rcases Nat.eq_zero_or_pos xs.length with e | e
    · rw [List.eq_nil_of_length_eq_zero e] at h; cases h
    · exact e
  unfold atI ixN
  rw [if_neg (by omega), if_pos (by omega)]
  have : (-1 + (xs.length : Int)).toNat = xs.length - 1 := by omega
  show xs[(-1 + (xs.length : Int)).toNat]? = some v
  rw [this]; exact h
/-- a dict comprehension over n turns that give items one by one -/
theorem dc_by {J : It} {n : Nat} {G : Hp → Prop} {Y : Nat → Hp → V → Hp → Prop} {tk : TE} {vs : List Nat} {R : Addr → Hp → Prop} (w : Walk J n G Y) (Pv : Addr → Nat → Hp → Prop) (h0 : ∀ D H2, H D = none → Ed [] H H2 → H2 D = some (.dK []) → Pv D 0 H2) (hG : ∀ D i H', H D = none → i ≤ n → Pv D i H' → G H')
    (hs : ∀ D i x H1 H', H D = none → i < n → Pv D i H1 → Y i H1 x H' → g x (wipe σ vs) H' fun σ2 H2 => wipe σ2 vs = wipe σ vs ∧ tt σ2 H2 fun b H3 =>
      if b = true then tk σ2 H3 fun y H4 => tv σ2 H4 fun z H5 => ∃ kvs k, y = kV k ∧ H5 D = some (.dK kvs) ∧ kvs.length < sizeLine ∧ Pv D (i + 1) (upd H5 D (.dK (putK kvs k z))) else Pv D (i + 1) H3) (hd : ∀ D H', H D = none → Pv D n H' → R D H') :
    ∀ D, H D = none → ∃ W : Nat → Nat → Hp → Prop, (∃ m, W 0 m (upd H D (.dK []))) ∧ ∀ i m H, W i m H →
      (J.stop i H ∧ R D H) ∨ (J.go i H ∧ ∃ Nx : Hp → Prop, (∀ H', Nx H' → ∃ m', m' < m ∧ W (i + 1) m' H') ∧ ∀ x H', J.yld i H x H' → g x (wipe σ vs) H' fun σ2 H2 => wipe σ2 vs = wipe σ vs ∧ tt σ2 H2 fun b H3 =>
        if b = true then tk σ2 H3 fun y H4 => tv σ2 H4 fun z H5 => ∃ kvs k, y = kV k ∧ H5 D = some (.dK kvs) ∧ kvs.length < sizeLine ∧ Nx (upd H5 D (.dK (putK kvs k z))) else Nx H3) := fun D nD => by
  refine ⟨fun i m H' => m = n - i ∧ i ≤ n ∧ Pv D i H', ⟨n, by simp, Nat.zero_le _, h0 D _ nD (Ed.new nD) upd_same⟩, ?_⟩
  rintro i m H1 ⟨rfl, hi, p⟩
  have q := hG D i H1 nD hi p
  by_cases hlt : i < n
  · exact .inr ⟨w.goes i H1 hlt q, Pv D (i + 1), fun H' p' => ⟨n - (i + 1), by omega, rfl, hlt, p'⟩, fun x H' y => hs D i x H1 H' nD hlt p (w.yields i H1 x H' hlt q y)⟩
  · have : i = n := by omega
    subst this
    exact .inl ⟨w.stops H1 q, hd D H1 nD p⟩
theorem putK_le {κ : Type} [DecidableEq κ] (c : List (κ × V)) (k : κ) (x : V) : (putK c k x).length ≤ c.length + 1 := by
  unfold putK
  split
  · rw [List.length_map]; omega
  · rw [List.length_append]; simp
theorem all_sqt {a : Addr} {xs : List V} (h : ∀ H, SqT K H a xs) (H : Hp) : SqT K H a xs := h H
/-! ### a dict that is locked while it is walked -/
theorem frz' {S : List Addr} {H' : Hp} {a : Addr} {o : Obj} {u : HO} (e : Ed S H H') (h : H a = some (.frz o u)) : H' a = some (.frz o u) := e.frz _ _ _ h
/-- unlocked again: d is what it was, all else as it is -/
theorem unlock {S : List Addr} {d : Addr} {u : HO} {od : Obj} {H1 H' H2 : Hp} (h : H d = some u) (m : Mut (some u)) (e1 : upd H d (.frz od u) = H1) (e2 : Ed S H1 H') (e3 : upd H' d u = H2) :
    Ed S H H2 ∧ H2 d = some u ∧ ∀ a o, a ≠ d → H' a = some o → H2 a = some o := by
  subst e1 e3
  have nf : ∀ ob w, u ≠ .frz ob w := fun ob w z => by rw [z] at m; exact m
  have nt : ∀ xs, u ≠ .tup xs := fun xs z => by rw [z] at m; exact m
  refine ⟨⟨fun a o ha e => ?_, fun a xs e => ?_, fun a ob w e => ?_, fun a e => ?_⟩, upd_same, fun a o n e => by rw [upd_ne n]; exact e⟩
  · by_cases q : a = d
    · subst q; rw [h] at e; cases e; exact upd_same
    · rw [upd_ne q]; exact e2.keep a o ha (by rw [upd_ne q]; exact e)
  · by_cases q : a = d
    · subst q; rw [h] at e; cases e; exact (nt _ rfl).elim
    · rw [upd_ne q]; exact e2.tup a xs (by rw [upd_ne q]; exact e)
  · by_cases q : a = d
    · subst q; rw [h] at e; cases e; exact (nf _ _ rfl).elim
    · rw [upd_ne q]; exact e2.frz a ob w (by rw [upd_ne q]; exact e)
  · by_cases q : a = d
    · subst q; rw [upd_same] at e; cases e
    · rw [upd_ne q] at e
      have := e2.dom a e
      rw [upd_ne q] at this; exact this
/-- for k in d -/
theorem lock_keys {n : Nat} {d : Addr} {kvs : List (Key × V)} (hv : σ[n]? = some (some (.ref d))) (hd : H d = some (.dK kvs)) (S : List Addr) (Pv : Hp → Nat → L2.St → Hp → Prop) (hE : ∀ H1 i σ' H', Pv H1 i σ' H' → Ed S H1 H')
    (h0 : ∀ H1 od, Ed [d] H H1 → H1 d = some (.frz od (.dK kvs)) → Pv H1 0 σ H1)
    (turn : ∀ H1 od i k w σ' H', Ed [d] H H1 → H1 d = some (.frz od (.dK kvs)) → H' d = some (.frz od (.dK kvs)) → kvs[i]? = some (k, w) → Pv H1 i σ' H' →
      g (kV k) σ' H' fun σ2 H2 => t { nx := Pv H1 (i + 1), ct := Pv H1 (i + 1), rt := fun v H3 => H3 d = some (.frz od (.dK kvs)) ∧ D.rt v (upd H3 d (.dK kvs)), bk := fun σ3 H3 => H3 d = some (.frz od (.dK kvs)) ∧ D.nx σ3 (upd H3 d (.dK kvs)) } σ2 H2)
    (done : ∀ H1 σ' H' H2, Ed [d] H H1 → Pv H1 kvs.length σ' H' → Ed S H H2 → H2 d = some (.dK kvs) → (∀ a o, a ≠ d → H' a = some o → H2 a = some o) → D.nx σ' H2) : tLock (tFor (iKeys (tVar n)) g t) D σ H := by
  refine ⟨d, .dK kvs, hd, trivial, fun od => ?_⟩
  generalize hu : upd H d (.frz od (.dK kvs)) = H1
  obtain ⟨e1, h1⟩ := chg hu hd
  refine ⟨_, hv, d, od, rfl, .inl ⟨kvs, h1, for_it walk_keys (Pv H1) (h0 H1 od e1 h1) (fun i σ' H' _ p => (hE _ _ _ _ p).frz _ _ _ h1) (fun i x σ' H' H2 hi p y => ?_) fun σ' H' p => ?_⟩⟩
  · obtain ⟨rfl, k, w, hk, rfl⟩ := y
    exact turn H1 od i k w σ' H2 e1 h1 ((hE _ _ _ _ p).frz _ _ _ h1) hk p
  · obtain ⟨e2, h2, k2⟩ := unlock hd trivial hu (hE _ _ _ _ p) rfl
    exact ⟨(hE _ _ _ _ p).frz _ _ _ h1, done H1 σ' H' _ e1 p e2 h2 k2⟩
/-- [e for k in d] -/
theorem lockE_keys {n : Nat} {d : Addr} {kvs : List (Key × V)} {vs : List Nat} (hv : σ[n]? = some (some (.ref d))) (hd : H d = some (.dK kvs)) (S : List Addr) (Pv : Hp → Addr → Nat → Hp → Prop) (hE : ∀ H1 L i H', Pv H1 L i H' → Ed S H1 H')
    (h0 : ∀ H1 od L H2, Ed [d] H H1 → H1 d = some (.frz od (.dK kvs)) → H1 L = none → Ed [] H1 H2 → H2 L = some (.lst []) → Pv H1 L 0 H2)
    (turn : ∀ H1 od L i k w H', Ed [d] H H1 → H1 L = none → H' d = some (.frz od (.dK kvs)) → kvs[i]? = some (k, w) → Pv H1 L i H' →
      g (kV k) (wipe σ vs) H' fun σ2 H2 => wipe σ2 vs = wipe σ vs ∧ tt σ2 H2 fun b H3 => if b = true then te σ2 H3 fun y H4 => ∃ acc, H4 L = some (.lst acc) ∧ acc.length < sizeLine ∧ Pv H1 L (i + 1) (upd H4 L (.lst (acc ++ [y]))) else Pv H1 L (i + 1) H3)
    (done : ∀ H1 L H' H2, H L = none → Pv H1 L kvs.length H' → Ed S H H2 → H2 d = some (.dK kvs) → (∀ a o, a ≠ d → H' a = some o → H2 a = some o) → Q (.ref L) H2) : tLockE (tLc (iKeys (tVar n)) g tt te vs) σ H Q := by
  refine ⟨d, .dK kvs, hd, trivial, fun od => ?_⟩
  generalize hu : upd H d (.frz od (.dK kvs)) = H1
  obtain ⟨e1, h1⟩ := chg hu hd
  refine ⟨_, hv, d, od, rfl, .inl ⟨kvs, h1, fun L nL => lc_it walk_keys (Pv H1 L) (h0 H1 od L _ e1 h1 nL (Ed.new nL) upd_same) (fun i H' _ p => (hE _ _ _ _ p).frz _ _ _ h1) (fun i x H' H2 hi p y => ?_) fun H' p => ?_⟩⟩
  · obtain ⟨rfl, k, w, hk, rfl⟩ := y
    exact turn H1 od L i k w H2 e1 nL ((hE _ _ _ _ p).frz _ _ _ h1) hk p
  · obtain ⟨e2, h2, k2⟩ := unlock hd trivial hu (hE _ _ _ _ p) rfl
    exact ⟨(hE _ _ _ _ p).frz _ _ _ h1, done H1 L H' _ (e1.dom _ nL) p e2 h2 k2⟩
/-- y = [e for k in d] -/
theorem lockA_keys {n m : Nat} {d : Addr} {kvs : List (Key × V)} {vs : List Nat} (hv : σ[n]? = some (some (.ref d))) (hd : H d = some (.dK kvs)) (S : List Addr) (Pv : Hp → Addr → Nat → Hp → Prop) (hE : ∀ H1 L i H', Pv H1 L i H' → Ed S H1 H')
    (h0 : ∀ H1 od L H2, Ed [d] H H1 → H1 d = some (.frz od (.dK kvs)) → H1 L = none → Ed [] H1 H2 → H2 L = some (.lst []) → Pv H1 L 0 H2)
    (turn : ∀ H1 od L i k w H', Ed [d] H H1 → H1 L = none → H' d = some (.frz od (.dK kvs)) → kvs[i]? = some (k, w) → Pv H1 L i H' →
      g (kV k) (wipe σ vs) H' fun σ2 H2 => wipe σ2 vs = wipe σ vs ∧ tt σ2 H2 fun b H3 => if b = true then te σ2 H3 fun y H4 => ∃ acc, H4 L = some (.lst acc) ∧ acc.length < sizeLine ∧ Pv H1 L (i + 1) (upd H4 L (.lst (acc ++ [y]))) else Pv H1 L (i + 1) H3)
    (done : ∀ H1 L H' H2, H L = none → Pv H1 L kvs.length H' → Ed S H H2 → H2 d = some (.dK kvs) → (∀ a o, a ≠ d → H' a = some o → H2 a = some o) → D.nx (σ.set m (some (.ref L))) H2) : tLock (tAsg (tLc (iKeys (tVar n)) g tt te vs) (gName m)) D σ H := by
  refine ⟨d, .dK kvs, hd, trivial, fun od => ?_⟩
  generalize hu : upd H d (.frz od (.dK kvs)) = H1
  obtain ⟨e1, h1⟩ := chg hu hd
  refine ⟨_, hv, d, od, rfl, .inl ⟨kvs, h1, fun L nL => lc_it walk_keys (Pv H1 L) (h0 H1 od L _ e1 h1 nL (Ed.new nL) upd_same) (fun i H' _ p => (hE _ _ _ _ p).frz _ _ _ h1) (fun i x H' H2 hi p y => ?_) fun H' p => ?_⟩⟩
  · obtain ⟨rfl, k, w, hk, rfl⟩ := y
    exact turn H1 od L i k w H2 e1 nL ((hE _ _ _ _ p).frz _ _ _ h1) hk p
  · obtain ⟨e2, h2, k2⟩ := unlock hd trivial hu (hE _ _ _ _ p) rfl
    exact ⟨(hE _ _ _ _ p).frz _ _ _ h1, done H1 L H' _ (e1.dom _ nL) p e2 h2 k2⟩
end
end Vc

/-! Kw: method calls with keywords (my own; the way is pe_meth's and pe_callK's). -/
namespace Vc
open PySem PySem.Spec PyProof.Rows L2
section
variable {X : Cx} {CX : CXT} {k : Nat} {f C : Addr} {fd : FuncData} {ps ks : List Str} {sp : Sp} {E : XK} {x m : Str} {p pos apos : Pos} {e o : Expr} {es : List Expr} {kws : List Keyword} {ta : TE} {t tk : TA} {g : List Value → List Value → List Value} {gV : List V → List V → List V}
theorem kbinds {K : PySem.W.Frag} {x qual : Str} {st : Stmt} (F : Fun K x qual st f fd)
    (h : ∀ (kV doc pm : Value) (an : Option Addr) (cdv ct : Value) (us ws : List Value), (g us ws).length = ps.length → bindArgs (PySem.W.fnOf x qual (defArgs st) (defBody st) (defScope st) .none kV doc pm an cdv ct) ⟨us, ks.zip ws⟩ = pure (ps.zip (g us ws)))
    (rel : ∀ {vs : List V} {us : List Value} {zs : List V} {ws : List Value}, Vals vs us → Vals zs ws → Vals (gV vs zs) (g us ws)) : KBinds K fd ps ks g gV := by
  obtain ⟨oc, od, kV, doc, pm, an, cdv, ct, osl, rfl, lk, hcd⟩ := F.ex
  exact ⟨fun s us ws _ hl => .of_eq (h kV doc pm an cdv ct us ws hl), rel⟩
def tMethK (C : Addr) (m : Str) (sp : Sp) (gV : List V → List V → List V) (E : XK) (ta : TE) (t tk : TA) : TE := fun σ H Q => ta σ H fun x H1 => ∃ a dx fs, x = .ref a ∧ H1 a = some (.ins C dx fs) ∧ fs.lookup m = none ∧ t σ H1 fun vs H2 => tk σ H2 fun zs H3 => sp (gV (x :: vs) zs) H3 Q E
/-- o.m(k = v, ..) -/
theorem pe_methK0 {pl : Sem Bool} (he : PE X o ta) (c : Cls X.K C) (hm : Meth X.K C m f) (F : FnOk X.prog X.w X.K X.mg X.base CX k f fd ps sp) (hr : Room k X.A) (hb : KBinds X.K fd ps ks g gV) (hx : Passes CX X E) (hkw : PK X kws tk)
    (hall : (backToKw pos (keywordEach kws X.env)).all (·.1.isSome) = true := by rfl) (hks : (backToKw pos (keywordEach kws X.env)).filterMap (·.1) = ks := by rfl)
    (hpl : ((backTo pos (starEach [] X.env)).any (·.1) || (backToKw pos (keywordEach kws X.env)).any (·.1.isNone)) = false := by rfl)
    (ht : eval (.Call (.Attribute o m apos) [] kws pos) X.env = (do
      let ov ← eval o X.env
      standAt apos.atName
      let (f, first) ← holding [ov] (getMethod ov m pl)
      callWith pos f first (backTo pos (starEach [] X.env)) (backToKw pos (keywordEach kws X.env))) := by rfl) :
    PE X (.Call (.Attribute o m apos) [] kws pos) (tMethK C m sp gV E ta tNil tk) := by
  refine ⟨fun pins s σ H Q I h => ?_⟩
  refine PySem.W.methodCall_KW (pl := pl) (thn (he.run pins s σ H _ I h) fun u s1 ⟨x, H1, I1, rx, a, dx, fs, ex, ea, l, q⟩ => ?_) ht
  subst ex
  obtain rfl : u = Value.ref a := rx
  refine getmeth_ok I1 ea c hm l ?_
  refine PySem.W.callWith_KW0 (first := [.ref a]) (h₀ := X.base) I.ok.mod.kin hm.kp hall (thn (hkw.run pos pins s1 σ H1 _ I1 q) fun ws s2 ⟨zs, H2, I2, rz, q2⟩ => ⟨I2.kIn, ?_⟩) hpl
  rw [hks]
  exact run_fnk (us := [.ref a]) (vs := [.ref a]) F hr hb hx I2 (.cons rfl .nil) rz q2
/-- o.m(e, .., k = v, ..) -/
theorem pe_methK {pl : Sem Bool} (he : PE X o ta) (c : Cls X.K C) (hm : Meth X.K C m f) (F : FnOk X.prog X.w X.K X.mg X.base CX k f fd ps sp) (hr : Room k X.A) (hb : KBinds X.K fd ps ks g gV) (hx : Passes CX X E) (ha : PA X (e :: es) t) (hkw : PK X kws tk)
    (hall : (backToKw pos (keywordEach kws X.env)).all (·.1.isSome) = true := by rfl) (hks : (backToKw pos (keywordEach kws X.env)).filterMap (·.1) = ks := by rfl)
    (hst : starEach (e :: es) X.env = (false, eval e X.env) :: starEach es X.env := by rfl)
    (hpl : ((backTo pos (starEach (e :: es) X.env)).any (·.1) || (backToKw pos (keywordEach kws X.env)).any (·.1.isNone)) = false := by rfl)
    (ht : eval (.Call (.Attribute o m apos) (e :: es) kws pos) X.env = (do
      let ov ← eval o X.env
      standAt apos.atName
      let (f, first) ← holding [ov] (getMethod ov m pl)
      callWith pos f first (backTo pos (starEach (e :: es) X.env)) (backToKw pos (keywordEach kws X.env))) := by rfl) :
    PE X (.Call (.Attribute o m apos) (e :: es) kws pos) (tMethK C m sp gV E ta t tk) := by
  refine ⟨fun pins s σ H Q I h => ?_⟩
  refine PySem.W.methodCall_KW (pl := pl) (thn (he.run pins s σ H _ I h) fun u s1 ⟨x, H1, I1, rx, a, dx, fs, ex, ea, l, q⟩ => ?_) ht
  subst ex
  obtain rfl : u = Value.ref a := rx
  refine getmeth_ok I1 ea c hm l ?_
  refine PySem.W.callWith_KW (first := [.ref a]) (h₀ := X.base) I.ok.mod.kin hm.kp hall (thn (ha.run pos pins s1 σ H1 _ I1 q) fun us s2 ⟨vs, H2, I2, r, q2⟩ => ?_) hpl hst
  refine thn (hkw.run pos pins s2 σ H2 _ I2 q2) fun ws s3 ⟨zs, H3, I3, rz, q3⟩ => ⟨I3.kIn, ?_⟩
  rw [hks]
  exact run_fnk (us := .ref a :: us) (vs := .ref a :: vs) F hr hb hx I3 (.cons rfl r) rz q3
end
section
variable {σ : L2.St} {H : Hp} {Q : VK} {ta : TE} {ts tk : TA} {C : Addr} {m : Str} {sp : Sp} {E : XK} {gV : List V → List V → List V}
theorem go_methK (h : ta σ H fun x H1 => ∃ a dx fs, x = .ref a ∧ H1 a = some (.ins C dx fs) ∧ fs.lookup m = none ∧ ts σ H1 fun vs H2 => tk σ H2 fun zs H3 => sp (gV (x :: vs) zs) H3 Q E) : tMethK C m sp gV E ta ts tk σ H Q := h
theorem go_callK (h : ts σ H fun vs H1 => tk σ H1 fun zs H2 => sp (gV vs zs) H2 Q E) : tCallK sp gV E ts tk σ H Q := h
end
end Vc

local macro_rules | `(tactic| walk_at "go1") => `(tactic| first
  | with_reducible refine Vc.go_seq ?_
  | with_reducible refine Vc.go_asg ?_
  | with_reducible refine Vc.go_name ?_
  | ((with_reducible refine' Vc.go_var ?hv ?_); (case hv => rfl))
  | with_reducible refine Vc.go_c ?_
  | with_reducible refine Vc.go_op ?_
  | with_reducible refine Vc.go_un ?_
  | with_reducible refine Vc.go_cb ?_
  | with_reducible refine Vc.go_cons ?_
  | with_reducible refine Vc.go_nil ?_
  | with_reducible refine Vc.go_dget ?_
  | with_reducible refine Vc.go_drop ?_
  | with_reducible refine Vc.go_chain ?_
  | with_reducible refine Vc.go_cvalR ?_
  | with_reducible refine Vc.go_fld ?_
  | with_reducible refine Vc.go_sfld ?_
  | with_reducible refine Vc.go_make ?_
  | with_reducible refine Vc.go_meth ?_
  | with_reducible refine Vc.go_dc ?_
  | with_reducible refine Vc.go_lenSet ?_
  | ((with_reducible refine' Vc.go_aug ?hv ?_); (case hv => rfl))
  | with_reducible refine Vc.go_ipI ?_
  | ((with_reducible refine' Vc.go_addS ?l ?_); (case l => walk_at "ln"))
  | with_reducible refine Vc.go_M1 ?_
  | with_reducible refine Vc.go_M0 ?_
  | with_reducible refine Vc.go_isS ?_
  | with_reducible refine Vc.go_sub ?_
  | ((with_reducible refine' Vc.go_tupL ?e ?_); (case e => walk_at "hs"))
  | with_reducible refine Vc.go_strE ?_
  | with_reducible refine Vc.go_sign ?_
  | with_reducible refine Vc.go_for ?_
  | with_reducible refine Vc.go_iList ?_
  | with_reducible refine Vc.go_iTup ?_
  | with_reducible refine Vc.go_iRng1 ?_
  | with_reducible refine Vc.go_iRng2 ?_
  | with_reducible refine Vc.go_iStr ?_
  | with_reducible refine Vc.go_lc ?_
  | with_reducible refine Vc.go_disp ?_
  | with_reducible refine Vc.go_pairs ?_
  | with_reducible refine Vc.go_pairs0 ?_
  | with_reducible refine' L2.iteT ?_
  | with_reducible refine' L2.iteF ?_
  | with_reducible refine' Vc.go_neL ?_
  | with_reducible refine' Vc.go_eqL ?_
  | with_reducible refine' Vc.go_nT ?_
  | with_reducible refine' Vc.go_nF ?_
  | with_reducible refine Vc.go_ret ?_
  | with_reducible refine Vc.go_retN ?_
  | with_reducible refine Vc.go_next ?_
  | with_reducible refine Vc.go_ifS ?_
  | with_reducible refine Vc.go_test ?_
  | with_reducible refine Vc.go_B ?_
  | with_reducible refine Vc.go_bl ?_
  | with_reducible refine Vc.go_blP ?_
  | with_reducible refine Vc.go_notT ?_
  | with_reducible refine Vc.go_andT ?_
  | with_reducible refine Vc.go_orT ?_
  | with_reducible refine Vc.go_yes ?_
  | with_reducible refine Vc.go_andV ?_
  | with_reducible refine Vc.go_orV ?_
  | with_reducible refine Vc.go_notV ?_
  | with_reducible refine Vc.go_if ?_
  | with_reducible refine Vc.go_I0 ?_
  | with_reducible refine Vc.go_U ?_
  | ((with_reducible refine' Vc.go_I ?hc ?_); (case hc => walk_at "side"))
  | with_reducible refine Vc.go_eqI ?_
  | with_reducible refine Vc.go_neI ?_
  | with_reducible refine Vc.go_eqS ?_
  | with_reducible refine Vc.go_neS ?_
  | with_reducible refine Vc.go_eqB ?_
  | with_reducible refine Vc.go_neB ?_
  | ((with_reducible refine' Vc.go_isi ?ht ?hk ?_); (case ht => walk_at "ty"); (case hk => walk_at "kit"))
  | ((with_reducible refine' Vc.go_isiT2 ?ht ?e ?hk ?hk2 ?hc ?_); (case ht => walk_at "ty"); (case e => walk_at "hs"); (case hk => walk_at "kit"); (case hk2 => walk_at "kit"); (case hc => first | exact Vc.or_t | exact Vc.or_f))
  | with_reducible refine Vc.go_isN ?_
  | with_reducible refine' Vc.go_iteNT ?_
  | ((with_reducible refine' Vc.go_iteN ?h ?_); (case h => (intro z; cases z)))
  | ((with_reducible refine' Vc.go_cval ?hr ?hv ?_); (case hr => assumption); (case hv => assumption))
  | ((with_reducible refine' Vc.go_fldV ?e ?hl ?c ?n ?_); (case e => walk_at "hs"); (case hl => walk_at "fl"); (case c => assumption); (case n => assumption))
  | ((with_reducible refine' Vc.go_sfldV ?e ?l ?c ?n ?_); (case e => walk_at "hs"); (case l => walk_at "fn"); (case c => assumption); (case n => assumption))
  | ((with_reducible refine' Vc.go_methV ?e ?l ?_); (case e => walk_at "hs"); (case l => walk_at "fl"))
  | ((with_reducible refine' Vc.go_lenD ?e ?_); (case e => walk_at "hs"))
  | ((with_reducible refine' Vc.go_listD ?e ?_); (case e => walk_at "hs"))
  | ((with_reducible refine' Vc.go_lenS ?l ?_); (case l => walk_at "ln"))
  | ((with_reducible refine' Vc.go_dgetIF ?he ?hv ?_); (case he => walk_at "hs"); (case hv => walk_at "dv"))
  | ((with_reducible refine' Vc.go_inL ?e ?hx ?hf ?_); (case e => walk_at "hs"); (case hx => rfl); (case hf => walk_at "flat"))
  | ((with_reducible refine' Vc.go_inT ?e ?hx ?hf ?_); (case e => walk_at "hs"); (case hx => rfl); (case hf => walk_at "flat"))
  | ((with_reducible refine' Vc.go_niL ?e ?hx ?hf ?_); (case e => walk_at "hs"); (case hx => rfl); (case hf => walk_at "flat"))
  | ((with_reducible refine' Vc.go_niT ?e ?hx ?hf ?_); (case e => walk_at "hs"); (case hx => rfl); (case hf => walk_at "flat"))
  | with_reducible refine Vc.go_call ?_
  | with_reducible refine Vc.go_tup ?_
  | with_reducible refine Vc.go_lst ?_
  | with_reducible refine Vc.go_dnew ?_
  | with_reducible refine Vc.go_din ?_
  | with_reducible refine Vc.go_dnotin ?_
  | with_reducible refine Vc.go_dput ?_
  | with_reducible refine Vc.go_sl ?_
  | with_reducible refine Vc.go_nopart ?_
  | with_reducible refine Vc.go_part ?_
  | with_reducible refine Vc.go_partI ?_
  | with_reducible refine Vc.go_bm ?_
  | with_reducible refine Vc.go_bm0 ?_
  | with_reducible refine Vc.go_abs ?_
  | with_reducible refine Vc.go_int1 ?_
  | with_reducible refine Vc.go_int1b ?_
  | ((with_reducible refine' Vc.go_dgetS ?he ?hv ?_); (case he => walk_at "hs"); (case hv => walk_at "dv"))
  | ((with_reducible refine' Vc.go_dgetI ?he ?hv ?_); (case he => walk_at "hs"); (case hv => walk_at "dv"))
  | ((with_reducible refine' Vc.go_dputS ?he ?hl ?_); (case he => walk_at "hs"); (case hl => walk_at "ln"))
  | ((with_reducible refine' Vc.go_dputI ?he ?hl ?_); (case he => walk_at "hs"); (case hl => walk_at "ln"))
  | ((with_reducible refine' Vc.go_dinI ?he ?_); (case he => walk_at "hs"))
  | with_reducible refine Vc.go_methK ?_
  | with_reducible refine Vc.go_callK ?_
  | ((with_reducible refine' Vc.go_lenL ?he ?_); (case he => walk_at "hs"))
  | ((with_reducible refine' Vc.go_lenT ?he ?_); (case he => walk_at "hs"))
  | ((with_reducible refine' Vc.go_slS ?hz ?_); (case hz => walk_at "ln"))
  | ((with_reducible refine' Vc.go_slL ?he ?_); (case he => walk_at "hs"))
  | ((with_reducible refine' Vc.go_tyL ?he ?_); (case he => walk_at "hs"))
  | ((with_reducible refine' Vc.go_len ?hl ?_); (case hl => walk_at "ln"))
  | ((with_reducible refine' Vc.go_append ?he ?hl ?_); (case he => walk_at "hs"); (case hl => walk_at "ln"))
  | ((with_reducible refine' Vc.go_ixL ?he ?hv ?_); (case he => walk_at "hs"); (case hv => walk_at "ix"))
  | ((with_reducible refine' Vc.go_ixT ?he ?hv ?_); (case he => walk_at "hs"); (case hv => walk_at "ix"))
  | ((with_reducible refine' Vc.go_ixS ?he ?hv ?_); (case he => walk_at "ln"); (case hv => walk_at "ix")))
local macro_rules | `(tactic| walk_at "kit") => `(tactic| first
  | with_reducible exact Vc.kit_int_int
  | with_reducible exact Vc.kit_int_bool
  | with_reducible exact Vc.kit_int_str
  | with_reducible exact Vc.kit_int_tuple
  | with_reducible exact Vc.kit_int_list
  | with_reducible exact Vc.kit_int_dict
  | with_reducible exact Vc.kit_bool_int
  | with_reducible exact Vc.kit_bool_bool
  | with_reducible exact Vc.kit_bool_str
  | with_reducible exact Vc.kit_bool_tuple
  | with_reducible exact Vc.kit_bool_list
  | with_reducible exact Vc.kit_bool_dict
  | with_reducible exact Vc.kit_str_int
  | with_reducible exact Vc.kit_str_bool
  | with_reducible exact Vc.kit_str_str
  | with_reducible exact Vc.kit_str_tuple
  | with_reducible exact Vc.kit_str_list
  | with_reducible exact Vc.kit_str_dict
  | with_reducible exact Vc.kit_NoneType_int
  | with_reducible exact Vc.kit_NoneType_bool
  | with_reducible exact Vc.kit_NoneType_str
  | with_reducible exact Vc.kit_NoneType_tuple
  | with_reducible exact Vc.kit_NoneType_list
  | with_reducible exact Vc.kit_NoneType_dict
  | with_reducible exact Vc.kit_list_int
  | with_reducible exact Vc.kit_list_bool
  | with_reducible exact Vc.kit_list_str
  | with_reducible exact Vc.kit_list_tuple
  | with_reducible exact Vc.kit_list_list
  | with_reducible exact Vc.kit_list_dict
  | with_reducible exact Vc.kit_tuple_int
  | with_reducible exact Vc.kit_tuple_bool
  | with_reducible exact Vc.kit_tuple_str
  | with_reducible exact Vc.kit_tuple_tuple
  | with_reducible exact Vc.kit_tuple_list
  | with_reducible exact Vc.kit_tuple_dict
  | with_reducible exact Vc.kit_dict_int
  | with_reducible exact Vc.kit_dict_bool
  | with_reducible exact Vc.kit_dict_str
  | with_reducible exact Vc.kit_dict_tuple
  | with_reducible exact Vc.kit_dict_list
  | with_reducible exact Vc.kit_dict_dict)
local macro_rules | `(tactic| walk_at "ty") => `(tactic| first
  | with_reducible exact .base (.int _)
  | with_reducible exact .base (.bl _)
  | with_reducible exact .base (.str _)
  | with_reducible exact .base .non
  | ((with_reducible refine' Vc.tyL ?h); (case h => walk_at "hs"))
  | ((with_reducible refine' Vc.tyT ?h); (case h => walk_at "hs")))
local macro_rules | `(tactic| walk_at "fl") => `(tactic| first | assumption | rfl)
local macro_rules | `(tactic| walk_at "fn") => `(tactic| first | assumption | exact (show 0 < 1000 by decide) | exact (show 1 < 1000 by decide) | exact (show 2 < 1000 by decide) | exact (show 3 < 1000 by decide) | exact (show 4 < 1000 by decide) | exact (show 5 < 1000 by decide) | exact (show 6 < 1000 by decide))
local macro_rules | `(tactic| walk_at "goo") => `(tactic| repeat (first
  | walk_at "go1"
  | ((with_reducible refine' Vc.go_iteT' ?h ?_); (case h => omega))
  | ((with_reducible refine' Vc.go_iteF' ?h ?_); (case h => omega))
  | ((with_reducible refine' Vc.go_itenT' ?h ?_); (case h => omega))
  | ((with_reducible refine' Vc.go_itenF' ?h ?_); (case h => omega))
  | ((with_reducible refine' Vc.go_iteT' ?h ?_); (case h => decide))
  | ((with_reducible refine' Vc.go_iteF' ?h ?_); (case h => decide))))
local macro_rules | `(tactic| walk_at "flat") => `(tactic| first | assumption | rfl)
local macro_rules | `(tactic| walk_at "ix") => `(tactic| first | assumption | rfl)
local macro_rules | `(tactic| walk_at "dv") => `(tactic| first | assumption | rfl)
local macro_rules | `(tactic| walk_at "ln") => `(tactic| first | assumption | (simp only [List.length_cons, List.length_nil, List.length_append, List.length_map]; omega) | decide)
local macro_rules | `(tactic| walk_at "go") => `(tactic| repeat walk_at "go1")
local macro_rules | `(tactic| walk_at "side") => `(tactic| first
  | omega
  | (dsimp only; omega)
  | exact ⟨by omega, by omega, by omega⟩
  | exact Vc.mulw (by omega) (by omega)
  | exact Vc.divw (by omega) (by omega))
local macro_rules | `(tactic| walk_at "hs") => `(tactic| first
  | assumption
  | ((with_reducible refine' Vc.Ed.at0 ?e ?h); (case e => assumption); (case h => walk_at "hs"))
  | ((with_reducible refine' Vc.Ed.at1 ?e ?n ?h); (case e => assumption); (case n => walk_at "ne"); (case h => walk_at "hs"))
  | ((with_reducible refine' Vc.Ed.at2 ?e ?n ?m ?h); (case e => assumption); (case n => walk_at "ne"); (case m => walk_at "ne"); (case h => walk_at "hs"))
  | ((with_reducible refine' Vc.frz' ?e ?h); (case e => assumption); (case h => walk_at "hs"))
  | ((with_reducible refine' L2.SqL.of ?h); (case h => walk_at "hs"))
  | ((with_reducible refine' Vc.all_sqt ?h _); (case h => assumption))
  | ((with_reducible refine' Vc.sqt_of ?h); (case h => walk_at "hs"))
  | ((with_reducible refine' Vc.Ed.sqt ?e ?h); (case e => assumption); (case h => walk_at "hs"))
  | ((with_reducible refine' Vc.Ed.sql0 ?e ?h); (case e => assumption); (case h => walk_at "hs"))
  | ((with_reducible refine' Vc.Ed.sql1 ?e ?n ?h); (case e => assumption); (case n => walk_at "ne"); (case h => walk_at "hs")))
local macro_rules | `(tactic| walk_at "ne") => `(tactic| first
  | assumption
  | ((with_reducible refine' Ne.symm ?h); (case h => assumption))
  | ((with_reducible refine' Vc.ne1 ?e ?h); (case e => assumption); (case h => walk_at "hs"))
  | ((with_reducible refine' Vc.ne2 ?e ?h); (case e => assumption); (case h => walk_at "hs"))
  | ((with_reducible refine' Vc.nek ?e ?h ?d); (case e => assumption); (case h => assumption); (case d => intro z; cases z)))
local macro_rules | `(tactic| walk_at "free") => `(tactic| first
  | assumption
  | ((with_reducible refine' Vc.Ed.back ?e ?h); (case e => assumption); (case h => walk_at "free")))
local macro_rules | `(tactic| walk_at "in") => `(tactic| first
  | ((with_reducible refine' Or.inl ?h); (case h => (simp only [List.mem_cons, List.not_mem_nil, or_false, true_or, or_true]; done)))
  | ((with_reducible refine' Or.inr ?h); (case h => walk_at "free")))
local macro_rules | `(tactic| walk_at "ed") => `(tactic| first
  | assumption
  | with_reducible exact Vc.Ed.refl
  | ((with_reducible refine' Vc.Ed.ex' ?b ?a); (case b => assumption); (case a => walk_at "ed"))
  | ((with_reducible refine' Vc.Ed.one' ?b ?a ?h); (case b => assumption); (case a => walk_at "ed"); (case h => walk_at "in"))
  | ((with_reducible refine' Vc.Ed.two' ?b ?a ?h ?g); (case b => assumption); (case a => walk_at "ed"); (case h => walk_at "in"); (case g => walk_at "in")))

namespace My
open PySem PySem.Spec PyProof.Rows L2
def topS (i : Nat) : Stmt := PySem.Challenge.pw_codestitch_k01_followers.main.body.getD i (.Pass ⟨0, 0, 0, 0⟩)
abbrev s_is_byte : Stmt := topS 10
theorem sc_is_byte : FnScope ["value"] ["value"] (defScope s_is_byte) := ⟨rfl, rfl, rfl, by decide +kernel, rfl, by decide +kernel, by decide +kernel⟩
abbrev s_is_name : Stmt := topS 11
theorem sc_is_name : FnScope ["value", "sign"] ["value"] (defScope s_is_name) := ⟨rfl, rfl, rfl, by decide +kernel, rfl, by decide +kernel, by decide +kernel⟩
abbrev s_Formu_initu : Stmt := inClass (topS 12) 1
theorem sc_Formu_initu : FnScope ["self", "name", "length", "flow", "least"] ["self", "name", "length", "flow"] (defScope s_Formu_initu) := ⟨rfl, rfl, rfl, by decide +kernel, rfl, by decide +kernel, by decide +kernel⟩
abbrev s_check_forms : Stmt := topS 13
theorem sc_check_forms : FnScope ["stop", "forms", "names", "byte"] ["stop", "forms"] (defScope s_check_forms) := ⟨rfl, rfl, rfl, by decide +kernel, rfl, by decide +kernel, by decide +kernel⟩
abbrev s_CodeSetu_initu : Stmt := inClass (topS 14) 2
theorem sc_CodeSetu_initu : FnScope ["self", "stop", "forms", "byte"] ["self", "stop", "forms"] (defScope s_CodeSetu_initu) := ⟨rfl, rfl, rfl, by decide +kernel, rfl, by decide +kernel, by decide +kernel⟩
abbrev s_CodeSet_followers : Stmt := inClass (topS 14) 11
theorem sc_CodeSet_followers : FnScope ["self", "instruction", "place", "flow", "high", "distance"] ["self", "instruction", "place"] (defScope s_CodeSet_followers) := ⟨rfl, rfl, rfl, by decide +kernel, rfl, by decide +kernel, by decide +kernel⟩
abbrev s__law_bag : Stmt := topS 16
theorem sc__law_bag : FnScope ["_law_script", "_law_state", "_law_cell"] ["_law_script"] (defScope s__law_bag) := ⟨rfl, rfl, rfl, by decide +kernel, rfl, by decide +kernel, by decide +kernel⟩
abbrev s__law_draw : Stmt := topS 17
theorem sc__law_draw : FnScope ["_law_bag_here", "_law_limit", "_law_cell", "_law_mixed", "_law_found"] ["_law_bag_here", "_law_limit"] (defScope s__law_draw) := ⟨rfl, rfl, rfl, by decide +kernel, rfl, by decide +kernel, by decide +kernel⟩
abbrev s__law_same : Stmt := topS 20
theorem sc__law_same : FnScope ["_law_actual", "_law_expected", "_law_k"] ["_law_actual", "_law_expected"] (defScope s__law_same) := ⟨rfl, rfl, rfl, by decide +kernel, rfl, by decide +kernel, by decide +kernel⟩
abbrev s__law_due : Stmt := topS 21
theorem sc__law_due : FnScope ["_law_forms_here", "_law_given", "_law_spot", "_law_flow", "_law_behind", "_law_distance"] ["_law_forms_here", "_law_given", "_law_spot"] (defScope s__law_due) := ⟨rfl, rfl, rfl, by decide +kernel, rfl, by decide +kernel, by decide +kernel⟩
abbrev s__law_instruction : Stmt := topS 22
theorem sc__law_instruction : FnScope ["_law_bag_here", "_law_byte", "_law_length", "_law_found", "_law_k"] ["_law_bag_here", "_law_byte", "_law_length"] (defScope s__law_instruction) := ⟨rfl, rfl, rfl, by decide +kernel, rfl, by decide +kernel, by decide +kernel⟩
abbrev s__law_forms : Stmt := topS 18
theorem sc__law_forms : FnScope ["_law_bag_here", "_law_stop", "_law_letters", "_law_rest", "_law_spot", "_law_forms_here", "_law_k", "_law_byte", "_law_flow", "_law_length"] ["_law_bag_here", "_law_stop"] (defScope s__law_forms) := ⟨rfl, rfl, rfl, by decide +kernel, rfl, by decide +kernel, by decide +kernel⟩
abbrev s__law_codes : Stmt := topS 19
theorem sc__law_codes : FnScope ["_law_stop", "_law_forms_here", "_law_made", "_law_byte"] ["_law_stop", "_law_forms_here"] (defScope s__law_codes) := ⟨rfl, rfl, rfl, by decide +kernel, rfl, by decide +kernel, by decide +kernel⟩
abbrev s_law : Stmt := topS 23
theorem sc_law : FnScope ["_law_script", "_law_bag_here", "_law_stop", "_law_forms_here", "_law_codes_here", "_law_firsts", "_law_k", "_law_byte", "_law_given", "_law_spot", "_law_expected", "_law_below"] ["_law_script"] (defScope s_law) := ⟨rfl, rfl, rfl, by decide +kernel, rfl, by decide +kernel, by decide +kernel⟩
structure Ad where
  C_Form : Addr
  C_CodeSet : Addr
  f_is_byte : Addr
  d_is_byte : FuncData
  f_is_name : Addr
  d_is_name : FuncData
  f_Formu_initu : Addr
  d_Formu_initu : FuncData
  f_check_forms : Addr
  d_check_forms : FuncData
  f_CodeSetu_initu : Addr
  d_CodeSetu_initu : FuncData
  f_CodeSet_followers : Addr
  d_CodeSet_followers : FuncData
  f__law_bag : Addr
  d__law_bag : FuncData
  f__law_draw : Addr
  d__law_draw : FuncData
  f__law_same : Addr
  d__law_same : FuncData
  f__law_due : Addr
  d__law_due : FuncData
  f__law_instruction : Addr
  d__law_instruction : FuncData
  f__law_forms : Addr
  d__law_forms : FuncData
  f__law_codes : Addr
  d__law_codes : FuncData
  f_law : Addr
  d_law : FuncData
  a_FLOWS : Addr
structure Txt (K : PySem.W.Frag) (mg : Str → Option Value) (A : Ad) : Prop where
  g_Form : mg "Form" = some (.ref A.C_Form)
  g_CodeSet : mg "CodeSet" = some (.ref A.C_CodeSet)
  g_is_byte : mg "is_byte" = some (.ref A.f_is_byte)
  F_is_byte : Fun K "is_byte" "is_byte" s_is_byte A.f_is_byte A.d_is_byte
  b_is_byte : Binds K A.d_is_byte ["value"] []
  g_is_name : mg "is_name" = some (.ref A.f_is_name)
  F_is_name : Fun K "is_name" "is_name" s_is_name A.f_is_name A.d_is_name
  b_is_name : Binds K A.d_is_name ["value"] []
  F_Formu_initu : Fun K "__init__" "Form.__init__" s_Formu_initu A.f_Formu_initu A.d_Formu_initu
  b_Formu_initu : Binds K A.d_Formu_initu ["self", "name", "length", "flow"] []
  g_check_forms : mg "check_forms" = some (.ref A.f_check_forms)
  F_check_forms : Fun K "check_forms" "check_forms" s_check_forms A.f_check_forms A.d_check_forms
  b_check_forms : Binds K A.d_check_forms ["stop", "forms"] []
  F_CodeSetu_initu : Fun K "__init__" "CodeSet.__init__" s_CodeSetu_initu A.f_CodeSetu_initu A.d_CodeSetu_initu
  b_CodeSetu_initu : Binds K A.d_CodeSetu_initu ["self", "stop", "forms"] []
  F_CodeSet_followers : Fun K "followers" "CodeSet.followers" s_CodeSet_followers A.f_CodeSet_followers A.d_CodeSet_followers
  b_CodeSet_followers : Binds K A.d_CodeSet_followers ["self", "instruction", "place"] []
  g__law_bag : mg "_law_bag" = some (.ref A.f__law_bag)
  F__law_bag : Fun K "_law_bag" "_law_bag" s__law_bag A.f__law_bag A.d__law_bag
  b__law_bag : Binds K A.d__law_bag ["_law_script"] []
  g__law_draw : mg "_law_draw" = some (.ref A.f__law_draw)
  F__law_draw : Fun K "_law_draw" "_law_draw" s__law_draw A.f__law_draw A.d__law_draw
  b__law_draw : Binds K A.d__law_draw ["_law_bag_here", "_law_limit"] []
  g__law_same : mg "_law_same" = some (.ref A.f__law_same)
  F__law_same : Fun K "_law_same" "_law_same" s__law_same A.f__law_same A.d__law_same
  b__law_same : Binds K A.d__law_same ["_law_actual", "_law_expected"] []
  g__law_due : mg "_law_due" = some (.ref A.f__law_due)
  F__law_due : Fun K "_law_due" "_law_due" s__law_due A.f__law_due A.d__law_due
  b__law_due : Binds K A.d__law_due ["_law_forms_here", "_law_given", "_law_spot"] []
  g__law_instruction : mg "_law_instruction" = some (.ref A.f__law_instruction)
  F__law_instruction : Fun K "_law_instruction" "_law_instruction" s__law_instruction A.f__law_instruction A.d__law_instruction
  b__law_instruction : Binds K A.d__law_instruction ["_law_bag_here", "_law_byte", "_law_length"] []
  g__law_forms : mg "_law_forms" = some (.ref A.f__law_forms)
  F__law_forms : Fun K "_law_forms" "_law_forms" s__law_forms A.f__law_forms A.d__law_forms
  b__law_forms : Binds K A.d__law_forms ["_law_bag_here", "_law_stop"] []
  g__law_codes : mg "_law_codes" = some (.ref A.f__law_codes)
  F__law_codes : Fun K "_law_codes" "_law_codes" s__law_codes A.f__law_codes A.d__law_codes
  b__law_codes : Binds K A.d__law_codes ["_law_stop", "_law_forms_here"] []
  g_law : mg "law" = some (.ref A.f_law)
  F_law : Fun K "law" "law" s_law A.f_law A.d_law
  b_law : Binds K A.d_law ["_law_script"] []
  cl_Form : Cls K A.C_Form
  mk_Form : Mk K A.C_Form A.f_Formu_initu
  no_Form_name : NoAttr K A.C_Form "name"
  no_Form_length : NoAttr K A.C_Form "length"
  no_Form_flow : NoAttr K A.C_Form "flow"
  cl_CodeSet : Cls K A.C_CodeSet
  mk_CodeSet : Mk K A.C_CodeSet A.f_CodeSetu_initu
  m_CodeSet_followers : Meth K A.C_CodeSet "followers" A.f_CodeSet_followers
  no_CodeSet_stop : NoAttr K A.C_CodeSet "stop"
  no_CodeSet_order : NoAttr K A.C_CodeSet "order"
  no_CodeSet_table : NoAttr K A.C_CodeSet "table"
  n_len : mg "len" = none
  n_abs : mg "abs" = none
  n_int : mg "int" = none
  n_list : mg "list" = none
  n_range : mg "range" = none
  n_isinstance : mg "isinstance" = none
  n_bool : mg "bool" = none
  n_str : mg "str" = none
  n_tuple : mg "tuple" = none
  n_all : mg "all" = none
  n_set : mg "set" = none
  n_sorted : mg "sorted" = none
  g_LETTERS : ∃ t, mg "LETTERS" = some (.str "abcdefghijklmnopqrstuvwxyz" t)
  cr_Form : ClX.CRead K A.C_Form (.type "type")
  cr_CodeSet : ClX.CRead K A.C_CodeSet (.type "type")
  cv_FLOWS : ClX.CVal K A.C_Form (.type "type") "FLOWS" (.ref A.a_FLOWS) (.ref A.a_FLOWS)
  q_FLOWS : ∀ H, SqT K H A.a_FLOWS [.str "next", .str "jump", .str "test", .str "end"]
  cv_MOST : ∃ u, ClX.CVal K A.C_CodeSet (.type "type") "MOST_FORMS" (.int 16) u
end My
namespace My
open PySem PySem.Spec PyProof.Rows L2
/-! ### the bag: what a script's draws come from -/
def bagK (c : Addr) (a r s : Int) : List (Key × V) := [(.inr "cells", .ref c), (.inr "at", .int a), (.inr "rest", .int r), (.inr "state", .int s)]
theorem bag_cells {c a r s} : valV (bagK c a r s) (.inr "cells") = some (.ref c) := by rfl
theorem bag_at {c a r s} : valV (bagK c a r s) (.inr "at") = some (.int a) := by rfl
theorem bag_rest {c a r s} : valV (bagK c a r s) (.inr "rest") = some (.int r) := by rfl
theorem bag_state {c a r s} : valV (bagK c a r s) (.inr "state") = some (.int s) := by rfl
theorem bag_put_at {c a r s x} : putK (bagK c a r s) (.inr "at") (.int x) = bagK c x r s := by rfl
theorem bag_put_rest {c a r s x} : putK (bagK c a r s) (.inr "rest") (.int x) = bagK c a x s := by rfl
theorem bag_put_state {c a r s x} : putK (bagK c a r s) (.inr "state") (.int x) = bagK c a r x := by rfl
local macro_rules | `(tactic| walk_at "dv") => `(tactic| first | exact bag_cells | exact bag_at | exact bag_rest | exact bag_state | assumption | rfl)
theorem bag_n {c a r s} : (bagK c a r s).length ≤ 1000 := by show 4 ≤ 1000; decide
local macro_rules | `(tactic| walk_at "ln") => `(tactic| first | exact bag_n | assumption | (simp only [List.length_cons, List.length_nil, List.length_append, List.length_map]; omega) | decide)
structure BagS (H : Hp) (b c : Addr) (ns : List Int) (a r s : Int) : Prop where
  ob : H b = some (.dK (bagK c a r s))
  cl : H c = some (.lst (ns.map V.int))
  len : ns.length ≤ 63
  a0 : 0 ≤ a
  a1 : a ≤ ns.length
  r0 : 0 ≤ r
  s0 : 0 ≤ s
  s1 : s < 2147483647
def Bag (H : Hp) (b c : Addr) : Prop := ∃ ns a r s, BagS H b c ns a r s
theorem Bag.ed {H H' : Hp} {b c : Addr} {S : List Addr} (h : Bag H b c) (e : Vc.Ed S H H') (hb : b ∉ S) (hc : c ∉ S) : Bag H' b c := by
  obtain ⟨ns, a, r, s, B⟩ := h
  exact ⟨ns, a, r, s, e.keep _ _ hb B.ob, e.keep _ _ hc B.cl, B.len, B.a0, B.a1, B.r0, B.s0, B.s1⟩
theorem Bag.ed0 {H H' : Hp} {b c : Addr} (e : Vc.Ed [] H H') (h : Bag H b c) : Bag H' b c := h.ed e (fun z => nomatch z) (fun z => nomatch z)
theorem Bag.ed1 {H H' : Hp} {b c p : Addr} (e : Vc.Ed [p] H H') (hb : b ≠ p) (hc : c ≠ p) (h : Bag H b c) : Bag H' b c :=
  h.ed e (fun z => hb (List.mem_singleton.mp z)) (fun z => hc (List.mem_singleton.mp z))
theorem Bag.ne {H : Hp} {b c : Addr} (h : Bag H b c) : b ≠ c := by
  obtain ⟨ns, a, r, s, B⟩ := h
  exact ne_of B.ob B.cl (by intro z; cases z)
theorem Bag.fb {H : Hp} {b c p : Addr} (h : Bag H b c) (n : H p = none) : b ≠ p ∧ c ≠ p := by
  obtain ⟨ns, a, r, s, B⟩ := h
  exact ⟨ne_of_none B.ob n, ne_of_none B.cl n⟩
theorem cut_ns {ns : List Int} (h : ns.length ≤ 63) : cutV (ns.map V.int) none (some 63) = ns.map V.int := by
  have e := Vc.cut_take (ns.map V.int) 63
  rw [List.take_of_length_le (by rw [List.length_map]; exact h)] at e
  exact e
def spBag (K : PySem.W.Frag) : Sp := fun vs H Q _ => ∃ (p : Addr) (ns : List Int), vs = [.ref p] ∧ SqL K H p (ns.map V.int) ∧ ns.length ≤ 63 ∧
  ∀ b c H', Vc.Ed [] H H' → Bag H' b c → H b = none → H c = none → Q (.ref b) H'
def spDraw : Sp := fun vs H Q _ => ∃ (b c : Addr) (n : Int), vs = [.ref b, .int n] ∧ Bag H b c ∧ 1 ≤ n ∧ n < 2 ^ 190 ∧
  ∀ i H', 0 ≤ i → i < n → Vc.Ed [b] H H' → Bag H' b c → Q (.int i) H'
section
variable {P : Program} {w : World} {K : PySem.W.Frag} {mg : Str → Option Value} {base : Heap} {A : Ad}
theorem ok__law_draw (T : Txt K mg A) : FnOk P w K mg base CX0 1 A.f__law_draw A.d__law_draw ["_law_bag_here", "_law_limit"] spDraw := by
  refine T.F__law_draw.ok sc__law_draw (fun vs H Q E h => ?_) (fun cdv Ar outer s H vs Q E hr h => ?_)
  · obtain ⟨b, c, n, rfl, _⟩ := h
    rfl
  · obtain ⟨b, c, n, rfl, hB, n1, n2, k⟩ := h
    have hu := hu_of hr
    refine ⟨_, (Evl.pss_cut (ps_while PassesOwn.never (PW.pt (pw_and (pt_cmpR op_lt (pe_dget (by exact hu) (pv 0) pe_str (fun _ _ => rfl)) pe_int (nomark _)) (pw_and1 (pt_cmpR op_lt (pe_dget (by exact hu) (pv 0) pe_str (fun _ _ => rfl)) (pe_callB call_len_seq (by rfl) T.n_len (by decide +kernel) (pa_cons (pe_dget (by exact hu) (pv 0) pe_str (fun _ _ => rfl)) pa_nil)) (nomark _))))) (pss_cons (ps_set (i := 2) sc__law_draw.nd rfl (Or.inl rfl) (pe_callB call_abs (by rfl) T.n_abs (by decide +kernel) (pa_cons (pe_ix ix_list (pe_dget (by exact hu) (pv 0) pe_str (fun _ _ => rfl)) (pe_dget (by exact hu) (pv 0) pe_str (fun _ _ => rfl)) (fun _ _ => rfl)) pa_nil))) (pss_cons (ps_dput (by exact hu) (pv 0) pe_str (pe_op op_add (pe_dget (by exact hu) (pv 0) pe_str (fun _ _ => rfl)) pe_int) rfl) (pss_cons (ps_if (pt_cmpR op_lt (pv 2) (pe_op op_pow pe_int pe_int) (nomark _)) (pss_cons (ps_set (i := 3) sc__law_draw.nd rfl (Or.inl rfl) (pe_op op_mod (pe_callTy call_int1 (by rfl) T.n_int (by decide +kernel) (pa_cons (pe_op op_add (pe_op op_pow (pe_op op_add (pv 2) pe_int) pe_int) (pe_op op_mulW (pe_dget (by exact hu) (pv 0) pe_str (fun _ _ => rfl)) (pe_op op_add (pe_dget (by exact hu) (pv 0) pe_str (fun _ _ => rfl)) pe_int))) pa_nil)) pe_int)) (pss_one (ps_ret (pe_op op_mod (pv 3) (pv 1))))) pss_nil) (pss_one (ps_dput (by exact hu) (pv 0) pe_str (pv 2) rfl)))))) (pss_cons (ps_if (pt_cmpR op_ge (pe_dget (by exact hu) (pv 0) pe_str (fun _ _ => rfl)) pe_int (nomark _)) (pss_cons (ps_set (i := 4) sc__law_draw.nd rfl (Or.inl rfl) (pe_op op_mod (pe_callTy call_int1 (by rfl) T.n_int (by decide +kernel) (pa_cons (pe_dget (by exact hu) (pv 0) pe_str (fun _ _ => rfl)) pa_nil)) (pv 1))) (pss_cons (ps_dput (by exact hu) (pv 0) pe_str (pe_op op_fdivW (pe_dget (by exact hu) (pv 0) pe_str (fun _ _ => rfl)) (pv 1)) rfl) (pss_one (ps_ret (pv 4))))) pss_nil) (pss_cons (ps_dput (by exact hu) (pv 0) pe_str (pe_op op_mod (pe_callTy call_int1 (by rfl) T.n_int (by decide +kernel) (pa_cons (pe_op op_add (pe_op op_mulW (pe_dget (by exact hu) (pv 0) pe_str (fun _ _ => rfl)) pe_int) pe_int) pa_nil)) pe_int) rfl) (pss_one (ps_ret (pe_op op_mod (pe_op op_mod (pe_callTy call_int1 (by rfl) T.n_int (by decide +kernel) (pa_cons (pe_op op_pow (pe_dget (by exact hu) (pv 0) pe_str (fun _ _ => rfl)) pe_int) pa_nil)) pe_int) (pv 1))))))), ?_⟩
    obtain ⟨ns, a, r, s, B⟩ := hB
    refine Evl.q_cut (M := fun σ H' => ∃ y3 y4 a r s, σ = [some (.ref b), some (.int n), y3, y4, none] ∧ BagS H' b c ns a r s ∧ Vc.Ed [b] H H') ?_ ?_
    · -- the loop
      refine ⟨fun m σ H' => ∃ y3 y4 a r s, σ = [some (.ref b), some (.int n), y3, y4, none] ∧ BagS H' b c ns a r s ∧ Vc.Ed [b] H H' ∧ m = ns.length - a.toNat, ⟨_, none, none, a, r, s, rfl, B, Vc.Ed.refl, rfl⟩, ?_⟩
      rintro m σ H1 ⟨y3, y4, a, r, s, rfl, B, e1, rfl⟩
      obtain ⟨hb, hc, hl, ha, ha1, hr0, hs0, hs1⟩ := id B
      walk_at "go"
      refine Vc.go_ite (fun h1 => ?_) (fun h1 => ?_)
      · walk_at "go"
        refine Vc.go_ite (fun h2 => ?_) (fun h2 => ?_)
        · rw [List.length_map] at h2
          refine ⟨fun σ' H' => ∃ y3 y4 a' r s, σ' = [some (.ref b), some (.int n), y3, y4, none] ∧ BagS H' b c ns a' r s ∧ Vc.Ed [b] H H' ∧ ns.length - a'.toNat < ns.length - a.toNat, ?_, ?_⟩
          · rintro σ' H' ⟨y3, y4, a', r, s, e, B', e', l⟩
            exact ⟨_, l, y3, y4, a', r, s, e, B', e', rfl⟩
          have hi : (ns.map V.int)[a.toNat]? = some (.int (ns.getD a.toNat 0)) := by
            rw [List.getElem?_map, List.getElem?_eq_getElem (by omega)]
            simp [List.getD, List.getElem?_eq_getElem (show a.toNat < ns.length by omega)]
          have hx : atI (ns.map V.int) a = some (.int (ns.getD a.toNat 0)) := at_of (by omega) hi
          generalize ns.getD a.toNat 0 = cell at hx
          walk_at "go"
          rw [bag_put_at]
          generalize hu2 : upd _ b _ = H2
          obtain ⟨e2, hb2⟩ := Vc.chg hu2 hb
          generalize hce : (if cell < 0 then -cell else cell) = cl
          have hc0 : 0 ≤ cl := by rw [← hce]; split <;> omega
          walk_at "go"
          refine Vc.go_ite (fun h3 => ?_) (fun h3 => ?_)
          · simp only [Int.reduceToNat, Int.reducePow] at h3
            walk_at "go"
            exact k _ _ (Int.emod_nonneg _ (by omega)) (Int.emod_lt_of_pos _ (by omega)) (by walk_at "ed") ⟨ns, a + 1, r, s, hb2, by walk_at "hs", hl, by omega, by omega, hr0, hs0, hs1⟩
          · walk_at "go"
            rw [bag_put_rest]
            generalize hu3 : upd _ b _ = H3
            obtain ⟨e3, hb3⟩ := Vc.chg hu3 hb2
            exact ⟨_, _, _, _, _, rfl, ⟨hb3, by walk_at "hs", hl, by omega, by omega, hc0, hs0, hs1⟩, by walk_at "ed", by omega⟩
        · exact ⟨_, _, _, _, _, rfl, B, e1⟩
      · walk_at "go"
        exact ⟨_, _, _, _, _, rfl, B, e1⟩
    · rintro σ H1 ⟨y3, y4, a, r, s, rfl, B, e1⟩
      obtain ⟨hb, hc, hl, ha, ha1, hr0, hs0, hs1⟩ := id B
      walk_at "go"
      refine Vc.go_ite (fun h1 => ?_) (fun h1 => ?_)
      · walk_at "go"
        rw [bag_put_rest]
        generalize hu3 : upd _ b _ = H3
        obtain ⟨e3, hb3⟩ := Vc.chg hu3 hb
        walk_at "go"
        exact k _ _ (Int.emod_nonneg _ (by omega)) (Int.emod_lt_of_pos _ (by omega)) (by walk_at "ed") ⟨ns, a, _, s, hb3, by walk_at "hs", hl, by omega, by omega, Int.ediv_nonneg hr0 (by omega), hs0, hs1⟩
      · walk_at "go"
        rw [bag_put_state]
        generalize hu3 : upd _ b _ = H3
        obtain ⟨e3, hb3⟩ := Vc.chg hu3 hb
        walk_at "go"
        exact k _ _ (Int.emod_nonneg _ (by omega)) (Int.emod_lt_of_pos _ (by omega)) (by walk_at "ed") ⟨ns, a, r, _, hb3, by walk_at "hs", hl, by omega, by omega, hr0, Int.emod_nonneg _ (by omega), Int.emod_lt_of_pos _ (by omega)⟩
end
section
variable {P : Program} {w : World} {K : PySem.W.Frag} {mg : Str → Option Value} {base : Heap} {A : Ad}
theorem ok__law_bag (T : Txt K mg A) : FnOk P w K mg base CX0 1 A.f__law_bag A.d__law_bag ["_law_script"] (spBag K) := by
  refine T.F__law_bag.ok sc__law_bag (fun vs H Q E h => ?_) (fun cdv Ar outer s H vs Q E hr h => ?_)
  · obtain ⟨p, ns, rfl, _⟩ := h
    rfl
  · obtain ⟨p, ns, rfl, hS, hl, k⟩ := h
    refine ⟨_, (pss_cons (ps_set (i := 1) sc__law_bag.nd rfl (Or.inl rfl) pe_int) (pss_cons (ps_for PassesOwn.never rfl (pi_list (pe_slice sl_list (pv 0) po_none (po_some pe_int))) (pg_name (i := 2) sc__law_bag.nd rfl (Or.inl rfl)) (pss_one (ps_set (i := 1) sc__law_bag.nd rfl (Or.inl rfl) (pe_op op_mod (pe_callTy call_int1 (by rfl) T.n_int (by decide +kernel) (pa_cons (pe_op op_add (pe_op op_add (pe_op op_mulW (pv 1) pe_int) (pe_op op_mod (pe_callB call_abs (by rfl) T.n_abs (by decide +kernel) (pa_cons (pv 2) pa_nil)) pe_int)) pe_int) pa_nil)) pe_int)))) (pss_one (ps_ret (pe_disp (pps_cons pe_str (pe_callTy call_list_of (by rfl) T.n_list (by decide +kernel) (pa_cons (pe_slice sl_list (pv 0) po_none (po_some pe_int)) pa_nil)) (pps_cons pe_str pe_int (pps_cons pe_str pe_int (pps_cons pe_str (pv 1) pps_nil)))) (by rfl) (by rfl) (fun z => by cases z) (by decide)))))), ?_⟩
    walk_at "go"
    intro q nq
    generalize hu : upd _ q _ = H2
    obtain ⟨e2, hq⟩ := Vc.alloc hu nq
    refine ⟨q, rfl, ⟨_, by walk_at "hs"⟩, for_list (xs := cutV (ns.map V.int) none (some 63)) (fun i σ H' => ∃ z y, σ = [some (.ref p), some (.int z), y] ∧ 0 ≤ z ∧ z < 2147483647 ∧ H' = H2) ⟨7, none, rfl, by omega, by omega, rfl⟩ ?_ ?_ ?_⟩
    · rintro i σ H' _ ⟨z, y, rfl, _, _, rfl⟩
      walk_at "hs"
    · rintro i x σ H' hi ⟨z, y, rfl, z0, z1, rfl⟩
      have hx : ∃ n, x = .int n := by
        have h1 : x ∈ cutV (ns.map V.int) none (some 63) := List.mem_of_getElem? hi
        unfold cutV at h1
        have h2 := List.mem_of_mem_drop (List.mem_of_mem_take h1)
        obtain ⟨n, _, rfl⟩ := List.mem_map.mp h2
        exact ⟨n, rfl⟩
      obtain ⟨n, rfl⟩ := hx
      walk_at "go"
      generalize (if n < 0 then -n else n) = m
      walk_at "go"
      exact ⟨_, _, rfl, Int.emod_nonneg _ (by omega), Int.emod_lt_of_pos _ (by omega), rfl⟩
    · rintro σ H' ⟨z, y, rfl, z0, z1, rfl⟩
      walk_at "go"
      intro b nb
      generalize hu3 : upd _ b _ = H3
      obtain ⟨e3, hb⟩ := Vc.alloc hu3 nb
      walk_at "go"
      intro q2 nq2
      generalize hu4 : upd _ q2 _ = H4
      obtain ⟨e4, hq2⟩ := Vc.alloc hu4 nq2
      walk_at "go"
      intro c nc
      generalize hu5 : upd _ c _ = H5
      obtain ⟨e5, hc⟩ := Vc.alloc hu5 nc
      walk_at "go"
      refine ⟨by walk_at "hs", bagK c 0 0 z, rfl, by show 4 ≤ 15; decide, ?_⟩
      generalize hu6 : upd _ b _ = H6
      obtain ⟨e6, hb6⟩ := Vc.chg hu6 (by walk_at "hs" : H5 b = some (.dK []))
      have hm : mergeK [] (bagK c 0 0 z) = bagK c 0 0 z := rfl
      rw [hm] at hb6
      rw [cut_ns hl] at hc
      exact k b c H6 (by walk_at "ed") ⟨ns, 0, 0, z, hb6, by walk_at "hs", hl, by omega, by omega, by omega, z0, z1⟩ (by walk_at "free") (by walk_at "free")
end

end My
namespace My
open PySem PySem.Spec PyProof.Rows L2
/-! ### _law_same: data that are the same -/
def Atom (d : PyData) : Prop := d = .none ∨ (∃ b, d = .bool b) ∨ (∃ i, d = .int i) ∨ ∃ x, d = .str x
def Shal : Nat → PyData → Prop
  | 0, d => Atom d
  | n + 1, d => Atom d ∨ ∃ ds, (d = .list ds ∨ d = .tuple ds) ∧ ds.length ≤ 1000 ∧ ∀ x ∈ ds, Shal n x
def spSame (K : PySem.W.Frag) : Nat → Sp
  | 0 => fun _ _ _ _ => False
  | n + 1 => fun vs H Q _ => ∃ (x y : V) (d : PyData), vs = [x, y] ∧ Shal n d ∧ Dp K H x d ∧ Dp K H y d ∧ ∀ H', Vc.Ed [] H H' → Q (.bl true) H'
theorem dpAll_len {K : PySem.W.Frag} {H : Hp} : ∀ {xs : List V} {ds : List PyData}, DpAll K H xs ds → xs.length = ds.length
  | _, _, .nil => rfl
  | _, _, .cons _ t => congrArg (· + 1) (dpAll_len t)
theorem dpAll_get {K : PySem.W.Frag} {H : Hp} : ∀ {xs : List V} {ds : List PyData} {i : Nat} {d : PyData}, DpAll K H xs ds → ds[i]? = some d → ∃ x, xs[i]? = some x ∧ Dp K H x d
  | _, _, _, _, .nil, e => by simp at e
  | _, _, 0, _, .cons h _, e => by simp at e; subst e; exact ⟨_, rfl, h⟩
  | _, _, i + 1, d, .cons _ t, e => by
    obtain ⟨x, h1, h2⟩ := dpAll_get (i := i) (d := d) t (by simpa using e)
    exact ⟨x, by simpa using h1, h2⟩
section
variable {P : Program} {w : World} {K : PySem.W.Frag} {mg : Str → Option Value} {base : Heap} {A : Ad}
theorem ok__law_same (T : Txt K mg A) : ∀ n, FnOk P w K mg base CX0 n A.f__law_same A.d__law_same ["_law_actual", "_law_expected"] (spSame K n)
  | 0 => ⟨fun _ _ _ _ h => h.elim, fun _ _ _ _ _ _ _ _ _ _ _ _ _ h => h.elim⟩
  | n + 1 => by
    have G__law_same := ok__law_same T n
    refine T.F__law_same.ok sc__law_same (fun vs H Q E h => ?_) (fun cdv Ar outer s H vs Q E hr h => ?_)
    · obtain ⟨x, y, d, rfl, _⟩ := h
      rfl
    · obtain ⟨x, y, d, rfl, hd, hx, hy, k⟩ := h
      refine ⟨_, (pss_cons (ps_if (pt_val (pe_callB call_isiT (by rfl) T.n_isinstance (by decide +kernel) (pa_cons (pv 1) (pa_cons (pe_tup (pa_cons (pe_bltn (v := .ty "tuple") (by rfl) T.n_tuple (by decide +kernel) rfl) (pa_cons (pe_bltn (v := .ty "list") (by rfl) T.n_list (by decide +kernel) rfl) pa_nil))) pa_nil)))) (pss_cons (ps_if (PW.pt (pw_or (pt_cmpR op_ne (pe_callB call_isi (by rfl) T.n_isinstance (by decide +kernel) (pa_cons (pv 1) (pa_cons (pe_bltn (v := .ty "tuple") (by rfl) T.n_tuple (by decide +kernel) rfl) pa_nil))) (pe_callB call_isi (by rfl) T.n_isinstance (by decide +kernel) (pa_cons (pv 0) (pa_cons (pe_bltn (v := .ty "tuple") (by rfl) T.n_tuple (by decide +kernel) rfl) pa_nil))) (nomark _)) (pw_or1 (pt_not (pt_val (pe_callB call_isiT (by rfl) T.n_isinstance (by decide +kernel) (pa_cons (pv 0) (pa_cons (pe_tup (pa_cons (pe_bltn (v := .ty "tuple") (by rfl) T.n_tuple (by decide +kernel) rfl) (pa_cons (pe_bltn (v := .ty "list") (by rfl) T.n_list (by decide +kernel) rfl) pa_nil))) pa_nil)))))))) (pss_one (ps_ret pe_bl)) pss_nil) (pss_cons (ps_if (pt_cmpR op_ne (pe_callB call_len_seq (by rfl) T.n_len (by decide +kernel) (pa_cons (pv 0) pa_nil)) (pe_callB call_len_seq (by rfl) T.n_len (by decide +kernel) (pa_cons (pv 1) pa_nil)) (nomark _)) (pss_one (ps_ret pe_bl)) pss_nil) (pss_cons (ps_for PassesOwn.never rfl (pi_range1 (by rfl) T.n_range (pa_cons (pe_callB call_len_seq (by rfl) T.n_len (by decide +kernel) (pa_cons (pv 1) pa_nil)) pa_nil)) (pg_name (i := 2) sc__law_same.nd rfl (Or.inl rfl)) (pss_one (ps_if (pt_not (pt_val (pe_call G__law_same hr (by rfl) T.g__law_same T.F__law_same.kp T.b__law_same .nil pass0 (pa_cons (pe_ix ix_seq (pv 0) (pv 2) (fun _ _ => rfl)) (pa_cons (pe_ix ix_seq (pv 1) (pv 2) (fun _ _ => rfl)) pa_nil))))) (pss_one (ps_ret pe_bl)) pss_nil))) (pss_one (ps_ret pe_bl))))) pss_nil) (pss_cons (ps_if (pt_cmpR op_isN (pv 1) pe_non (nomark _)) (pss_one (ps_ret (pe_cmpR op_isN (pv 0) pe_non (nomark _)))) pss_nil) (pss_cons (ps_if (pt_val (pe_callB call_isi (by rfl) T.n_isinstance (by decide +kernel) (pa_cons (pv 1) (pa_cons (pe_bltn (v := .ty "bool") (by rfl) T.n_bool (by decide +kernel) rfl) pa_nil)))) (pss_one (ps_ret (pe_and (pe_callB call_isi (by rfl) T.n_isinstance (by decide +kernel) (pa_cons (pv 0) (pa_cons (pe_bltn (v := .ty "bool") (by rfl) T.n_bool (by decide +kernel) rfl) pa_nil))) (pe_one (pe_cmpR op_eq (pv 0) (pv 1) (nomark _)))))) pss_nil) (pss_cons (ps_if (pt_val (pe_callB call_isi (by rfl) T.n_isinstance (by decide +kernel) (pa_cons (pv 1) (pa_cons (pe_bltn (v := .ty "int") (by rfl) T.n_int (by decide +kernel) rfl) pa_nil)))) (pss_one (ps_ret (pe_and (pe_callB call_isi (by rfl) T.n_isinstance (by decide +kernel) (pa_cons (pv 0) (pa_cons (pe_bltn (v := .ty "int") (by rfl) T.n_int (by decide +kernel) rfl) pa_nil))) (pe_and (pe_not (pe_callB call_isi (by rfl) T.n_isinstance (by decide +kernel) (pa_cons (pv 0) (pa_cons (pe_bltn (v := .ty "bool") (by rfl) T.n_bool (by decide +kernel) rfl) pa_nil)))) (pe_one (pe_cmpR op_eq (pv 0) (pv 1) (nomark _))))))) pss_nil) (pss_one (ps_ret (pe_and (pe_callB call_isi (by rfl) T.n_isinstance (by decide +kernel) (pa_cons (pv 0) (pa_cons (pe_bltn (v := .ty "str") (by rfl) T.n_str (by decide +kernel) rfl) pa_nil))) (pe_one (pe_cmpR op_eq (pv 0) (pv 1) (nomark _)))))))))), ?_⟩
      cases hy with
      | non =>
        cases hx
        walk_at "go"
        intro p np
        generalize hu : upd _ p _ = H1
        obtain ⟨e1, hp⟩ := Vc.alloc hu np
        walk_at "go"
        exact k _ (by walk_at "ed")
      | bl b =>
        cases hx
        walk_at "go"
        intro p np
        generalize hu : upd _ p _ = H1
        obtain ⟨e1, hp⟩ := Vc.alloc hu np
        walk_at "go"
        show Q (.bl (decide _)) H1
        rw [decide_eq_true rfl]
        exact k _ (by walk_at "ed")
      | int i =>
        cases hx
        walk_at "go"
        intro p np
        generalize hu : upd _ p _ = H1
        obtain ⟨e1, hp⟩ := Vc.alloc hu np
        walk_at "go"
        show Q (.bl (decide _)) H1
        rw [decide_eq_true rfl]
        exact k _ (by walk_at "ed")
      | str z =>
        cases hx
        walk_at "go"
        intro p np
        generalize hu : upd _ p _ = H1
        obtain ⟨e1, hp⟩ := Vc.alloc hu np
        walk_at "go"
        show Q (.bl (decide _)) H1
        rw [decide_eq_true rfl]
        exact k _ (by walk_at "ed")
      | @lst a1 xs1 ds ha ea =>
        cases hx with
        | @lst a2 xs2 _ hb eb =>
        have l1 := dpAll_len ea
        have l2 := dpAll_len eb
        obtain ⟨m, rfl, hn, hds⟩ : ∃ m, n = m + 1 ∧ ds.length ≤ 1000 ∧ ∀ x ∈ ds, Shal m x := by
          cases n with
          | zero => rcases hd with h | ⟨_, h⟩ | ⟨_, h⟩ | ⟨_, h⟩ <;> cases h
          | succ m =>
            rcases hd with (h | ⟨_, h⟩ | ⟨_, h⟩ | ⟨_, h⟩) | ⟨ds', h | h, h1, h2⟩
            all_goals first | (cases h; exact ⟨m, rfl, h1, h2⟩) | cases h
        walk_at "go"
        intro p np
        generalize hu : upd _ p _ = H1
        obtain ⟨e1, hp⟩ := Vc.alloc hu np
        walk_at "go"
        intro p2 np2
        generalize hu2 : upd _ p2 _ = H2
        obtain ⟨e2, hp2⟩ := Vc.alloc hu2 np2
        walk_at "go"
        refine Vc.go_iten (fun h => (h (by omega)).elim) (fun _ => ?_)
        walk_at "go"
        refine ⟨by omega, by omega, for_range (lo := 0) (fun i σ H' => ∃ y3, σ = [some (.ref a2), some (.ref a1), y3] ∧ Vc.Ed [] H2 H') ⟨none, rfl, Vc.Ed.refl⟩ ?_ ?_⟩
        · rintro i σ H3 hi ⟨y3, rfl, e3⟩
          obtain ⟨d, hd⟩ : ∃ d, ds[i]? = some d := ⟨ds[i]'(by omega), List.getElem?_eq_getElem (by omega)⟩
          obtain ⟨v1, g1, q1⟩ := dpAll_get ea hd
          obtain ⟨v2, g2, q2⟩ := dpAll_get eb hd
          have x1 : atI xs1 (0 + (i : Int)) = some v1 := at_of (by omega) g1
          have x2 : atI xs2 (0 + (i : Int)) = some v2 := at_of (by omega) g2
          walk_at "go"
          refine Or.inl ?_
          walk_at "go"
          refine Or.inl ?_
          walk_at "go"
          refine ⟨v2, v1, d, rfl, hds d (List.mem_of_getElem? hd), ?_, ?_, fun H4 e4 => ?_⟩
          · exact Vc.Dp.ed0 e3 (Vc.Dp.ed0 e2 (Vc.Dp.ed0 e1 q2))
          · exact Vc.Dp.ed0 e3 (Vc.Dp.ed0 e2 (Vc.Dp.ed0 e1 q1))
          walk_at "go"
          exact ⟨_, rfl, by walk_at "ed"⟩
        · rintro σ H3 ⟨y3, rfl, e3⟩
          walk_at "go"
          exact k _ (by walk_at "ed")
      | @tup a1 xs1 ds ha ea =>
        cases hx with
        | @tup a2 xs2 _ hb eb =>
        have l1 := dpAll_len ea
        have l2 := dpAll_len eb
        obtain ⟨m, rfl, hn, hds⟩ : ∃ m, n = m + 1 ∧ ds.length ≤ 1000 ∧ ∀ x ∈ ds, Shal m x := by
          cases n with
          | zero => rcases hd with h | ⟨_, h⟩ | ⟨_, h⟩ | ⟨_, h⟩ <;> cases h
          | succ m =>
            rcases hd with (h | ⟨_, h⟩ | ⟨_, h⟩ | ⟨_, h⟩) | ⟨ds', h | h, h1, h2⟩
            all_goals first | (cases h; exact ⟨m, rfl, h1, h2⟩) | cases h
        walk_at "go"
        intro p np
        generalize hu : upd _ p _ = H1
        obtain ⟨e1, hp⟩ := Vc.alloc hu np
        walk_at "go"
        intro p2 np2
        generalize hu2 : upd _ p2 _ = H2
        obtain ⟨e2, hp2⟩ := Vc.alloc hu2 np2
        walk_at "go"
        refine Vc.go_iten (fun h => (h (by omega)).elim) (fun _ => ?_)
        walk_at "go"
        refine ⟨by omega, by omega, for_range (lo := 0) (fun i σ H' => ∃ y3, σ = [some (.ref a2), some (.ref a1), y3] ∧ Vc.Ed [] H2 H') ⟨none, rfl, Vc.Ed.refl⟩ ?_ ?_⟩
        · rintro i σ H3 hi ⟨y3, rfl, e3⟩
          obtain ⟨d, hd⟩ : ∃ d, ds[i]? = some d := ⟨ds[i]'(by omega), List.getElem?_eq_getElem (by omega)⟩
          obtain ⟨v1, g1, q1⟩ := dpAll_get ea hd
          obtain ⟨v2, g2, q2⟩ := dpAll_get eb hd
          have x1 : atI xs1 (0 + (i : Int)) = some v1 := at_of (by omega) g1
          have x2 : atI xs2 (0 + (i : Int)) = some v2 := at_of (by omega) g2
          walk_at "go"
          refine Or.inr <| Or.inl ?_
          walk_at "go"
          refine Or.inr <| Or.inl ?_
          walk_at "go"
          refine ⟨v2, v1, d, rfl, hds d (List.mem_of_getElem? hd), ?_, ?_, fun H4 e4 => ?_⟩
          · exact Vc.Dp.ed0 e3 (Vc.Dp.ed0 e2 (Vc.Dp.ed0 e1 q2))
          · exact Vc.Dp.ed0 e3 (Vc.Dp.ed0 e2 (Vc.Dp.ed0 e1 q1))
          walk_at "go"
          exact ⟨_, rfl, by walk_at "ed"⟩
        · rintro σ H3 ⟨y3, rfl, e3⟩
          walk_at "go"
          exact k _ (by walk_at "ed")
end

end My
namespace My
open PySem PySem.Spec PyProof.Rows L2
/-! ### bytes, names, forms, code sets -/
def LET : List Nat := [97, 98, 99, 100, 101, 102, 103, 104, 105, 106, 107, 108, 109, 110, 111, 112, 113, 114, 115, 116, 117, 118, 119, 120, 121, 122]
theorem letters_eq : ("abcdefghijklmnopqrstuvwxyz" : Str).cps.toList = LET := by decide +kernel
def spIsByte : Sp := fun vs H Q _ => ∃ n : Int, vs = [.int n] ∧ ∀ H', Vc.Ed [] H H' → Q (.bl (decide (0 ≤ n ∧ n ≤ 255))) H'
def spIsName : Sp := fun vs H Q _ => ∃ z : Str, vs = [.str z] ∧ 1 ≤ z.length ∧ z.length ≤ 8 ∧ (∀ c ∈ z.cps.toList, c ∈ LET) ∧ ∀ H', Vc.Ed [] H H' → Q (.bl true) H'
section
variable {P : Program} {w : World} {K : PySem.W.Frag} {mg : Str → Option Value} {base : Heap} {A : Ad}
theorem ok_is_byte (T : Txt K mg A) : FnOk P w K mg base CX0 1 A.f_is_byte A.d_is_byte ["value"] spIsByte := by
  refine T.F_is_byte.ok sc_is_byte (fun vs H Q E h => ?_) (fun cdv Ar outer s H vs Q E hr h => ?_)
  · obtain ⟨n, rfl, _⟩ := h
    rfl
  · obtain ⟨n, rfl, k⟩ := h
    refine ⟨_, (pss_one (ps_ret (pe_and (pe_callB call_isi (by rfl) T.n_isinstance (by decide +kernel) (pa_cons (pv 0) (pa_cons (pe_bltn (v := .ty "int") (by rfl) T.n_int (by decide +kernel) rfl) pa_nil))) (pe_and (pe_not (pe_callB call_isi (by rfl) T.n_isinstance (by decide +kernel) (pa_cons (pv 0) (pa_cons (pe_bltn (v := .ty "bool") (by rfl) T.n_bool (by decide +kernel) rfl) pa_nil)))) (pe_one (pe_chain op_le op_le pe_int (pv 0) pe_int)))))), ?_⟩
    walk_at "go"
    refine Vc.go_ite (fun h1 => ?_) (fun h1 => ?_)
    · walk_at "go"
      have e : decide (0 ≤ n ∧ n ≤ 255) = decide (n ≤ 255) := by rw [Bool.eq_iff_iff]; simp [h1]
      have := k H Vc.Ed.refl
      rw [e] at this
      exact this
    · have e : decide (0 ≤ n ∧ n ≤ 255) = false := decide_eq_false (by omega)
      have := k H Vc.Ed.refl
      rw [e] at this
      exact this
theorem ok_is_name (T : Txt K mg A) : FnOk P w K mg base CX0 1 A.f_is_name A.d_is_name ["value"] spIsName := by
  refine T.F_is_name.ok sc_is_name (fun vs H Q E h => ?_) (fun cdv Ar outer s H vs Q E hr h => ?_)
  · obtain ⟨n, rfl, _⟩ := h
    rfl
  · obtain ⟨z, rfl, z1, z2, zl, k⟩ := h
    obtain ⟨_, gc_LETTERS⟩ := T.g_LETTERS
    have lz : z.length ≤ 1000 := by omega
    refine ⟨_, (pss_one (ps_ret (pe_and (pe_callB call_isi (by rfl) T.n_isinstance (by decide +kernel) (pa_cons (pv 0) (pa_cons (pe_bltn (v := .ty "str") (by rfl) T.n_str (by decide +kernel) rfl) pa_nil))) (pe_and (pe_chain op_le op_le pe_int (pe_callB call_len_str (by rfl) T.n_len (by decide +kernel) (pa_cons (pv 0) pa_nil)) pe_int) (pe_one (pe_callB (cr_all rfl) (by rfl) T.n_all (by decide +kernel) (pa_cons (pe_lc (own := [("sign", 1)]) (g := gName 1) rfl sc_is_name.nd (pi_str (pv 0)) (blkOk_by (own := [("sign", 1)]) (N := ["value", "sign"]) (sc := defScope s_is_name) (by decide +kernel)) (fun _ _ _ _ _ => by exact (pg_name (i := 1) sc_is_name.nd rfl (Or.inl rfl))) (fun _ _ _ _ _ => by exact pts_nil) (fun _ _ _ _ _ => by (refine' Vc.blkE ?h ?q; (case h => exact (pe_cmpR op_in_sign (pv 1) (pe_glob (v := .str "abcdefghijklmnopqrstuvwxyz") (by rfl) gc_LETTERS ⟨_, rfl⟩) rfl)); (case q => first | exact rfl | (dsimp only; done) | (dsimp only; exact rfl))))) pa_nil))))))), ?_⟩
    walk_at "goo"
    refine Vc.lc_by walk_str (fun L i H' => Vc.Ed [] H H' ∧ H' L = some (.lst (List.replicate i (.bl true)))) (fun L H2 nL e hL => ⟨e, hL⟩) (fun _ _ _ _ _ _ => trivial) ?_ ?_
    · rintro L i x H1 H' nL hi ⟨e1, hL⟩ ⟨rfl, c, hc, rfl⟩
      have hcl : c ∈ z.cps.toList := by
        rw [Array.mem_toList_iff]
        exact Array.mem_of_getElem? hc
      walk_at "go"
      refine ⟨rfl, ?_⟩
      walk_at "go"
      refine ⟨_, hL, by rw [List.length_replicate]; exact small1000 (by have : z.cps.size = z.length := rfl; omega), ?_⟩
      rw [letters_eq, decide_eq_true (zl c hcl)]
      generalize hu : upd _ L _ = H2
      obtain ⟨e2, hL2⟩ := Vc.chg hu hL
      refine ⟨by walk_at "ed", ?_⟩
      rw [hL2, List.replicate_succ']
    · rintro L H' nL ⟨e1, hL⟩
      walk_at "go"
      refine ⟨L, List.replicate z.cps.size true, rfl, ?_, ?_⟩
      · rw [List.map_replicate]
        exact SqL.of hL
      · have : (List.replicate z.cps.size true).all id = true := by simp
        rw [this]
        exact k _ e1
end
theorem nodup_inl {l : List Int} (h : l.Nodup) : (l.map (fun b => (Sum.inl b : Key))).Nodup := by
  induction l with
  | nil => exact List.nodup_nil
  | cons a r ih =>
    rw [List.nodup_cons] at h
    rw [List.map_cons, List.nodup_cons]
    refine ⟨fun z => ?_, ih h.2⟩
    obtain ⟨b, hb, e⟩ := List.mem_map.mp z
    cases e
    exact h.1 hb
/-! ### a form -/
structure FD where
  byte : Int
  name : Str
  len : Int
  flow : Str
def Flow (x : Str) : Prop := x = "next" ∨ x = "jump" ∨ x = "test" ∨ x = "end"
structure FD.Ok (f : FD) : Prop where
  n1 : 1 ≤ f.name.length
  n8 : f.name.length ≤ 8
  nl : ∀ c ∈ f.name.cps.toList, c ∈ LET
  l1 : 1 ≤ f.len
  l4 : f.len ≤ 4
  fl : Flow f.flow
  two : f.flow = "jump" ∨ f.flow = "test" → 2 ≤ f.len
def formF (n : Str) (l : Int) (f : Str) : List (Str × V) := [("name", .str n), ("length", .int l), ("flow", .str f)]
def FormAt (A : Ad) (H : Hp) (p : Addr) (f : FD) : Prop := ∃ dx, H p = some (.ins A.C_Form dx (formF f.name f.len f.flow))
theorem form_name {n l f} : (formF n l f).lookup ("name" : Str) = some (.str n) := rfl
theorem form_length {n l f} : (formF n l f).lookup ("length" : Str) = some (.int l) := rfl
theorem form_flow {n l f} : (formF n l f).lookup ("flow" : Str) = some (.str f) := rfl
theorem form_put {n l f} : putF "flow" (.str f) (putF "length" (.int l) (putF "name" (.str n) [])) = formF n l f := rfl
theorem inV2 (x a b : Str) : inV (.str x) [.str a, .str b] = decide (x = a ∨ x = b) := by
  rw [Bool.eq_iff_iff, decide_eq_true_eq]
  show (List.any [V.str a, V.str b] fun y => eqV y (V.str x)) = true ↔ _
  simp only [List.any_cons, List.any_nil, Bool.or_false, Bool.or_eq_true, eqV, beq_iff_eq]
  constructor
  · rintro (e | e)
    · exact .inl e.symm
    · exact .inr e.symm
  · rintro (e | e)
    · exact .inl e.symm
    · exact .inr e.symm
def spForm (A : Ad) : Sp := fun vs H Q _ => ∃ (p dx : Addr) (f : FD), vs = [.ref p, .str f.name, .int f.len, .str f.flow] ∧ f.Ok ∧ H p = some (.ins A.C_Form dx []) ∧
  ∀ H', Vc.Ed [p] H H' → FormAt A H' p f → Q .non H'
section
variable {P : Program} {w : World} {K : PySem.W.Frag} {mg : Str → Option Value} {base : Heap} {A : Ad}
theorem ok_Formu_initu (T : Txt K mg A) : FnOk P w K mg base CX0 2 A.f_Formu_initu A.d_Formu_initu ["self", "name", "length", "flow"] (spForm A) := by
  have G_is_name := ok_is_name (P := P) (w := w) (base := base) T
  refine T.F_Formu_initu.ok sc_Formu_initu (fun vs H Q E h => ?_) (fun cdv Ar outer s H vs Q E hr h => ?_)
  · obtain ⟨p, dx, f, rfl, _⟩ := h
    rfl
  · obtain ⟨p, dx, f, rfl, ok, hp, k⟩ := h
    have cr := T.cr_Form
    have cv := T.cv_FLOWS
    have cl := T.cl_Form
    have no1 := T.no_Form_name
    have no2 := T.no_Form_length
    have no3 := T.no_Form_flow
    refine ⟨_, (pss_cons (ps_if (pt_not (pt_val (pe_call G_is_name (by exact hr.mono (by decide)) (by rfl) T.g_is_name T.F_is_name.kp T.b_is_name .nil pass0 (pa_cons (pv 1) pa_nil)))) (pss_one ps_never) pss_nil) (pss_cons (ps_set (i := 4) sc_Formu_initu.nd rfl (Or.inl rfl) (pe_op op_add pe_int (pe_callTy call_int1 (by rfl) T.n_int (by decide +kernel) (pa_cons (pe_cmpR op_in_seq (pv 3) (pe_tup (pa_cons pe_str (pa_cons pe_str pa_nil))) (by rfl)) pa_nil)))) (pss_cons (ps_if (PW.pt (pw_or (pt_not (pt_val (pe_callB call_isi (by rfl) T.n_isinstance (by decide +kernel) (pa_cons (pv 2) (pa_cons (pe_bltn (v := .ty "int") (by rfl) T.n_int (by decide +kernel) rfl) pa_nil))))) (pw_or (pt_val (pe_callB call_isi (by rfl) T.n_isinstance (by decide +kernel) (pa_cons (pv 2) (pa_cons (pe_bltn (v := .ty "bool") (by rfl) T.n_bool (by decide +kernel) rfl) pa_nil)))) (pw_or (pt_cmpR op_lt (pv 2) (pv 4) (nomark _)) (pw_or1 (pt_cmpR op_gt (pv 2) pe_int (nomark _))))))) (pss_one ps_never) pss_nil) (pss_cons (ps_if (pt_cmpR op_notIn_seq (pv 3) (ClX.pe_cval (pe_glob (v := .ref A.C_Form) (by rfl) T.g_Form rfl)) (by rfl)) (pss_one ps_never) pss_nil) (pss_cons (ps_fld (pv 0) (pv 1) rfl) (pss_cons (ps_fld (pv 0) (pv 2) rfl) (pss_one (ps_fld (pv 0) (pv 3) rfl)))))))), ?_⟩
    have qF := T.q_FLOWS
    walk_at "go"
    refine ⟨f.name, rfl, ok.n1, ok.n8, ok.nl, fun H1 e1 => ?_⟩
    walk_at "go"
    intro t nt
    generalize hu : upd _ t _ = H2
    obtain ⟨e2, ht⟩ := Vc.alloc hu nt
    walk_at "go"
    have hb : inV (.str f.flow) [.str "jump", .str "test"] = decide (f.flow = "jump" ∨ f.flow = "test") := inV2 _ _ _
    rw [hb]
    have lb : 1 + (if decide (f.flow = "jump" ∨ f.flow = "test") = true then (1 : Int) else 0) ≤ f.len := by
      split
      · next h => have := ok.two (of_decide_eq_true h); omega
      · have := ok.l1; omega
    generalize 1 + (if decide (f.flow = "jump" ∨ f.flow = "test") = true then (1 : Int) else 0) = m at lb
    have l4 := ok.l4
    walk_at "goo"
    have hf : inV (.str f.flow) [.str "next", .str "jump", .str "test", .str "end"] = true := by
      rcases ok.fl with e | e | e | e <;> rw [e] <;> decide
    rw [hf]
    walk_at "go"
    generalize hu3 : upd _ p _ = H3
    obtain ⟨e3, h3⟩ := Vc.chg hu3 (show H2 p = some (.ins A.C_Form dx []) by walk_at "hs")
    walk_at "go"
    generalize hu4 : upd _ p _ = H4
    obtain ⟨e4, h4⟩ := Vc.chg hu4 h3
    walk_at "go"
    generalize hu5 : upd _ p _ = H5
    obtain ⟨e5, h5⟩ := Vc.chg hu5 h4
    rw [form_put] at h5
    exact k H5 (by walk_at "ed") ⟨dx, h5⟩
end
/-! ### a code set -/
structure Valid (stop : Int) (fs : List FD) : Prop where
  n1 : 1 ≤ fs.length
  n16 : fs.length ≤ 16
  ok : ∀ f ∈ fs, f.Ok
  byt : ∀ f ∈ fs, 0 ≤ f.byte ∧ f.byte ≤ 255 ∧ f.byte ≠ stop
  ndb : (fs.map (·.byte)).Nodup
  ndn : (fs.map (·.name)).Nodup
  s0 : 0 ≤ stop
  s1 : stop ≤ 255
def kvsOf (items : List (FD × Addr)) : List (Key × V) := items.map fun p => (.inl p.1.byte, .ref p.2)
theorem kvsOf_len (items : List (FD × Addr)) : (kvsOf items).length = items.length := List.length_map _
theorem kvsOf_get {items : List (FD × Addr)} {i : Nat} {k : Key} {v : V} (h : (kvsOf items)[i]? = some (k, v)) : ∃ p, items[i]? = some p ∧ k = .inl p.1.byte ∧ v = .ref p.2 := by
  unfold kvsOf at h
  rw [List.getElem?_map] at h
  cases e : items[i]? with
  | none => rw [e] at h; cases h
  | some p => rw [e] at h; cases h; exact ⟨p, rfl, rfl, rfl⟩
/-- what a dict of different first bytes holds at one of them -/
theorem valV_mem {κ : Type} [DecidableEq κ] : ∀ {kvs : List (κ × V)} {k : κ} {v : V}, (kvs.map (·.1)).Nodup → (k, v) ∈ kvs → valV kvs k = some v
  | [], _, _, _, h => by cases h
  | (k', v') :: r, k, v, nd, h => by
    rw [List.map_cons, List.nodup_cons] at nd
    unfold valV
    rw [List.find?_cons]
    rcases List.mem_cons.mp h with e | h
    · cases e
      simp
    · have ne : k' ≠ k := fun e => nd.1 (by rw [e]; exact List.mem_map.mpr ⟨(k, v), h, rfl⟩)
      rw [decide_eq_false ne]
      exact valV_mem nd.2 h
theorem kvsOf_nd {items : List (FD × Addr)} (h : ((items.map (·.1)).map (·.byte)).Nodup) : ((kvsOf items).map (·.1)).Nodup := by
  have e : (kvsOf items).map (·.1) = ((items.map (·.1)).map (·.byte)).map (fun b => (Sum.inl b : Key)) := by
    unfold kvsOf
    simp [List.map_map, Function.comp_def]
  rw [e]
  exact nodup_inl h
theorem kvsOf_val {items : List (FD × Addr)} {p : FD × Addr} (h : ((items.map (·.1)).map (·.byte)).Nodup) (hp : p ∈ items) : valV (kvsOf items) (.inl p.1.byte) = some (.ref p.2) :=
  valV_mem (kvsOf_nd h) (List.mem_map.mpr ⟨p, hp, rfl⟩)
structure MadeAt (A : Ad) (H : Hp) (d : Addr) (items : List (FD × Addr)) : Prop where
  ob : H d = some (.dK (kvsOf items))
  fm : ∀ p ∈ items, FormAt A H p.2 p.1
theorem FormAt.ed {A : Ad} {H H' : Hp} {p : Addr} {f : FD} {S : List Addr} (h : FormAt A H p f) (e : Vc.Ed S H H') (n : p ∉ S) : FormAt A H' p f := by
  obtain ⟨dx, h⟩ := h
  exact ⟨dx, e.keep _ _ n h⟩
theorem FormAt.ed1 {A : Ad} {H H' : Hp} {p q : Addr} {f : FD} (h : FormAt A H p f) (e : Vc.Ed [q] H H') {o : HO} (hq : H q = some o) (k : ∀ C dx fs, o ≠ .ins C dx fs) : FormAt A H' p f := by
  obtain ⟨dx, h⟩ := h
  exact ⟨dx, e.at1 (ne_of h hq fun z => k _ _ _ z.symm) h⟩
theorem FormAt.ed0 {A : Ad} {H H' : Hp} {p : Addr} {f : FD} (e : Vc.Ed [] H H') (h : FormAt A H p f) : FormAt A H' p f := h.ed e (fun z => nomatch z)
def spCheck (A : Ad) : Sp := fun vs H Q _ => ∃ (d : Addr) (stop : Int) (items : List (FD × Addr)), vs = [.int stop, .ref d] ∧ MadeAt A H d items ∧ Valid stop (items.map (·.1)) ∧ ∀ H', Vc.Ed [] H H' → Q .non H'
section
variable {P : Program} {w : World} {K : PySem.W.Frag} {mg : Str → Option Value} {base : Heap} {A : Ad}
theorem ok_check_forms (T : Txt K mg A) : FnOk P w K mg base CX0 2 A.f_check_forms A.d_check_forms ["stop", "forms"] (spCheck A) := by
  have G_is_byte := ok_is_byte (P := P) (w := w) (base := base) T
  refine T.F_check_forms.ok sc_check_forms (fun vs H Q E h => ?_) (fun cdv Ar outer s H vs Q E hr h => ?_)
  · obtain ⟨d, stop, items, rfl, _⟩ := h
    rfl
  · obtain ⟨d, stop, items, rfl, M, Va, k⟩ := h
    have hu := hu_of hr
    have cr := T.cr_CodeSet
    obtain ⟨uM, cv⟩ := T.cv_MOST
    have cl := T.cl_Form
    have no1 := T.no_Form_name
    have hd := M.ob
    have v1 := Va.n1
    have v16 := Va.n16
    rw [List.length_map] at v1 v16
    have kl := kvsOf_len items
    refine ⟨_, (pss_cons (ps_if (PW.pt (pw_or (pt_cmpR op_lt (pe_callB call_lenD (by rfl) T.n_len (by decide +kernel) (pa_cons (pv 1) pa_nil)) pe_int (nomark _)) (pw_or1 (pt_cmpR op_gt (pe_callB call_lenD (by rfl) T.n_len (by decide +kernel) (pa_cons (pv 1) pa_nil)) (ClX.pe_cval (pe_glob (v := .ref A.C_CodeSet) (by rfl) T.g_CodeSet rfl)) (nomark _))))) (pss_one ps_never) pss_nil) (pss_cons (ps_lock (ps_setLc (i := 2) (own := [("byte", 3)]) (g := gName 3) rfl sc_check_forms.nd rfl rfl (sw_true rfl rfl rfl (by decide +kernel)) (pi_keys (pv 1)) (blkOk_by (own := [("byte", 3)]) (N := ["stop", "forms", "names", "byte"]) (sc := defScope s_check_forms) (by decide +kernel)) (fun _ _ _ _ _ => by exact (pg_name (i := 3) sc_check_forms.nd rfl (Or.inl rfl))) (fun _ _ _ _ _ => by exact pts_nil) (fun _ _ _ _ _ => by (refine' Vc.blkE ?h ?q; (case h => exact (pe_fld (pe_dget (by exact hu) (pv 1) (pv 3) (fun _ _ => rfl)) rfl)); (case q => first | exact rfl | (dsimp only; done) | (dsimp only; exact rfl)))))) (pss_cons (ps_if (pt_cmpR op_lt (Setn.pe_lenSetN rfl (by rfl) T.n_len (by rfl) T.n_set (pv 2)) (pe_callB call_len_seq (by rfl) T.n_len (by decide +kernel) (pa_cons (pv 2) pa_nil)) (nomark _)) (pss_one ps_never) pss_nil) (pss_one (ps_lock (ps_for PassesOwn.never rfl (pi_keys (pv 1)) (pg_name (i := 3) sc_check_forms.nd rfl (Or.inl rfl)) (pss_one (ps_if (PW.pt (pw_or (pt_not (pt_val (pe_call G_is_byte (by exact hr.mono (by decide)) (by rfl) T.g_is_byte T.F_is_byte.kp T.b_is_byte .nil pass0 (pa_cons (pv 3) pa_nil)))) (pw_or1 (pt_cmpR op_eq (pv 3) (pv 0) (nomark _))))) (pss_one ps_never) pss_nil)))))))), ?_⟩
    walk_at "goo"
    refine Vc.lockA_keys rfl hd [] (fun H1 L i H' => Vc.Ed [] H1 H' ∧ H' L = some (.lst ((items.take i).map fun p => .str p.1.name))) (fun _ _ _ _ h => h.1) (fun H1 od L H2 e1 h1 nL e2 hL => ⟨e2, hL⟩) ?_ ?_
    · rintro H1 od L i k' v H' e1 nL h1 hk ⟨e2, hL⟩
      obtain ⟨p, hp, rfl, rfl⟩ := kvsOf_get hk
      have hm := List.mem_of_getElem? hp
      have hi : i < items.length := (List.getElem?_eq_some_iff.mp hp).1
      have hv := kvsOf_val Va.ndb hm
      have hF := ((M.fm p hm).ed1 e1 hd (fun _ _ _ => by intro z; cases z)).ed e2 (fun z => nomatch z)
      obtain ⟨dx, hF⟩ := hF
      change gName 3 (V.int p.1.byte) _ _ _
      walk_at "go"
      refine ⟨rfl, ?_⟩
      walk_at "go"
      refine ⟨_, hL, by rw [List.length_map, List.length_take]; exact small1000 (by omega), ?_⟩
      generalize hu2 : upd _ L _ = H3
      obtain ⟨e3, hL3⟩ := Vc.chg hu2 hL
      refine ⟨e2.one e3 (.inr nL), ?_⟩
      rw [List.take_add_one, hp, List.map_append]
      exact hL3
    · rintro H1 L H' H2 nL ⟨e2, hL⟩ e hd2 k2
      have hLd : L ≠ d := fun z => by rw [z, hd] at nL; cases nL
      have hL2 := k2 L _ hLd hL
      have eq : List.map (fun p : FD × Addr => V.str p.1.name) (List.take (kvsOf items).length items) = ((items.map (·.1)).map (·.name)).map V.str := by
        rw [kvsOf_len, List.take_of_length_le (Nat.le_refl _)]
        simp [List.map_map, Function.comp_def]
      rw [eq] at hL2
      have hSq : SqL K H2 L (((items.map (·.1)).map (·.name)).map V.str) := .of hL2
      walk_at "go"
      refine Vc.go_lenSetV hSq Va.ndn (by rw [List.length_map, List.length_map]; omega) ?_
      walk_at "go"
      simp only [List.length_map]
      walk_at "goo"
      refine Vc.lock_keys rfl hd2 [] (fun H1 i σ H' => ∃ y, σ = [some (.int stop), some (.ref d), some (.ref L), y] ∧ Vc.Ed [] H1 H') (fun _ _ _ _ h => h.choose_spec.2) (fun H1 od _ _ => ⟨none, rfl, .refl⟩) ?_ ?_
      · rintro H1 od i k' v σ' H' _ _ h1 hk ⟨y, rfl, e2⟩
        obtain ⟨p, hp, rfl, rfl⟩ := kvsOf_get hk
        have hm := List.mem_of_getElem? hp
        obtain ⟨b0, b1, b2⟩ := Va.byt p.1 (List.mem_map.mpr ⟨p, hm, rfl⟩)
        change gName 3 (V.int p.1.byte) _ _ _
        walk_at "go"
        refine ⟨p.1.byte, rfl, fun H4 e4 => ?_⟩
        rw [decide_eq_true ⟨b0, b1⟩]
        walk_at "goo"
        exact ⟨_, rfl, by walk_at "ed"⟩
      · rintro H1 σ' H' H3 _ ⟨y, rfl, e2⟩ e3 _ _
        exact k _ (by walk_at "ed")
end
def codesF (stop : Int) (o t : Addr) : List (Str × V) := [("stop", .int stop), ("order", .ref o), ("table", .ref t)]
theorem codes_put {s o t} : putF "table" (.ref t) (putF "order" (.ref o) (putF "stop" (.int s) [])) = codesF s o t := rfl
theorem codes_table {s o t} : (codesF s o t).lookup ("table" : Str) = some (.ref t) := rfl
/-- a code set: its table has the forms -/
structure CodesAt (A : Ad) (H : Hp) (c t : Addr) (items : List (FD × Addr)) : Prop where
  ob : ∃ dx s o, H c = some (.ins A.C_CodeSet dx (codesF s o t))
  tb : ∃ tk, H t = some (.dK tk) ∧ ∀ p ∈ items, valV tk (.inl p.1.byte) = some (.ref p.2)
  fm : ∀ p ∈ items, FormAt A H p.2 p.1
theorem CodesAt.ed {A : Ad} {H H' : Hp} {c t : Addr} {items : List (FD × Addr)} {S : List Addr} (h : CodesAt A H c t items) (e : Vc.Ed S H H') (n1 : c ∉ S) (n2 : t ∉ S) (n3 : ∀ p ∈ items, p.2 ∉ S) : CodesAt A H' c t items := by
  obtain ⟨⟨dx, s, o, h1⟩, ⟨tk, h2, h3⟩, h4⟩ := h
  exact ⟨⟨dx, s, o, e.keep _ _ n1 h1⟩, ⟨tk, e.keep _ _ n2 h2, h3⟩, fun p hp => (h4 p hp).ed e (n3 p hp)⟩
theorem CodesAt.ed0 {A : Ad} {H H' : Hp} {c t : Addr} {items : List (FD × Addr)} (e : Vc.Ed [] H H') (h : CodesAt A H c t items) : CodesAt A H' c t items :=
  h.ed e (fun z => nomatch z) (fun z => nomatch z) (fun _ _ z => nomatch z)
/-- a change at a place that is no instance, and not the table -/
theorem CodesAt.ed1 {A : Ad} {H H' : Hp} {c t q : Addr} {items : List (FD × Addr)} {o : HO} (h : CodesAt A H c t items) (e : Vc.Ed [q] H H') (hq : H q = some o) (k : ∀ C dx fs, o ≠ .ins C dx fs) (n : t ≠ q) : CodesAt A H' c t items := by
  refine h.ed e (fun z => ?_) (fun z => n (List.mem_singleton.mp z)) (fun p hp z => ?_)
  · obtain ⟨dx, s, o', h1⟩ := h.ob
    rw [List.mem_singleton.mp z, hq] at h1
    cases h1
    exact k _ _ _ rfl
  · obtain ⟨dx, h1⟩ := h.fm p hp
    rw [List.mem_singleton.mp z, hq] at h1
    cases h1
    exact k _ _ _ rfl
def spCodes (A : Ad) : Sp := fun vs H Q _ => ∃ (p dx d : Addr) (stop : Int) (items : List (FD × Addr)), vs = [.ref p, .int stop, .ref d] ∧ MadeAt A H d items ∧ Valid stop (items.map (·.1)) ∧ H p = some (.ins A.C_CodeSet dx []) ∧
  ∀ t H', Vc.Ed [p] H H' → H t = none → CodesAt A H' p t items → Q .non H'
section
variable {P : Program} {w : World} {K : PySem.W.Frag} {mg : Str → Option Value} {base : Heap} {A : Ad}
theorem ok_CodeSetu_initu (T : Txt K mg A) : FnOk P w K mg base CX0 3 A.f_CodeSetu_initu A.d_CodeSetu_initu ["self", "stop", "forms"] (spCodes A) := by
  have G_is_byte := ok_is_byte (P := P) (w := w) (base := base) T
  have G_check_forms := ok_check_forms (P := P) (w := w) (base := base) T
  refine T.F_CodeSetu_initu.ok sc_CodeSetu_initu (fun vs H Q E h => ?_) (fun cdv Ar outer s H vs Q E hr h => ?_)
  · obtain ⟨p, dx, d, stop, items, rfl, _⟩ := h
    rfl
  · obtain ⟨p, dx, d, stop, items, rfl, M, Va, hp, k⟩ := h
    have hu := hu_of hr
    have cl := T.cl_CodeSet
    have no1 := T.no_CodeSet_stop
    have no2 := T.no_CodeSet_order
    have no3 := T.no_CodeSet_table
    have v16 := Va.n16
    rw [List.length_map] at v16
    refine ⟨_, (pss_cons (ps_if (pt_not (pt_val (pe_call G_is_byte (by exact hr.mono (by decide)) (by rfl) T.g_is_byte T.F_is_byte.kp T.b_is_byte .nil pass0 (pa_cons (pv 1) pa_nil)))) (pss_one ps_never) pss_nil) (pss_cons (ps_expr (pe_call G_check_forms (by exact hr.mono (by decide)) (by rfl) T.g_check_forms T.F_check_forms.kp T.b_check_forms .nil pass0 (pa_cons (pv 1) (pa_cons (pv 2) pa_nil)))) (pss_cons (ps_fld (pv 0) (pv 1) rfl) (pss_cons (ps_fld (pv 0) (pe_callB cr_sorted (by rfl) T.n_sorted (by decide +kernel) (pa_cons (pe_callTy (call_list_dK rfl) (by rfl) T.n_list (by decide +kernel) (pa_cons (pv 2) pa_nil)) pa_nil)) rfl) (pss_one (ps_fld (pv 0) (pe_dc (own := [("byte", 3)]) (g := gName 3) rfl sc_CodeSetu_initu.nd (pi_list (pe_fld (pv 0) rfl)) (blkOk_by (own := [("byte", 3)]) (N := ["self", "stop", "forms", "byte"]) (sc := defScope s_CodeSetu_initu) (by decide +kernel)) (fun _ _ _ _ _ => by exact (pg_name (i := 3) sc_CodeSetu_initu.nd rfl (Or.inl rfl))) (fun _ _ _ _ _ => by exact pts_nil) (fun _ _ _ _ _ => by (refine' Vc.blkE ?h ?q; (case h => exact (pv 3)); (case q => first | exact rfl | (dsimp only; done) | (dsimp only; exact rfl)))) (fun _ _ _ _ _ => by (refine' Vc.blkE ?h ?q; (case h => exact (pe_dget (by exact hu) (pv 2) (pv 3) (fun _ _ => rfl))); (case q => first | exact rfl | (dsimp only; done) | (dsimp only; exact rfl))))) rfl)))))), ?_⟩
    walk_at "go"
    refine ⟨stop, rfl, fun H1 e1 => ?_⟩
    rw [decide_eq_true ⟨Va.s0, Va.s1⟩]
    walk_at "go"
    refine ⟨d, stop, items, rfl, ⟨e1.at0 M.ob, fun q hq => (M.fm q hq).ed0 e1⟩, Va, fun H2 e2 => ?_⟩
    have hp2 : H2 p = some (.ins A.C_CodeSet dx []) := by walk_at "hs"
    walk_at "go"
    generalize hu3 : upd _ p _ = H3
    obtain ⟨e3, h3⟩ := Vc.chg hu3 hp2
    have hd3 : H3 d = some (.dK (kvsOf items)) := e3.at1 (ne_of M.ob hp (by intro z; cases z)) (by have := M.ob; walk_at "hs")
    walk_at "go"
    intro L nL
    generalize hu4 : upd _ L _ = H4
    obtain ⟨e4, hL⟩ := Vc.alloc hu4 nL
    have eq : (kvsOf items).map (fun kv => kV kv.1) = ((items.map (·.1)).map (·.byte)).map V.int := by
      unfold kvsOf
      simp only [List.map_map, Function.comp_def, kV]
    rw [eq] at hL
    walk_at "go"
    refine Vc.go_sorted (.of hL) (by rw [List.length_map, List.length_map]; omega) fun ns o perm srt no => ?_
    generalize hu5 : upd _ o _ = H5
    obtain ⟨e5, ho⟩ := Vc.alloc hu5 no
    have h3' : H5 p = some (.ins A.C_CodeSet dx (putF "stop" (.int stop) [])) := by walk_at "hs"
    walk_at "go"
    generalize hu6 : upd _ p _ = H6
    obtain ⟨e6, h6⟩ := Vc.chg hu6 h3'
    walk_at "go"
    have ho6 : H6 o = some (.lst (ns.map V.int)) := by walk_at "hs"
    have hd6 : H6 d = some (.dK (kvsOf items)) := by walk_at "hs"
    have nl : ns.length = items.length := by rw [perm.length_eq, List.length_map, List.length_map]
    refine ⟨o, rfl, ⟨_, .of ho6⟩, Vc.dc_by (walk_list (xs := ns.map V.int)) (fun t i H' => Vc.Ed [] H6 H' ∧ ∃ tk, H' t = some (.dK tk) ∧ tk.length ≤ i ∧ ∀ q ∈ items, q.1.byte ∈ ns.take i → valV tk (.inl q.1.byte) = some (.ref q.2)) ?_ ?_ ?_ ?_⟩
    · intro t H7 nt e7 ht
      exact ⟨e7, [], ht, Nat.le_refl _, fun q _ hq => by rw [List.take_zero] at hq; cases hq⟩
    · rintro t i H' _ _ ⟨e7, _⟩
      exact .of (e7.at0 ho6)
    · rintro t i x H7 H8 nt hi ⟨e7, tk, ht, tl, hv⟩ ⟨rfl, hx⟩
      rw [List.length_map] at hi
      rw [List.getElem?_map] at hx
      cases hn : ns[i]? with
      | none => rw [hn] at hx; cases hx
      | some n =>
      rw [hn] at hx
      cases hx
      obtain ⟨q0, hq0, rfl⟩ : ∃ q0 ∈ items, q0.1.byte = n := by
        have h1 := (perm.mem_iff).mp (List.mem_of_getElem? hn)
        obtain ⟨f, hf, rfl⟩ := List.mem_map.mp h1
        obtain ⟨q0, hq0, rfl⟩ := List.mem_map.mp hf
        exact ⟨q0, hq0, rfl⟩
      have hv0 := kvsOf_val Va.ndb hq0
      walk_at "go"
      refine ⟨rfl, ?_⟩
      walk_at "go"
      refine ⟨tk, .inl q0.1.byte, rfl, ht, small1000 (by omega), ?_⟩
      generalize hu8 : upd _ t _ = H9
      obtain ⟨e9, h9⟩ := Vc.chg hu8 ht
      refine ⟨e7.one e9 (.inr nt), _, h9, Nat.le_trans (Vc.putK_le _ _ _) (by omega), fun q hq hm => ?_⟩
      rw [valV_put]
      by_cases hb : (Sum.inl q.1.byte : Key) = Sum.inl q0.1.byte
      · rw [if_pos hb]
        have := kvsOf_val Va.ndb hq
        rw [hb, hv0] at this
        exact this
      · rw [if_neg hb]
        refine hv q hq ?_
        rw [List.take_add_one, hn, List.mem_append] at hm
        rcases hm with hm | hm
        · exact hm
        · exact (hb (congrArg _ (by simpa using hm))).elim
    · rintro t H7 nt ⟨e7, tk, ht, _, hv⟩
      have h7 : H7 p = _ := e7.at0 h6
      have nt0 : H t = none := by walk_at "free"
      walk_at "go"
      generalize hu8 : upd _ p _ = H8
      obtain ⟨e8, h8⟩ := Vc.chg hu8 h7
      rw [codes_put] at h8
      have ee : Vc.Ed [p] H H8 := by walk_at "ed"
      have ntp : t ≠ p := fun z => by rw [z, h6] at nt; cases nt
      refine k t H8 ee nt0 ⟨⟨dx, stop, o, h8⟩, ⟨tk, e8.at1 ntp ht, fun q hq => hv q hq ?_⟩, fun q hq => ?_⟩
      · rw [List.length_map, List.take_of_length_le (Nat.le_refl _), perm.mem_iff]
        exact List.mem_map.mpr ⟨q.1, List.mem_map.mpr ⟨q, hq, rfl⟩, rfl⟩
      · obtain ⟨dq, hF⟩ := M.fm q hq
        exact ⟨dq, ee.at1 (ne_of hF hp (by intro z; injection z with _ _ z; cases z)) hF⟩
end
/-! ### what follows -/
def foll (fl : Str) (n last place : Int) : List Int :=
  if fl = "end" then [] else if fl = "next" then [place + n] else
  if fl = "jump" ∨ (if last ≥ 128 then last - 256 else last) = 0 then [place + n + (if last ≥ 128 then last - 256 else last)] else [place + n, place + n + (if last ≥ 128 then last - 256 else last)]
theorem foll_end {n l p} : foll "end" n l p = [] := by unfold foll; exact if_pos rfl
theorem foll_next {n l p} : foll "next" n l p = [p + n] := by unfold foll; rw [if_neg (by decide), if_pos rfl]
theorem foll_jump {n l p d : Int} (hd : (if l ≥ 128 then l - 256 else l) = d) : foll "jump" n l p = [p + n + d] := by unfold foll; rw [hd, if_neg (by decide), if_neg (by decide), if_pos (.inl rfl)]
theorem foll_test0 {n l p d : Int} (hd : (if l ≥ 128 then l - 256 else l) = d) (h : d = 0) : foll "test" n l p = [p + n + d] := by unfold foll; rw [hd, if_neg (by decide), if_neg (by decide), if_pos (.inr h)]
theorem foll_test1 {n l p d : Int} (hd : (if l ≥ 128 then l - 256 else l) = d) (h : ¬ d = 0) : foll "test" n l p = [p + n, p + n + d] := by
  unfold foll; rw [hd, if_neg (by decide), if_neg (by decide), if_neg (fun z => z.elim (by decide) h)]
/-- the bytes of an instruction of a form -/
structure Instr (bs : List Int) (b0 last : Int) : Prop where
  h0 : bs[0]? = some b0
  hl : bs[bs.length - 1]? = some last
  n64 : bs.length ≤ 64
theorem Instr.at0 {bs b0 last} (h : Instr bs b0 last) : atI (bs.map V.int) 0 = some (.int b0) := at_of (j := 0) rfl (by rw [List.getElem?_map, h.h0]; rfl)
theorem Instr.pos {bs b0 last} (h : Instr bs b0 last) : 0 < bs.length := by
  have := h.h0
  cases bs with
  | nil => cases this
  | cons x r => simp
theorem Instr.atL {bs b0 last} (h : Instr bs b0 last) : atI (bs.map V.int) (-1) = some (.int last) := Vc.at_m1 (by rw [List.length_map, List.getElem?_map, h.hl]; rfl)
theorem Instr.atE {bs b0 last} (h : Instr bs b0 last) : atI (bs.map V.int) ((bs.length : Int) - 1) = some (.int last) := at_of (j := bs.length - 1) (by have := h.pos; omega) (by rw [List.getElem?_map, h.hl]; rfl)
def spFoll (A : Ad) (K : PySem.W.Frag) : Sp := fun vs H Q _ => ∃ (c t g : Addr) (place : Int) (items : List (FD × Addr)) (p : FD × Addr) (bs : List Int) (last : Int), vs = [.ref c, .ref g, .int place] ∧ CodesAt A H c t items ∧ p ∈ items ∧ Flow p.1.flow ∧ SqT K H g (bs.map V.int) ∧ Instr bs p.1.byte last ∧
  ∀ q H', Vc.Ed [] H H' → H' q = some (.tup ((foll p.1.flow bs.length last place).map V.int)) → Q (.ref q) H'
section
variable {P : Program} {w : World} {K : PySem.W.Frag} {mg : Str → Option Value} {base : Heap} {A : Ad}
theorem ok_CodeSet_followers (T : Txt K mg A) : FnOk P w K mg base CX0 1 A.f_CodeSet_followers A.d_CodeSet_followers ["self", "instruction", "place"] (spFoll A K) := by
  refine T.F_CodeSet_followers.ok sc_CodeSet_followers (fun vs H Q E h => ?_) (fun cdv Ar outer s H vs Q E hr h => ?_)
  · obtain ⟨c, t, g, place, items, p, bs, last, rfl, _⟩ := h
    rfl
  · obtain ⟨c, t, g, place, items, p, bs, last, rfl, CA, hp, hf, hg, I, k⟩ := h
    have hu := hu_of hr
    have cl := T.cl_CodeSet
    have no3 := T.no_CodeSet_table
    have clf := T.cl_Form
    have no4 := T.no_Form_flow
    obtain ⟨⟨dx, stp, o, hc⟩, ⟨tk, ht, hv⟩, fm⟩ := CA
    have hv := hv p hp
    obtain ⟨dq, hq⟩ := fm p hp
    have ct := codes_table (s := stp) (o := o) (t := t)
    have ff := form_flow (n := p.1.name) (l := p.1.len) (f := p.1.flow)
    have i0 := I.at0
    have i1 := I.atL
    have l64 := I.n64
    refine ⟨_, (pss_cons (ps_set (i := 3) sc_CodeSet_followers.nd rfl (Or.inl rfl) (pe_fld (pe_dget (by exact hu) (pe_fld (pv 0) rfl) (pe_ix ix_tup (pv 1) pe_int (fun _ _ => rfl)) (fun _ _ => rfl)) rfl)) (pss_cons (ps_if (pt_cmpR op_eq (pv 3) pe_str (nomark _)) (pss_one (ps_ret (pe_tup pa_nil))) pss_nil) (pss_cons (ps_set (i := 4) sc_CodeSet_followers.nd rfl (Or.inl rfl) (pe_op op_add (pv 2) (pe_callB call_len_seq (by rfl) T.n_len (by decide +kernel) (pa_cons (pv 1) pa_nil)))) (pss_cons (ps_if (pt_cmpR op_eq (pv 3) pe_str (nomark _)) (pss_one (ps_ret (pe_tup (pa_cons (pv 4) pa_nil)))) pss_nil) (pss_cons (ps_set (i := 5) sc_CodeSet_followers.nd rfl (Or.inl rfl) (pe_ix ix_tup (pv 1) (pe_un un_neg pe_int) (fun _ _ => rfl))) (pss_cons (ps_if (pt_cmpR op_ge (pv 5) pe_int (nomark _)) (pss_one (ps_aug (i := 5) sc_CodeSet_followers.nd rfl (.inl rfl) pe_int ip_sub)) pss_nil) (pss_cons (ps_if (PW.pt (pw_or (pt_cmpR op_eq (pv 3) pe_str (nomark _)) (pw_or1 (pt_cmpR op_eq (pv 5) pe_int (nomark _))))) (pss_one (ps_ret (pe_tup (pa_cons (pe_op op_add (pv 4) (pv 5)) pa_nil)))) pss_nil) (pss_one (ps_ret (pe_tup (pa_cons (pv 4) (pa_cons (pe_op op_add (pv 4) (pv 5)) pa_nil)))))))))))), ?_⟩
    generalize hfl : p.1.flow = fl at hf ff hq k
    walk_at "go"
    have fin : ∀ (xs : List Int), xs = foll fl bs.length last place → ∀ q, H q = none → Q (.ref q) (upd H q (.tup (xs.map V.int))) := by
      rintro xs rfl q nq
      generalize hu2 : upd _ q _ = H2
      obtain ⟨e2, h2⟩ := Vc.alloc hu2 nq
      exact k q H2 e2 h2
    have eln : ((List.map V.int bs).length : Int) = bs.length := by rw [List.length_map]
    rcases hf with e | e | e | e <;> subst e <;> walk_at "goo"
    · rw [eln]
      exact fin [_] foll_next.symm
    · refine Vc.go_ite (fun h1 => ?_) (fun h1 => ?_) <;> walk_at "goo" <;> rw [eln]
      · exact fin [_] (foll_jump (if_pos h1)).symm
      · exact fin [_] (foll_jump (if_neg h1)).symm
    · refine Vc.go_ite (fun h1 => ?_) (fun h1 => ?_) <;> walk_at "goo" <;> rw [eln]
      · refine Vc.go_ite (fun h2 => ?_) (fun h2 => ?_) <;> walk_at "goo"
        · exact fin [_] (foll_test0 (if_pos h1) h2).symm
        · exact fin [_, _] (foll_test1 (if_pos h1) h2).symm
      · refine Vc.go_ite (fun h2 => ?_) (fun h2 => ?_) <;> walk_at "goo"
        · exact fin [_] (foll_test0 (if_neg h1) h2).symm
        · exact fin [_, _] (foll_test1 (if_neg h1) h2).symm
    · exact fin [] foll_end.symm
end

end My
namespace My
open PySem PySem.Spec PyProof.Rows L2
/-! ### k01: forms drawn, code sets of them, their followers -/
structure TupsAt (H : Hp) (f : Addr) (its : List (FD × Addr)) : Prop where
  ob : H f = some (.dK (kvsOf its))
  tp : ∀ p ∈ its, H p.2 = some (.tup [.str p.1.name, .int p.1.len, .str p.1.flow])
theorem TupsAt.ed {H H' : Hp} {f : Addr} {its : List (FD × Addr)} {S : List Addr} (h : TupsAt H f its) (e : Vc.Ed S H H') (n : f ∉ S) : TupsAt H' f its :=
  ⟨e.keep _ _ n h.ob, fun p hp => e.tup _ _ (h.tp p hp)⟩
theorem TupsAt.ed0 {H H' : Hp} {f : Addr} {its : List (FD × Addr)} (e : Vc.Ed [] H H') (h : TupsAt H f its) : TupsAt H' f its := h.ed e (fun z => nomatch z)
theorem TupsAt.ed1 {H H' : Hp} {f q : Addr} {its : List (FD × Addr)} (e : Vc.Ed [q] H H') (n : f ≠ q) (h : TupsAt H f its) : TupsAt H' f its := h.ed e (fun z => n (List.mem_singleton.mp z))
def spDue (K : PySem.W.Frag) : Sp := fun vs H Q _ => ∃ (f g : Addr) (place : Int) (its : List (FD × Addr)) (p : FD × Addr) (bs : List Int) (last : Int), vs = [.ref f, .ref g, .int place] ∧ TupsAt H f its ∧ ((its.map (·.1)).map (·.byte)).Nodup ∧ p ∈ its ∧ Flow p.1.flow ∧ SqT K H g (bs.map V.int) ∧ Instr bs p.1.byte last ∧
  ∀ q H', Vc.Ed [] H H' → H' q = some (.tup ((foll p.1.flow bs.length last place).map V.int)) → Q (.ref q) H'
theorem foll_test0' {n l p d : Int} (hd : (if l ≥ 128 then l - 256 else l) = d) (h : d = 0) : foll "test" n l p = [p + n] := by rw [foll_test0 hd h, h, Int.add_zero]
section
variable {P : Program} {w : World} {K : PySem.W.Frag} {mg : Str → Option Value} {base : Heap} {A : Ad}
theorem ok__law_due (T : Txt K mg A) : FnOk P w K mg base CX0 1 A.f__law_due A.d__law_due ["_law_forms_here", "_law_given", "_law_spot"] (spDue K) := by
  refine T.F__law_due.ok sc__law_due (fun vs H Q E h => ?_) (fun cdv Ar outer s H vs Q E hr h => ?_)
  · obtain ⟨f, g, place, its, p, bs, last, rfl, _⟩ := h
    rfl
  · obtain ⟨f, g, place, its, p, bs, last, rfl, TA, nd, hp, hf, hg, I, k⟩ := h
    have hu := hu_of hr
    have hd := TA.ob
    have hv := kvsOf_val nd hp
    have ht := TA.tp p hp
    have i0 := I.at0
    have i1 := I.atE
    have l64 := I.n64
    have eln : ((List.map V.int bs).length : Int) = bs.length := by rw [List.length_map]
    refine ⟨_, (pss_cons (ps_set (i := 3) sc__law_due.nd rfl (Or.inl rfl) (pe_ix ix_tup (pe_dget (by exact hu) (pv 0) (pe_ix ix_tup (pv 1) pe_int (fun _ _ => rfl)) (fun _ _ => rfl)) pe_int (fun _ _ => rfl))) (pss_cons (ps_set (i := 4) sc__law_due.nd rfl (Or.inl rfl) (pe_op op_add (pv 2) (pe_callB call_len_seq (by rfl) T.n_len (by decide +kernel) (pa_cons (pv 1) pa_nil)))) (pss_cons (ps_set (i := 5) sc__law_due.nd rfl (Or.inl rfl) (pe_ix ix_tup (pv 1) (pe_op op_sub (pe_callB call_len_seq (by rfl) T.n_len (by decide +kernel) (pa_cons (pv 1) pa_nil)) pe_int) (fun _ _ => rfl))) (pss_cons (ps_if (pt_cmpR op_gt (pv 5) pe_int (nomark _)) (pss_one (ps_set (i := 5) sc__law_due.nd rfl (Or.inl rfl) (pe_op op_sub (pv 5) pe_int))) pss_nil) (pss_cons (ps_if (pt_cmpR op_eq (pv 3) pe_str (nomark _)) (pss_one (ps_ret (pe_tup pa_nil))) pss_nil) (pss_cons (ps_if (pt_cmpR op_eq (pv 3) pe_str (nomark _)) (pss_one (ps_ret (pe_tup (pa_cons (pv 4) pa_nil)))) pss_nil) (pss_cons (ps_if (pt_cmpR op_eq (pv 3) pe_str (nomark _)) (pss_one (ps_ret (pe_tup (pa_cons (pe_op op_add (pv 4) (pv 5)) pa_nil)))) pss_nil) (pss_cons (ps_if (pt_cmpR op_eq (pv 5) pe_int (nomark _)) (pss_one (ps_ret (pe_tup (pa_cons (pv 4) pa_nil)))) pss_nil) (pss_one (ps_ret (pe_tup (pa_cons (pv 4) (pa_cons (pe_op op_add (pv 4) (pv 5)) pa_nil))))))))))))), ?_⟩
    generalize hfl : p.1.flow = fl at hf ht k
    have a2 : atI [V.str p.1.name, .int p.1.len, .str fl] 2 = some (.str fl) := rfl
    have fin : ∀ (xs : List Int), xs = foll fl bs.length last place → ∀ q, H q = none → Q (.ref q) (upd H q (.tup (xs.map V.int))) := by
      rintro xs rfl q nq
      generalize hu2 : upd _ q _ = H2
      obtain ⟨e2, h2⟩ := Vc.alloc hu2 nq
      exact k q H2 e2 h2
    walk_at "go"
    rw [eln]
    walk_at "go"
    refine Vc.go_ite (fun h1 => ?_) (fun h1 => ?_) <;> walk_at "go" <;> (rcases hf with e | e | e | e <;> subst e <;> walk_at "goo")
    · exact fin [_] foll_next.symm
    · exact fin [_] (foll_jump (if_pos (by omega))).symm
    · refine Vc.go_ite (fun h2 => ?_) (fun h2 => ?_) <;> walk_at "goo"
      · exact fin [_] (foll_test0' (if_pos (by omega)) h2).symm
      · exact fin [_, _] (foll_test1 (if_pos (by omega)) h2).symm
    · exact fin [] foll_end.symm
    · exact fin [_] foll_next.symm
    · exact fin [_] (foll_jump (if_neg (by omega))).symm
    · refine Vc.go_ite (fun h2 => ?_) (fun h2 => ?_) <;> walk_at "goo"
      · exact fin [_] (foll_test0' (if_neg (by omega)) h2).symm
      · exact fin [_, _] (foll_test1 (if_neg (by omega)) h2).symm
    · exact fin [] foll_end.symm
end
def spInstr : Sp := fun vs H Q _ => ∃ (b c : Addr) (b0 n : Int), vs = [.ref b, .int b0, .int n] ∧ Bag H b c ∧ 1 ≤ n ∧ n ≤ 4 ∧
  ∀ g bs last H', Vc.Ed [b] H H' → Bag H' b c → H' g = some (.tup (bs.map V.int)) → Instr bs b0 last → Q (.ref g) H'
theorem at_ints {ns : List Int} {i : Int} (h0 : 0 ≤ i) (h1 : i < ns.length) : ∃ n, n ∈ ns ∧ atI (ns.map V.int) i = some (.int n) := by
  refine ⟨ns[i.toNat]'(by omega), List.getElem_mem _, at_of (j := i.toNat) (by omega) ?_⟩
  rw [List.getElem?_map, List.getElem?_eq_getElem (by omega)]; rfl
section
variable {P : Program} {w : World} {K : PySem.W.Frag} {mg : Str → Option Value} {base : Heap} {A : Ad}
theorem ok__law_instruction (T : Txt K mg A) : FnOk P w K mg base CX0 2 A.f__law_instruction A.d__law_instruction ["_law_bag_here", "_law_byte", "_law_length"] spInstr := by
  have G__law_draw := ok__law_draw (P := P) (w := w) (base := base) T
  refine T.F__law_instruction.ok sc__law_instruction (fun vs H Q E h => ?_) (fun cdv Ar outer s H vs Q E hr h => ?_)
  · obtain ⟨b, c, b0, n, rfl, _⟩ := h
    rfl
  · obtain ⟨b, c, b0, n, rfl, hB, n1, n4, k⟩ := h
    refine ⟨_, (pss_cons (ps_set (i := 3) sc__law_instruction.nd rfl (Or.inl rfl) (pe_lst (pa_cons (pv 1) pa_nil))) (pss_cons (ps_for PassesOwn.never rfl (pi_range1 (by rfl) T.n_range (pa_cons (pe_op op_sub (pv 2) pe_int) pa_nil)) (pg_name (i := 4) sc__law_instruction.nd rfl (Or.inl rfl)) (pss_one (ps_expr (pe_bm PySem.F.plainAttrs_list PySem.F.slot_list_append PySem.F.type_list_append mt_append (pv 3) (pa_cons (pe_call G__law_draw (by exact hr.mono (by decide)) (by rfl) T.g__law_draw T.F__law_draw.kp T.b__law_draw .nil pass0 (pa_cons (pv 0) (pa_cons pe_int pa_nil))) pa_nil))))) (pss_cons (ps_if (PW.pt (pw_and (pt_cmpR op_gt (pv 2) pe_int (nomark _)) (pw_and1 (pt_cmpR op_eq (pe_call G__law_draw (by exact hr.mono (by decide)) (by rfl) T.g__law_draw T.F__law_draw.kp T.b__law_draw .nil pass0 (pa_cons (pv 0) (pa_cons pe_int pa_nil))) pe_int (nomark _))))) (pss_one (ps_asg (pe_ix ix_list (pe_lst (pa_cons pe_int (pa_cons pe_int (pa_cons pe_int (pa_cons pe_int (pa_cons pe_int (pa_cons pe_int pa_nil))))))) (pe_call G__law_draw (by exact hr.mono (by decide)) (by rfl) T.g__law_draw T.F__law_draw.kp T.b__law_draw .nil pass0 (pa_cons (pv 0) (pa_cons pe_int pa_nil))) (fun _ _ => rfl)) (pg_sub (pv 3) (pe_op op_sub (pv 2) pe_int) set_list))) pss_nil) (pss_one (ps_ret (pe_callTy call_tuple_of (by rfl) T.n_tuple (by decide +kernel) (pa_cons (pv 3) pa_nil))))))), ?_⟩
    walk_at "go"
    intro L nL
    generalize hu2 : upd _ L _ = H2
    obtain ⟨e2, hL⟩ := Vc.alloc hu2 nL
    have hB2 := hB.ed0 e2
    have nbL := hB.fb nL
    walk_at "go"
    refine ⟨by omega, by omega, for_range (lo := 0) (fun i σ H' => ∃ y bs, σ = [some (.ref b), some (.int b0), some (.int n), some (.ref L), y] ∧ Vc.Ed [b] H H' ∧ Bag H' b c ∧ H' L = some (.lst (List.map V.int bs)) ∧ bs.length = i + 1 ∧ bs[0]? = some b0) ⟨none, [b0], rfl, by walk_at "ed", hB2, hL, rfl, rfl⟩ ?_ ?_⟩
    · rintro i σ H3 hi ⟨y, bs, rfl, e3, hB3, hL3, l3, z3⟩
      walk_at "go"
      refine ⟨b, c, 256, rfl, hB3, by omega, by omega, fun v H4 v0 v1 e4 hB4 => ?_⟩
      have hL4 := e4.at1 nbL.1.symm hL3
      have l4 : (List.map V.int bs).length ≤ 1000 := by rw [List.length_map]; omega
      walk_at "go"
      generalize hu5 : upd _ L _ = H5
      obtain ⟨e5, hL5⟩ := Vc.chg hu5 hL4
      refine ⟨_, bs ++ [v], rfl, by walk_at "ed", hB4.ed1 e5 nbL.1 nbL.2, by rw [List.map_append]; exact hL5, by rw [List.length_append, l3]; rfl, ?_⟩
      rw [List.getElem?_append_left (by omega)]; exact z3
    · rintro σ H3 ⟨y, bs, rfl, e3, hB3, hL3, l3, z3⟩
      have l3 : bs.length = n.toNat := by omega
      have fin : ∀ (bs : List Int) (H' : Hp), Vc.Ed [b] H H' → Bag H' b c → H' L = some (.lst (bs.map V.int)) → bs.length = n.toNat → bs[0]? = some b0 → ∀ q, H' q = none → Q (.ref q) (upd H' q (.tup (bs.map V.int))) := by
        intro bs H' e hB hL lb z q nq
        generalize hu2 : upd _ q _ = H2
        obtain ⟨e2, h2⟩ := Vc.alloc hu2 nq
        obtain ⟨last, hl⟩ : ∃ last, bs[bs.length - 1]? = some last := ⟨_, List.getElem?_eq_getElem (by omega)⟩
        exact k q bs last H2 (by walk_at "ed") (hB.ed0 e2) h2 ⟨z, hl, by omega⟩
      walk_at "go"
      refine Vc.go_ite (fun h1 => ?_) (fun h1 => ?_)
      · walk_at "go"
        refine ⟨b, c, 2, rfl, hB3, by omega, by omega, fun v H4 v0 v1 e4 hB4 => ?_⟩
        have hL4 := e4.at1 nbL.1.symm hL3
        walk_at "go"
        refine Vc.go_ite (fun h2 => ?_) (fun h2 => ?_)
        · walk_at "go"
          intro M nM
          generalize hu5 : upd _ M _ = H5
          obtain ⟨e5, hM⟩ := Vc.alloc hu5 nM
          walk_at "go"
          refine ⟨b, c, 6, rfl, hB4.ed0 e5, by omega, by omega, fun w H6 w0 w1 e6 hB6 => ?_⟩
          obtain ⟨m, _, hm⟩ := at_ints (ns := [0, 1, 127, 128, 254, 255]) w0 w1
          have hm : atI [V.int 0, .int 1, .int 127, .int 128, .int 254, .int 255] w = some (.int m) := hm
          have hM6 : H6 M = some (.lst [V.int 0, .int 1, .int 127, .int 128, .int 254, .int 255]) := e6.at1 ((hB4.fb nM).1.symm) hM
          have hL6 : H6 L = some (.lst (bs.map V.int)) := e6.at1 nbL.1.symm (e5.at0 hL4)
          walk_at "go"
          refine Vc.go_setL hL6 (j := n.toNat - 1) ?_ ?_
          · unfold ixN
            rw [if_pos (by omega), List.length_map, l3, if_pos (by omega)]
            congr 1
            omega
          generalize hu7 : upd _ L _ = H7
          obtain ⟨e7, hL7⟩ := Vc.chg hu7 hL6
          rw [← List.map_set] at hL7
          walk_at "go"
          exact fin _ H7 (by walk_at "ed") (hB6.ed1 e7 nbL.1 nbL.2) hL7 (by rw [List.length_set, l3]) (by rw [List.getElem?_set_ne (by omega)]; exact z3)
        · walk_at "go"
          exact fin bs H4 (by walk_at "ed") hB4 hL4 l3 z3
      · walk_at "go"
        exact fin bs H3 (by walk_at "ed") hB3 hL3 l3 z3
end
/-! ### the forms drawn -/
theorem kvs_some {its : List (FD × Addr)} {x : Int} (h : (valV (kvsOf its) (.inl x)).isSome = true) : ∃ p ∈ its, p.1.byte = x := by
  unfold valV at h
  rw [Option.isSome_map] at h
  obtain ⟨kv, e⟩ := Option.isSome_iff_exists.mp h
  have h1 := List.mem_of_find?_eq_some e
  have h2 := List.find?_some e
  have h2 : kv.1 = Sum.inl x := of_decide_eq_true h2
  obtain ⟨p, hp, rfl⟩ := List.mem_map.mp h1
  exact ⟨p, hp, Sum.inl.inj h2⟩
theorem kvs_none {its : List (FD × Addr)} {x : Int} (h : valV (kvsOf its) (.inl x) = none) : ∀ p ∈ its, p.1.byte ≠ x := by
  intro p hp e
  unfold valV at h
  rw [Option.map_eq_none_iff, List.find?_eq_none] at h
  exact h (.inl p.1.byte, .ref p.2) (List.mem_map.mpr ⟨p, hp, rfl⟩) (decide_eq_true (congrArg Sum.inl e))
theorem free_nat : ∀ (n : Nat) (l : List Int), l.length < n → ∃ v : Nat, v < n ∧ (v : Int) ∉ l
  | 0, _, h => absurd h (Nat.not_lt_zero _)
  | n + 1, l, h => by
    by_cases hn : (n : Int) ∈ l
    · obtain ⟨v, hv, hm⟩ := free_nat n (l.filter fun x => !decide (x = n)) (by
        have := List.length_filter_lt_length_iff_exists (l := l) (p := fun x => !decide (x = (n : Int)))
        have := this.mpr ⟨n, hn, by simp⟩
        omega)
      refine ⟨v, by omega, fun z => hm (List.mem_filter.mpr ⟨z, by simp; omega⟩)⟩
    · exact ⟨n, by omega, hn⟩
theorem cutS_take (z : Str) (k : Nat) : cutS z none (some (k : Int)) = ⟨(z.cps.toList.take k).toArray⟩ := by
  unfold cutS
  have e : z.length = z.cps.toList.length := rfl
  rw [e, HT.sIx_nat, HT.sIx_none, List.drop_zero, Nat.sub_zero]
  rcases Nat.le_total k z.cps.toList.length with h | h
  · rw [Nat.min_eq_left h]
  · rw [Nat.min_eq_right h, List.take_length, List.take_of_length_le h]
theorem cutS_drop (z : Str) (k : Nat) : cutS z (some (k : Int)) none = ⟨(z.cps.toList.drop k).toArray⟩ := by
  unfold cutS
  have e : z.length = z.cps.toList.length := rfl
  rw [e, HT.sIx_nat, HT.sIx_none]
  rcases Nat.le_total k z.cps.toList.length with h | h
  · rw [Nat.min_eq_left h, List.take_of_length_le (by rw [List.length_drop]; omega)]
  · rw [Nat.min_eq_right h, List.drop_of_length_le h, List.drop_length, List.take_nil]
def nmOf (cs : List Nat) (s : Nat) (j : Nat) : Str := ⟨(cs.take s ++ (LET.getD j 0 :: cs.drop s)).toArray⟩
theorem nm_eq {cs : List Nat} {s j : Nat} : cutS ⟨cs.toArray⟩ none (some (s : Int)) ++ ⟨#[LET.getD j 0]⟩ ++ cutS ⟨cs.toArray⟩ (some (s : Int)) none = nmOf cs s j := by
  rw [cutS_take, cutS_drop]
  show Str.mk ((_ ++ _) ++ _) = Str.mk _
  refine congrArg Str.mk ?_
  simp
theorem nm_inj {cs : List Nat} {s i j : Nat} (h : nmOf cs s i = nmOf cs s j) : LET.getD i 0 = LET.getD j 0 := by
  unfold nmOf at h
  have h1 := congrArg Array.toList (Str.mk.inj h)
  have h2 := List.append_cancel_left h1
  exact (List.cons.inj h2).1
theorem let_inj {i j : Nat} (hi : i < 26) (hj : j < 26) (h : LET.getD i 0 = LET.getD j 0) : i = j := by
  have a : ∀ i : Fin 26, ∀ j : Fin 26, LET.getD i.1 0 = LET.getD j.1 0 → i = j := by decide +kernel
  exact congrArg Fin.val (a ⟨i, hi⟩ ⟨j, hj⟩ h)
theorem let_mem {j : Nat} (hj : j < 26) : LET.getD j 0 ∈ LET := by
  have a : ∀ i : Fin 26, LET.getD i.1 0 ∈ LET := by decide +kernel
  exact a ⟨j, hj⟩
theorem nm_nodup {cs : List Nat} {s n : Nat} (hn : n ≤ 26) : ((List.range n).map (nmOf cs s)).Nodup := by
  refine List.Pairwise.map _ ?_ (List.Pairwise.and_mem.mp List.nodup_range)
  intro a b ⟨ha, hb, ne⟩ e
  rw [List.mem_range] at ha hb
  exact ne (let_inj (by omega) (by omega) (nm_inj e))
theorem nm_len {cs : List Nat} {s j : Nat} : (nmOf cs s j).length = cs.length + 1 := by
  show (Str.cps _).size = _
  unfold nmOf
  simp only [List.size_toArray, List.length_append, List.length_cons, List.length_take, List.length_drop]
  omega
theorem nm_let {cs : List Nat} {s j : Nat} (hc : ∀ c ∈ cs, c ∈ LET) (hj : j < 26) : ∀ c ∈ (nmOf cs s j).cps.toList, c ∈ LET := by
  intro c hm
  unfold nmOf at hm
  rcases List.mem_append.mp hm with h | h
  · exact hc c (List.mem_of_mem_take h)
  · rcases List.mem_cons.mp h with h | h
    · rw [h]; exact let_mem hj
    · exact hc c (List.mem_of_mem_drop h)
theorem let_at {i : Int} (h0 : 0 ≤ i) (h1 : i < 26) : atI ("abcdefghijklmnopqrstuvwxyz" : Str).cps.toList i = some (LET.getD i.toNat 0) := by
  rw [letters_eq]
  have a : ∀ i : Fin 26, atI LET (i.1 : Int) = some (LET.getD i.1 0) := by decide +kernel
  have := a ⟨i.toNat, by omega⟩
  rwa [show ((⟨i.toNat, by omega⟩ : Fin 26).1 : Int) = i by show (i.toNat : Int) = i; omega] at this
theorem joinL_nil : ∀ (ps : List (List Nat)), TL.joinL [] ps = ps.flatten
  | [] => rfl
  | [p] => by show p = _; simp
  | p :: q :: r => by
    show p ++ ([] ++ TL.joinL [] (q :: r)) = _
    rw [joinL_nil (q :: r)]; simp
theorem join_one (cs : List Nat) : Txt.join "" (cs.map fun c => (⟨#[c]⟩ : Str)) = ⟨cs.toArray⟩ := by
  refine TL.ext_tl ?_
  rw [congrArg TL.tl (TL.join_eq _ _), TL.tl_join]
  have e : TL.tl ("" : Str) = [] := by decide +kernel
  rw [e, joinL_nil, List.map_map]
  show (cs.map fun c => [c]).flatten = cs
  induction cs with
  | nil => rfl
  | cons c r ih => rw [List.map_cons, List.flatten_cons, ih]; rfl
def spForms : Sp := fun vs H Q _ => ∃ (b c : Addr) (stop : Int), vs = [.ref b, .int stop] ∧ Bag H b c ∧ 0 ≤ stop ∧ stop ≤ 255 ∧
  ∀ f its H', Vc.Ed [b] H H' → Bag H' b c → H f = none → TupsAt H' f its → Valid stop (its.map (·.1)) → Q (.ref f) H'
/-- what is drawn so far -/
structure Drawn (stop : Int) (cs : List Nat) (s : Nat) (its : List (FD × Addr)) : Prop where
  ok : ∀ p ∈ its, p.1.Ok
  byt : ∀ p ∈ its, 0 ≤ p.1.byte ∧ p.1.byte ≤ 255 ∧ p.1.byte ≠ stop
  ndb : ((its.map (·.1)).map (·.byte)).Nodup
  nms : (its.map (·.1)).map (·.name) = (List.range its.length).map (nmOf cs s)
theorem kvsOf_put {its : List (FD × Addr)} {f : FD} {a : Addr} (h : valV (kvsOf its) (.inl f.byte) = none) : putK (kvsOf its) (.inl f.byte) (.ref a) = kvsOf (its ++ [(f, a)]) := by
  rw [putK_new _ h]
  unfold kvsOf
  rw [List.map_append]; rfl
theorem Drawn.put {stop : Int} {cs : List Nat} {s : Nat} {its : List (FD × Addr)} {f : FD} {a : Addr} (h : Drawn stop cs s its) (ok : f.Ok) (b : 0 ≤ f.byte ∧ f.byte ≤ 255 ∧ f.byte ≠ stop) (hn : valV (kvsOf its) (.inl f.byte) = none) (hm : f.name = nmOf cs s its.length) : Drawn stop cs s (its ++ [(f, a)]) where
  ok := fun p hp => by
    rcases List.mem_append.mp hp with hp | hp
    · exact h.ok p hp
    · rw [List.mem_singleton.mp hp]; exact ok
  byt := fun p hp => by
    rcases List.mem_append.mp hp with hp | hp
    · exact h.byt p hp
    · rw [List.mem_singleton.mp hp]; exact b
  ndb := by
    rw [List.map_append, List.map_append, List.nodup_append]
    refine ⟨h.ndb, by simp, fun x hx y hy e => ?_⟩
    obtain ⟨f', hf', rfl⟩ := List.mem_map.mp hx
    obtain ⟨p, hp, rfl⟩ := List.mem_map.mp hf'
    have hy : y = f.byte := by simpa using hy
    exact kvs_none hn p hp (e.trans hy)
  nms := by
    rw [List.map_append, List.map_append, h.nms, List.length_append, List.length_singleton, List.range_succ, List.map_append]
    simp [hm]
section
variable {P : Program} {w : World} {K : PySem.W.Frag} {mg : Str → Option Value} {base : Heap} {A : Ad}
theorem ok__law_forms (T : Txt K mg A) : FnOk P w K mg base CX0 2 A.f__law_forms A.d__law_forms ["_law_bag_here", "_law_stop"] spForms := by
  have G__law_draw := ok__law_draw (P := P) (w := w) (base := base) T
  refine T.F__law_forms.ok sc__law_forms (fun vs H Q E h => ?_) (fun cdv Ar outer s H vs Q E hr h => ?_)
  · obtain ⟨b, c, stop, rfl, _⟩ := h
    rfl
  · obtain ⟨b, c, stop, rfl, hB, s0, s1, k⟩ := h
    have hu := hu_of hr
    have l26 : ("abcdefghijklmnopqrstuvwxyz" : Str).length ≤ 1000 := by decide +kernel
    refine ⟨_, (pss_cons (ps_set (i := 2) sc__law_forms.nd rfl (Or.inr rfl) pe_str) (pss_cons (ps_set (i := 3) sc__law_forms.nd rfl (Or.inl rfl) (pe_join pe_str (pe_lc (own := [("_law_k", 6)]) (g := gName 6) rfl sc__law_forms.nd (pi_range1 (by rfl) T.n_range (pa_cons (pe_call G__law_draw (by exact hr.mono (by decide)) (by rfl) T.g__law_draw T.F__law_draw.kp T.b__law_draw .nil pass0 (pa_cons (pv 0) (pa_cons pe_int pa_nil))) pa_nil)) (blkOk_by (own := [("_law_k", 6)]) (N := ["_law_bag_here", "_law_stop", "_law_letters", "_law_rest", "_law_spot", "_law_forms_here", "_law_k", "_law_byte", "_law_flow", "_law_length"]) (sc := defScope s__law_forms) (by decide +kernel)) (fun _ _ _ _ _ => by exact (pg_name (i := 6) sc__law_forms.nd rfl (Or.inl rfl))) (fun _ _ _ _ _ => by exact pts_nil) (fun _ _ _ _ _ => by (refine' Vc.blkE ?h ?q; (case h => exact (pe_ix ix_str (pv 2) (pe_call G__law_draw (by exact hr.mono (by decide)) (by rfl) T.g__law_draw T.F__law_draw.kp T.b__law_draw .nil pass0 (pa_cons (pv 0) (pa_cons pe_int pa_nil))) (fun _ _ => rfl))); (case q => first | exact rfl | (dsimp only; done) | (dsimp only; exact rfl))))))) (pss_cons (ps_set (i := 4) sc__law_forms.nd rfl (Or.inl rfl) (pe_call G__law_draw (by exact hr.mono (by decide)) (by rfl) T.g__law_draw T.F__law_draw.kp T.b__law_draw .nil pass0 (pa_cons (pv 0) (pa_cons (pe_op op_add (pe_callB call_len_str (by rfl) T.n_len (by decide +kernel) (pa_cons (pv 3) pa_nil)) pe_int) pa_nil)))) (pss_cons (ps_set (i := 5) sc__law_forms.nd rfl (Or.inl rfl) pe_dnewK) (pss_cons (ps_for PassesOwn.never rfl (pi_range1 (by rfl) T.n_range (pa_cons (pe_op op_add pe_int (pe_call G__law_draw (by exact hr.mono (by decide)) (by rfl) T.g__law_draw T.F__law_draw.kp T.b__law_draw .nil pass0 (pa_cons (pv 0) (pa_cons pe_int pa_nil)))) pa_nil)) (pg_name (i := 6) sc__law_forms.nd rfl (Or.inl rfl)) (pss_cons (ps_set (i := 7) sc__law_forms.nd rfl (Or.inl rfl) (pe_call G__law_draw (by exact hr.mono (by decide)) (by rfl) T.g__law_draw T.F__law_draw.kp T.b__law_draw .nil pass0 (pa_cons (pv 0) (pa_cons pe_int pa_nil)))) (pss_cons (ps_while PassesOwn.never (PW.pt (pw_or (pt_cmpR op_eq (pv 7) (pv 1) (nomark _)) (pw_or1 (pt_cmp (pc_din (by exact hu) (pv 7) (pv 5)))))) (pss_one (ps_set (i := 7) sc__law_forms.nd rfl (Or.inl rfl) (pe_op op_mod (pe_op op_add (pv 7) pe_int) pe_int)))) (pss_cons (ps_set (i := 8) sc__law_forms.nd rfl (Or.inl rfl) (pe_ix ix_list (pe_lst (pa_cons pe_str (pa_cons pe_str (pa_cons pe_str (pa_cons pe_str pa_nil))))) (pe_call G__law_draw (by exact hr.mono (by decide)) (by rfl) T.g__law_draw T.F__law_draw.kp T.b__law_draw .nil pass0 (pa_cons (pv 0) (pa_cons pe_int pa_nil))) (fun _ _ => rfl))) (pss_cons (ps_set (i := 9) sc__law_forms.nd rfl (Or.inl rfl) (pe_op op_add pe_int (pe_call G__law_draw (by exact hr.mono (by decide)) (by rfl) T.g__law_draw T.F__law_draw.kp T.b__law_draw .nil pass0 (pa_cons (pv 0) (pa_cons pe_int pa_nil))))) (pss_cons (ps_if (PW.pt (pw_and (pt_cmpR op_eq (pv 9) pe_int (nomark _)) (pw_and1 (pt_cmpR op_in_seq (pv 8) (pe_lst (pa_cons pe_str (pa_cons pe_str pa_nil))) (by rfl))))) (pss_one (ps_set (i := 9) sc__law_forms.nd rfl (Or.inl rfl) pe_int)) pss_nil) (pss_one (ps_dput (by exact hu) (pv 5) (pv 7) (pe_tup (pa_cons (pe_op op_add_str (pe_op op_add_str (pe_slice sl_str (pv 3) po_none (po_some (pv 4))) (pe_ix ix_str (pv 2) (pv 6) (fun _ _ => rfl))) (pe_slice sl_str (pv 3) (po_some (pv 4)) po_none)) (pa_cons (pv 9) (pa_cons (pv 8) pa_nil)))) rfl)))))))) (pss_one (ps_ret (pv 5)))))))), ?_⟩
    walk_at "go"
    refine ⟨b, c, 8, rfl, hB, by omega, by omega, fun r H1 r0 r1 e1 hB1 => ?_⟩
    walk_at "go"
    refine ⟨by omega, by omega, Vc.lc_by walk_range (fun L i H' => Vc.Ed [b] H H' ∧ Bag H' b c ∧ ∃ cs : List Nat, cs.length = i ∧ (∀ c ∈ cs, c ∈ LET) ∧ H' L = some (.lst (cs.map fun c => .str ⟨#[c]⟩))) (fun L H2 nL e2 hL => ⟨by walk_at "ed", hB1.ed0 e2, [], rfl, (by intro c h; cases h), hL⟩) (fun _ _ _ _ _ _ => trivial) ?_ ?_⟩
    · rintro L i x H2 H3 nL hi ⟨e2, hB2, cs, lc, hc, hL⟩ ⟨rfl, rfl⟩
      walk_at "go"
      refine ⟨rfl, ?_⟩
      walk_at "go"
      refine ⟨b, c, 26, rfl, hB2, by omega, by omega, fun v H4 v0 v1 e4 hB4 => ?_⟩
      have hv := let_at v0 v1
      walk_at "go"
      have nb := hB1.fb nL
      have nL0 := e1.dom _ nL
      have hL4 := e4.at1 nb.1.symm hL
      refine ⟨_, hL4, by rw [List.length_map]; exact small1000 (by omega), ?_⟩
      generalize hu5 : upd _ L _ = H5
      obtain ⟨e5, hL5⟩ := Vc.chg hu5 hL4
      refine ⟨by walk_at "ed", hB4.ed1 e5 nb.1 nb.2, cs ++ [LET.getD v.toNat 0], by rw [List.length_append, lc]; rfl, fun c' hc' => ?_, by rw [List.map_append]; exact hL5⟩
      rcases List.mem_append.mp hc' with h | h
      · exact hc c' h
      · rw [List.mem_singleton.mp h]; exact let_mem (by omega)
    · rintro L H2 nL ⟨e2, hB2, cs, lc, hc, hL⟩
      walk_at "go"
      have hL' : SqL K H2 L ((cs.map fun c => (⟨#[c]⟩ : Str)).map V.str) := by rw [List.map_map]; exact .of hL
      refine Vc.go_join hL' ?_ ?_
      · have e0 : ("" : Str).length = 0 := by decide +kernel
        have e1 : (List.map (fun x : Str => x.length) (List.map (fun c => { cps := #[c] }) cs)).sum = cs.length := by
          clear hL hc lc hL'
          induction cs with
          | nil => rfl
          | cons c r ih =>
            rw [List.map_cons, List.map_cons, List.sum_cons, ih, List.length_cons]
            show 1 + r.length = r.length + 1
            omega
        rw [e0, e1]
        omega
      rw [join_one]
      have zl : (⟨cs.toArray⟩ : Str).length = cs.length := by show cs.toArray.size = _; simp
      have zl1 : (⟨cs.toArray⟩ : Str).length ≤ 1000 := by omega
      walk_at "go"
      rw [zl]
      refine ⟨b, c, _, rfl, hB2, by omega, by omega, fun sp H3 p0 p1 e3 hB3 => ?_⟩
      walk_at "go"
      intro f nf
      generalize hu4 : upd _ f _ = H4
      obtain ⟨e4, hf4⟩ := Vc.alloc hu4 nf
      walk_at "go"
      refine ⟨b, c, 16, rfl, hB3.ed0 e4, by omega, by omega, fun n H5 n0 n1 e5 hB5 => ?_⟩
      have nfb := (hB3.fb nf).1.symm
      have nf0 : H f = none := by walk_at "free"
      have ee : Vc.Ed [b] H H5 := by walk_at "ed"
      have hf5 := e5.at1 nfb hf4
      walk_at "go"
      obtain ⟨s, rfl⟩ : ∃ s : Nat, sp = (s : Int) := ⟨sp.toNat, by omega⟩
      have cl7 : cs.length ≤ 7 := by omega
      have fin : ∀ (its : List (FD × Addr)) (H' : Hp), Vc.Ed [b] H H' → Bag H' b c → TupsAt H' f its → Drawn stop cs s its → 1 ≤ its.length → its.length ≤ 16 → Q (.ref f) H' := by
        intro its H' e hB hT hD l1 l16
        refine k f its H' e hB nf0 hT ⟨by rw [List.length_map]; exact l1, by rw [List.length_map]; exact l16, ?_, ?_, hD.ndb, ?_, s0, s1⟩
        · intro f' hf'
          obtain ⟨p, hp, rfl⟩ := List.mem_map.mp hf'
          exact hD.ok p hp
        · intro f' hf'
          obtain ⟨p, hp, rfl⟩ := List.mem_map.mp hf'
          exact hD.byt p hp
        · rw [hD.nms]; exact nm_nodup (by omega)
      refine ⟨by omega, by omega, for_range (lo := 0) (fun i σ H' => ∃ y6 y7 y8 y9 its, σ = [some (.ref b), some (.int stop), some (.str "abcdefghijklmnopqrstuvwxyz"), some (.str ⟨cs.toArray⟩), some (.int (s : Int)), some (.ref f), y6, y7, y8, y9] ∧ Vc.Ed [b] H H' ∧ Bag H' b c ∧ TupsAt H' f its ∧ Drawn stop cs s its ∧ its.length = i) ⟨none, none, none, none, [], rfl, ee, hB5, ⟨hf5, (by intro p h; cases h)⟩, ⟨(by intro p h; cases h), (by intro p h; cases h), (by simp), rfl⟩, rfl⟩ ?_ ?_⟩
      · rintro i σ H6 hi ⟨y6, y7, y8, y9, its, rfl, e6, hB6, hT6, hD, li⟩
        have hi : i < 16 := by omega
        walk_at "go"
        refine ⟨b, c, 256, rfl, hB6, by omega, by omega, fun byte H7 b0 b1 e7 hB7 => ?_⟩
        have hT7 := hT6.ed1 e7 nfb
        walk_at "go"
        obtain ⟨v, v256, hv⟩ := free_nat 256 (stop :: (its.map (·.1)).map (·.byte)) (by simp; omega)
        refine ⟨fun m σ H' => ∃ byte : Int, σ = [some (.ref b), some (.int stop), some (.str "abcdefghijklmnopqrstuvwxyz"), some (.str ⟨cs.toArray⟩), some (.int (s : Int)), some (.ref f), some (.int (0 + (i : Int))), some (.int byte), y8, y9] ∧ 0 ≤ byte ∧ byte < 256 ∧ H' = H7 ∧ m = (((v : Int) - byte) % 256).toNat, ⟨_, byte, rfl, b0, b1, rfl, rfl⟩, ?_⟩
        rintro m σ H' ⟨byte, rfl, b0, b1, rfl, rfl⟩
        have hd7 := hT7.ob
        walk_at "go"
        refine Vc.go_ite (fun h1 => ?_) (fun h1 => ?_)
        · have ne : byte ≠ v := fun z => hv (List.mem_cons.mpr (.inl (z.symm.trans h1)))
          walk_at "go"
          refine ⟨fun σ' H'' => ∃ byte' : Int, σ' = [some (.ref b), some (.int stop), some (.str "abcdefghijklmnopqrstuvwxyz"), some (.str ⟨cs.toArray⟩), some (.int (s : Int)), some (.ref f), some (.int (0 + (i : Int))), some (.int byte'), y8, y9] ∧ 0 ≤ byte' ∧ byte' < 256 ∧ H'' = H' ∧ (((v : Int) - byte') % 256).toNat < (((v : Int) - byte) % 256).toNat, ?_, ?_⟩
          · rintro σ' H'' ⟨byte', e1, e2, e3, e4, e5⟩
            exact ⟨_, e5, byte', e1, e2, e3, e4, rfl⟩
          · walk_at "go"
            exact ⟨_, rfl, by omega, by omega, rfl, by omega⟩
        · walk_at "go"
          refine Vc.go_iteb (fun h2 => ?_) (fun h2 => ?_)
          · have ne : byte ≠ v := fun z => hv (List.mem_cons_of_mem _ (by
              obtain ⟨p, hp, e⟩ := kvs_some h2
              exact List.mem_map.mpr ⟨p.1, List.mem_map.mpr ⟨p, hp, rfl⟩, e.trans z⟩))
            walk_at "go"
            refine ⟨fun σ' H'' => ∃ byte' : Int, σ' = [some (.ref b), some (.int stop), some (.str "abcdefghijklmnopqrstuvwxyz"), some (.str ⟨cs.toArray⟩), some (.int (s : Int)), some (.ref f), some (.int (0 + (i : Int))), some (.int byte'), y8, y9] ∧ 0 ≤ byte' ∧ byte' < 256 ∧ H'' = H' ∧ (((v : Int) - byte') % 256).toNat < (((v : Int) - byte) % 256).toNat, ?_, ?_⟩
            · rintro σ' H'' ⟨byte', e1, e2, e3, e4, e5⟩
              exact ⟨_, e5, byte', e1, e2, e3, e4, rfl⟩
            · walk_at "go"
              exact ⟨_, rfl, by omega, by omega, rfl, by omega⟩
          · have hn : valV (kvsOf its) (.inl byte) = none := Option.not_isSome_iff_eq_none.mp (by rw [h2]; decide)
            walk_at "go"
            intro M nM
            generalize hu8 : upd _ M _ = H8
            obtain ⟨e8, hM⟩ := Vc.alloc hu8 nM
            walk_at "go"
            refine ⟨b, c, 4, rfl, hB7.ed0 e8, by omega, by omega, fun fi H9 f0 f1 e9 hB9 => ?_⟩
            obtain ⟨fl, hfl, hfa⟩ : ∃ fl, Flow fl ∧ atI [V.str "next", .str "jump", .str "test", .str "end"] fi = some (.str fl) := by
              have : fi = 0 ∨ fi = 1 ∨ fi = 2 ∨ fi = 3 := by omega
              rcases this with e | e | e | e <;> subst e
              · exact ⟨"next", .inl rfl, rfl⟩
              · exact ⟨"jump", .inr (.inl rfl), rfl⟩
              · exact ⟨"test", .inr (.inr (.inl rfl)), rfl⟩
              · exact ⟨"end", .inr (.inr (.inr rfl)), rfl⟩
            have hM9 := e9.at1 (hB7.fb nM).1.symm hM
            walk_at "go"
            refine ⟨b, c, 4, rfl, hB9, by omega, by omega, fun li0 H10 l0 l1 e10 hB10 => ?_⟩
            have zt : (cutS ⟨cs.toArray⟩ none (some (s : Int))).length ≤ 7 := Nat.le_trans (cutS_length _ _ _) (by omega)
            have zd : (cutS ⟨cs.toArray⟩ (some (s : Int)) none).length ≤ 7 := Nat.le_trans (cutS_length _ _ _) (by omega)
            have ha : atI ("abcdefghijklmnopqrstuvwxyz" : Str).cps.toList (0 + (i : Int)) = some (LET.getD i 0) := by
              have := let_at (i := 0 + (i : Int)) (by omega) (by omega)
              rwa [show (0 + (i : Int)).toNat = i by omega] at this
            have z1 : (cutS ⟨cs.toArray⟩ none (some (s : Int))).length + (⟨#[LET.getD i 0]⟩ : Str).length ≤ 1000 := by
              have : (⟨#[LET.getD i 0]⟩ : Str).length = 1 := rfl
              omega
            have z2 : (cutS ⟨cs.toArray⟩ none (some (s : Int)) ++ (⟨#[LET.getD i 0]⟩ : Str)).length + (cutS ⟨cs.toArray⟩ (some (s : Int)) none).length ≤ 1000 := by
              have : (cutS ⟨cs.toArray⟩ none (some (s : Int)) ++ (⟨#[LET.getD i 0]⟩ : Str)).length = (cutS ⟨cs.toArray⟩ none (some (s : Int))).length + 1 := by
                show (_ ++ _ : Array Nat).size = _
                rw [Array.size_append]; rfl
              omega
            have kl : (kvsOf its).length ≤ 1000 := by rw [kvsOf_len]; omega
            have enm := nm_eq (cs := cs) (s := s) (j := i)
            have hT8 := (hT7.ed0 e8).ed1 e9 nfb
            have hT10 := hT8.ed1 e10 nfb
            have hfl_H10 := hT10.ob
            have tps_H10 := hT10.tp
            have hB_H10 := hB10
            walk_at "go"
            refine Vc.go_ite (fun h3 => ?_) (fun h3 => ?_)
            · walk_at "go"
              intro M2 nM2
              generalize hu11 : upd _ M2 _ = H11
              obtain ⟨e11, hM2⟩ := Vc.alloc hu11 nM2
              have hfl_H11 := e11.at0 hfl_H10
              have tps_H11 := (hT10.ed0 e11).tp
              have hB_H11 := hB10.ed0 e11
              walk_at "go"
              rw [inV2]
              refine Vc.go_ite (fun h4 => ?_) (fun h4 => ?_)
              · walk_at "go"
                intro tp ntp
                generalize hu12 : upd _ tp _ = H12
                obtain ⟨e12, ht12⟩ := Vc.alloc hu12 ntp
                have hf12 : H12 f = some (.dK (kvsOf its)) := e12.at0 (hfl_H11)
                walk_at "go"
                generalize hu13 : upd _ f _ = H13
                obtain ⟨e13, hf13⟩ := Vc.chg hu13 hf12
                rw [enm] at ht12
                rw [kvsOf_put (f := ⟨byte, nmOf cs s i, 2, fl⟩) hn] at hf13
                have hB12 : Bag H12 b c := hB_H11.ed0 e12
                refine ⟨_, _, _, _, its ++ [(⟨byte, nmOf cs s i, 2, fl⟩, tp)], rfl, (by walk_at "ed"), hB12.ed1 e13 nfb.symm (fun z => ?_), ⟨hf13, fun p hp => ?_⟩, hD.put ⟨by rw [nm_len]; omega, by rw [nm_len]; omega, nm_let hc (by omega), by show (1 : Int) ≤ 2; omega, by show 2 ≤ (4 : Int); omega, hfl, fun _ => by show (2 : Int) ≤ 2; omega⟩ ⟨b0, by show byte ≤ 255; omega, h1⟩ hn (by rw [li]), by rw [List.length_append, li]; rfl⟩
                · obtain ⟨_, _, _, _, B⟩ := hB12
                  have := B.cl
                  rw [z, hf12] at this
                  cases this
                · refine e13.tup _ _ ?_
                  rcases List.mem_append.mp hp with hp | hp
                  · exact e12.tup _ _ (tps_H11 p hp)
                  · rw [List.mem_singleton.mp hp]; exact ht12
              · walk_at "go"
                intro tp ntp
                generalize hu12 : upd _ tp _ = H12
                obtain ⟨e12, ht12⟩ := Vc.alloc hu12 ntp
                have hf12 : H12 f = some (.dK (kvsOf its)) := e12.at0 (hfl_H11)
                walk_at "go"
                generalize hu13 : upd _ f _ = H13
                obtain ⟨e13, hf13⟩ := Vc.chg hu13 hf12
                rw [enm] at ht12
                rw [kvsOf_put (f := ⟨byte, nmOf cs s i, 1 + li0, fl⟩) hn] at hf13
                have hB12 : Bag H12 b c := hB_H11.ed0 e12
                refine ⟨_, _, _, _, its ++ [(⟨byte, nmOf cs s i, 1 + li0, fl⟩, tp)], rfl, (by walk_at "ed"), hB12.ed1 e13 nfb.symm (fun z => ?_), ⟨hf13, fun p hp => ?_⟩, hD.put ⟨by rw [nm_len]; omega, by rw [nm_len]; omega, nm_let hc (by omega), by show (1 : Int) ≤ 1 + li0; omega, by show 1 + li0 ≤ (4 : Int); omega, hfl, fun h => (h4 h).elim⟩ ⟨b0, by show byte ≤ 255; omega, h1⟩ hn (by rw [li]), by rw [List.length_append, li]; rfl⟩
                · obtain ⟨_, _, _, _, B⟩ := hB12
                  have := B.cl
                  rw [z, hf12] at this
                  cases this
                · refine e13.tup _ _ ?_
                  rcases List.mem_append.mp hp with hp | hp
                  · exact e12.tup _ _ (tps_H11 p hp)
                  · rw [List.mem_singleton.mp hp]; exact ht12
            · walk_at "go"
              intro tp ntp
              generalize hu12 : upd _ tp _ = H12
              obtain ⟨e12, ht12⟩ := Vc.alloc hu12 ntp
              have hf12 : H12 f = some (.dK (kvsOf its)) := e12.at0 (hfl_H10)
              walk_at "go"
              generalize hu13 : upd _ f _ = H13
              obtain ⟨e13, hf13⟩ := Vc.chg hu13 hf12
              rw [enm] at ht12
              rw [kvsOf_put (f := ⟨byte, nmOf cs s i, 1 + li0, fl⟩) hn] at hf13
              have hB12 : Bag H12 b c := hB_H10.ed0 e12
              refine ⟨_, _, _, _, its ++ [(⟨byte, nmOf cs s i, 1 + li0, fl⟩, tp)], rfl, (by walk_at "ed"), hB12.ed1 e13 nfb.symm (fun z => ?_), ⟨hf13, fun p hp => ?_⟩, hD.put ⟨by rw [nm_len]; omega, by rw [nm_len]; omega, nm_let hc (by omega), by show (1 : Int) ≤ 1 + li0; omega, by show 1 + li0 ≤ (4 : Int); omega, hfl, fun _ => by show (2 : Int) ≤ 1 + li0; omega⟩ ⟨b0, by show byte ≤ 255; omega, h1⟩ hn (by rw [li]), by rw [List.length_append, li]; rfl⟩
              · obtain ⟨_, _, _, _, B⟩ := hB12
                have := B.cl
                rw [z, hf12] at this
                cases this
              · refine e13.tup _ _ ?_
                rcases List.mem_append.mp hp with hp | hp
                · exact e12.tup _ _ (tps_H10 p hp)
                · rw [List.mem_singleton.mp hp]; exact ht12
      · rintro σ H6 ⟨y6, y7, y8, y9, its, rfl, e6, hB6, hT6, hD, li⟩
        walk_at "go"
        exact fin its H6 e6 hB6 hT6 hD (by omega) (by omega)
end

end My
namespace My
open PySem PySem.Spec PyProof.Rows L2
def gkb_CodeSet_followers_1_place_instruction {α : Type} (us ws : List α) : List α := match us, ws with
  | [u0], [w0, w1] => [u0, w1, w0]
  | _, _ => []
theorem kb_CodeSet_followers_1_place_instruction {K : PySem.W.Frag} {f : Addr} {fd : FuncData} (F : Fun K "followers" "CodeSet.followers" s_CodeSet_followers f fd) : KBinds K fd ["self", "instruction", "place"] ["place", "instruction"] gkb_CodeSet_followers_1_place_instruction gkb_CodeSet_followers_1_place_instruction := by
  refine Vc.kbinds F (fun kV doc pm an cdv ct us ws hl => ?_) (fun {vs us zs ws} r rz => ?_)
  · unfold gkb_CodeSet_followers_1_place_instruction at hl ⊢
    split at hl
    · rfl
    · cases hl
  · rcases r with _ | ⟨hu0, _ | ⟨_, _⟩⟩ <;> rcases rz with _ | ⟨hw0, _ | ⟨hw1, _ | ⟨_, _⟩⟩⟩ <;> first | exact .nil | exact (.cons hu0 (.cons hw1 (.cons hw0 .nil)))
/-! ### k01: code sets made, and the law -/
def spMadeCodes (A : Ad) : Sp := fun vs H Q _ => ∃ (f : Addr) (stop : Int) (its : List (FD × Addr)), vs = [.int stop, .ref f] ∧ TupsAt H f its ∧ Valid stop (its.map (·.1)) ∧
  ∀ c t items H', Vc.Ed [] H H' → H t = none → CodesAt A H' c t items → items.map (·.1) = its.map (·.1) → Q (.ref c) H'
theorem kvs_none' {its : List (FD × Addr)} {x : Int} (h : ∀ p ∈ its, p.1.byte ≠ x) : valV (kvsOf its) (.inl x) = none := by
  cases e : valV (kvsOf its) (.inl x) with
  | none => rfl
  | some v =>
    obtain ⟨p, hp, hx⟩ := kvs_some (its := its) (x := x) (by rw [e]; rfl)
    exact (h p hp hx).elim
theorem fresh_byte {its : List (FD × Addr)} {i : Nat} {p : FD × Addr} (nd : ((its.map (·.1)).map (·.byte)).Nodup) (hp : its[i]? = some p) : ∀ f ∈ (its.take i).map (·.1), f.byte ≠ p.1.byte := by
  intro f hf e
  have h1 : (((its.take (i + 1)).map (·.1)).map (·.byte)).Nodup := nd.sublist (((List.take_sublist (i + 1) its).map _).map _)
  rw [List.take_add_one, hp, List.map_append, List.map_append, List.nodup_append] at h1
  exact h1.2.2 f.byte (List.mem_map.mpr ⟨f, hf, rfl⟩) p.1.byte (by simp) e
section
variable {P : Program} {w : World} {K : PySem.W.Frag} {mg : Str → Option Value} {base : Heap} {A : Ad}
theorem ok__law_codes (T : Txt K mg A) : FnOk P w K mg base CX0 5 A.f__law_codes A.d__law_codes ["_law_stop", "_law_forms_here"] (spMadeCodes A) := by
  have G_Formu_initu := ok_Formu_initu (P := P) (w := w) (base := base) T
  have G_CodeSetu_initu := ok_CodeSetu_initu (P := P) (w := w) (base := base) T
  refine T.F__law_codes.ok sc__law_codes (fun vs H Q E h => ?_) (fun cdv Ar outer s H vs Q E hr h => ?_)
  · obtain ⟨f, stop, its, rfl, _⟩ := h
    rfl
  · obtain ⟨f, stop, its, rfl, TA, Va, k⟩ := h
    have hu := hu_of hr
    have v1 := Va.n1
    have v16 := Va.n16
    rw [List.length_map] at v1 v16
    refine ⟨_, (pss_cons (ps_set (i := 2) sc__law_codes.nd rfl (Or.inl rfl) pe_dnewK) (pss_cons (ps_lock (ps_for PassesOwn.never rfl (pi_keys (pv 1)) (pg_name (i := 3) sc__law_codes.nd rfl (Or.inl rfl)) (pss_one (ps_dput (by exact hu) (pv 2) (pv 3) (pe_make T.mk_Form G_Formu_initu (by exact hr.mono (by decide)) (by rfl) T.g_Form T.b_Formu_initu .nil pass0 (pa_cons (pe_ix ix_tup (pe_dget (by exact hu) (pv 1) (pv 3) (fun _ _ => rfl)) pe_int (fun _ _ => rfl)) (pa_cons (pe_ix ix_tup (pe_dget (by exact hu) (pv 1) (pv 3) (fun _ _ => rfl)) pe_int (fun _ _ => rfl)) (pa_cons (pe_ix ix_tup (pe_dget (by exact hu) (pv 1) (pv 3) (fun _ _ => rfl)) pe_int (fun _ _ => rfl)) pa_nil)))) rfl)))) (pss_one (ps_ret (pe_make T.mk_CodeSet G_CodeSetu_initu (by exact hr.mono (by decide)) (by rfl) T.g_CodeSet T.b_CodeSetu_initu .nil pass0 (pa_cons (pv 0) (pa_cons (pv 2) pa_nil))))))), ?_⟩
    walk_at "go"
    intro m nm
    generalize hu2 : upd _ m _ = H2
    obtain ⟨e2, hm⟩ := Vc.alloc hu2 nm
    have T2 := TA.ed0 e2
    have nfm : f ≠ m := ne_of_none TA.ob nm
    walk_at "go"
    refine Vc.lock_keys rfl T2.ob [m] (fun H1 i σ H' => ∃ y items, σ = [some (.int stop), some (.ref f), some (.ref m), y] ∧ Vc.Ed [m] H1 H' ∧ MadeAt A H' m items ∧ (∀ q ∈ items, q.2 ≠ f) ∧ items.map (·.1) = (its.take i).map (·.1)) (fun _ _ _ _ h => h.choose_spec.choose_spec.2.1) (fun H1 od e1 _ => ⟨none, [], rfl, .refl, ⟨e1.at1 nfm.symm hm, (by intro p h; cases h)⟩, (by intro p h; cases h), by simp⟩) ?_ ?_
    · rintro H1 od i k' v σ H' e1 h1 h1' hk ⟨y, items, rfl, e3, M, nf, hi⟩
      obtain ⟨p, hp, rfl, rfl⟩ := kvsOf_get hk
      have hmem := List.mem_of_getElem? hp
      have hv := kvsOf_val Va.ndb hmem
      have ok := Va.ok p.1 (List.mem_map.mpr ⟨p, hmem, rfl⟩)
      have htp : H' p.2 = some (.tup [.str p.1.name, .int p.1.len, .str p.1.flow]) := e3.tup _ _ (e1.tup _ _ (T2.tp p hmem))
      have a0 : atI [V.str p.1.name, .int p.1.len, .str p.1.flow] 0 = some (.str p.1.name) := rfl
      have a1 : atI [V.str p.1.name, .int p.1.len, .str p.1.flow] 1 = some (.int p.1.len) := rfl
      have a2 : atI [V.str p.1.name, .int p.1.len, .str p.1.flow] 2 = some (.str p.1.flow) := rfl
      have hi16 : i < its.length := (List.getElem?_eq_some_iff.mp hp).1
      change gName 3 (V.int p.1.byte) _ _ _
      walk_at "go"
      intro x dx nx ndx ne
      generalize hu4 : upd _ x _ = H4
      obtain ⟨e4, hx, hdx⟩ := Vc.allocI hu4 nx ndx ne
      refine ⟨x, dx, p.1, rfl, ok, hx, fun H5 e5 hF => ⟨rfl, ?_⟩⟩
      have nmx : m ≠ x := ne_of_none M.ob nx
      have hm5 : H5 m = some (.dK (kvsOf items)) := e5.at1 nmx (e4.at0 M.ob)
      have hil : items.length = i := by
        have := congrArg List.length hi
        rw [List.length_map, List.length_map, List.length_take] at this
        omega
      have kl : (kvsOf items).length ≤ 1000 := by rw [kvsOf_len]; omega
      walk_at "go"
      generalize hu6 : upd _ m _ = H6
      obtain ⟨e6, hm6⟩ := Vc.chg hu6 hm5
      have nx1 : H1 x = none := e3.dom _ nx
      have hn : valV (kvsOf items) (.inl p.1.byte) = none := kvs_none' fun q hq => fresh_byte Va.ndb hp q.1 (hi ▸ List.mem_map.mpr ⟨q, hq, rfl⟩)
      rw [kvsOf_put hn] at hm6
      refine ⟨_, items ++ [(p.1, x)], rfl, (by walk_at "ed"), ⟨hm6, fun q hq => ?_⟩, fun q hq => ?_, ?_⟩
      · rcases List.mem_append.mp hq with hq | hq
        · obtain ⟨dq, hq'⟩ := M.fm q hq
          exact ((M.fm q hq).ed0 e4 |>.ed e5 (fun z => ne_of_none hq' nx (List.mem_singleton.mp z))).ed1 e6 hm5 (fun _ _ _ => by intro z; cases z)
        · rw [List.mem_singleton.mp hq]
          exact hF.ed1 e6 hm5 (fun _ _ _ => by intro z; cases z)
      · rcases List.mem_append.mp hq with hq | hq
        · exact nf q hq
        · rw [List.mem_singleton.mp hq]
          exact (ne_of_none h1' nx).symm
      · rw [List.map_append, hi, List.take_add_one, hp, List.map_append]; rfl
    · rintro H1 σ H' H3 e1 ⟨y, items, rfl, e3, M, nf, hi⟩ e4 hf4 k2
      rw [kvsOf_len, List.take_of_length_le (Nat.le_refl _)] at hi
      have M3 : MadeAt A H3 m items := ⟨k2 _ _ nfm.symm M.ob, fun q hq => by
        obtain ⟨dq, hq'⟩ := M.fm q hq
        exact ⟨dq, k2 _ _ (nf q hq) hq'⟩⟩
      walk_at "go"
      intro x dx nx ndx ne
      generalize hu4 : upd _ x _ = H4
      obtain ⟨e5, hx, hdx⟩ := Vc.allocI hu4 nx ndx ne
      refine ⟨x, dx, m, stop, items, rfl, ⟨e5.at0 M3.ob, fun q hq => (M3.fm q hq).ed0 e5⟩, hi ▸ Va, hx, fun t H5 e6 nt CA => ⟨rfl, ?_⟩⟩
      have nx0 : H x = none := e2.dom _ (e4.dom _ nx)
      have nt0 : H t = none := e2.dom _ (e4.dom _ (e5.dom _ nt))
      exact k x t items H5 (by walk_at "ed") nt0 CA hi
end
def spLaw (K : PySem.W.Frag) : Sp := fun vs H Q _ => ∃ (a : Addr) (ns : List Int), vs = [.ref a] ∧ SqL K H a (ns.map V.int) ∧ ns.length ≤ 63 ∧ ∀ H', Q (.bl true) H'
/-- the things that stand while the law runs -/
structure Wd (A : Ad) (H : Hp) (b c f cs t : Addr) (its items : List (FD × Addr)) : Prop where
  bag : Bag H b c
  tup : TupsAt H f its
  cod : CodesAt A H cs t items
theorem Wd.ed0 {A : Ad} {H H' : Hp} {b c f cs t : Addr} {its items : List (FD × Addr)} (e : Vc.Ed [] H H') (W : Wd A H b c f cs t its items) : Wd A H' b c f cs t its items := ⟨W.bag.ed0 e, W.tup.ed0 e, W.cod.ed0 e⟩
theorem Wd.draw {A : Ad} {H H' : Hp} {b c f cs t : Addr} {its items : List (FD × Addr)} (W : Wd A H b c f cs t its items) (e : Vc.Ed [b] H H') (hB : Bag H' b c) (n1 : f ≠ b) (n2 : t ≠ b) : Wd A H' b c f cs t its items := by
  obtain ⟨ns, a, r, s, B⟩ := W.bag
  exact ⟨hB, W.tup.ed1 e n1, W.cod.ed1 e B.ob (fun _ _ _ => by intro z; cases z) n2⟩
theorem Wd.lst {A : Ad} {H H' : Hp} {b c f cs t L : Addr} {xs : List V} {its items : List (FD × Addr)} (W : Wd A H b c f cs t its items) (e : Vc.Ed [L] H H') (hL : H L = some (.lst xs)) (n : c ≠ L) : Wd A H' b c f cs t its items := by
  obtain ⟨ns, a, r, s, B⟩ := id W.bag
  obtain ⟨tk, ht, _⟩ := W.cod.tb
  exact ⟨W.bag.ed1 e (ne_of B.ob hL (by intro z; cases z)) n, W.tup.ed1 e (ne_of W.tup.ob hL (by intro z; cases z)), W.cod.ed1 e hL (fun _ _ _ => by intro z; cases z) (ne_of ht hL (by intro z; cases z))⟩
theorem dp_ints {K : PySem.W.Frag} {H : Hp} : ∀ (ns : List Int), DpAll K H (ns.map V.int) (ns.map PyData.int)
  | [] => .nil
  | n :: r => .cons (.int n) (dp_ints r)
theorem sh_ints (ns : List Int) (h : ns.length ≤ 1000) : Shal 1 (.tuple (ns.map PyData.int)) := .inr ⟨_, .inr rfl, by rw [List.length_map]; exact h, fun x hx => by
  obtain ⟨n, _, rfl⟩ := List.mem_map.mp hx
  exact .inr (.inr (.inl ⟨n, rfl⟩))⟩
theorem foll_len {fl n l p} : (foll fl n l p).length ≤ 1000 := by
  unfold foll
  repeat' split
  all_goals (simp only [List.length_cons, List.length_nil]; omega)
section
variable {P : Program} {w : World} {K : PySem.W.Frag} {mg : Str → Option Value} {base : Heap} {A : Ad}
theorem ok_law (T : Txt K mg A) : FnOk P w K mg base CX0 6 A.f_law A.d_law ["_law_script"] (spLaw K) := by
  have G__law_bag := ok__law_bag (P := P) (w := w) (base := base) T
  have G__law_draw := ok__law_draw (P := P) (w := w) (base := base) T
  have G__law_forms := ok__law_forms (P := P) (w := w) (base := base) T
  have G__law_codes := ok__law_codes (P := P) (w := w) (base := base) T
  have G__law_instruction := ok__law_instruction (P := P) (w := w) (base := base) T
  have G__law_due := ok__law_due (P := P) (w := w) (base := base) T
  have G__law_same := ok__law_same (P := P) (w := w) (base := base) T 2
  have G_CodeSet_followers := ok_CodeSet_followers (P := P) (w := w) (base := base) T
  refine T.F_law.ok sc_law (fun vs H Q E h => ?_) (fun cdv Ar outer s H vs Q E hr h => ?_)
  · obtain ⟨a, ns, rfl, _⟩ := h
    rfl
  · obtain ⟨a, ns, rfl, hS, hl, k⟩ := h
    have hu := hu_of hr
    refine ⟨_, (pss_cons (ps_set (i := 1) sc_law.nd rfl (Or.inl rfl) (pe_call G__law_bag (by exact hr.mono (by decide)) (by rfl) T.g__law_bag T.F__law_bag.kp T.b__law_bag .nil pass0 (pa_cons (pv 0) pa_nil))) (pss_cons (ps_set (i := 2) sc_law.nd rfl (Or.inl rfl) (pe_call G__law_draw (by exact hr.mono (by decide)) (by rfl) T.g__law_draw T.F__law_draw.kp T.b__law_draw .nil pass0 (pa_cons (pv 1) (pa_cons pe_int pa_nil)))) (pss_cons (ps_set (i := 3) sc_law.nd rfl (Or.inl rfl) (pe_call G__law_forms (by exact hr.mono (by decide)) (by rfl) T.g__law_forms T.F__law_forms.kp T.b__law_forms .nil pass0 (pa_cons (pv 1) (pa_cons (pv 2) pa_nil)))) (pss_cons (ps_set (i := 4) sc_law.nd rfl (Or.inl rfl) (pe_call G__law_codes (by exact hr.mono (by decide)) (by rfl) T.g__law_codes T.F__law_codes.kp T.b__law_codes .nil pass0 (pa_cons (pv 2) (pa_cons (pv 3) pa_nil)))) (pss_cons (ps_set (i := 5) sc_law.nd rfl (Or.inl rfl) (pe_callTy (call_list_dK rfl) (by rfl) T.n_list (by decide +kernel) (pa_cons (pv 3) pa_nil))) (pss_cons (ps_for PassesOwn.never rfl (pi_range1 (by rfl) T.n_range (pa_cons pe_int pa_nil)) (pg_name (i := 6) sc_law.nd rfl (Or.inl rfl)) (pss_one (ps_expr (pe_bm PySem.F.plainAttrs_list PySem.F.slot_list_append PySem.F.type_list_append mt_append (pv 5) (pa_cons (pe_ix ix_list (pv 5) (pe_call G__law_draw (by exact hr.mono (by decide)) (by rfl) T.g__law_draw T.F__law_draw.kp T.b__law_draw .nil pass0 (pa_cons (pv 1) (pa_cons (pe_callB call_len_seq (by rfl) T.n_len (by decide +kernel) (pa_cons (pv 5) pa_nil)) pa_nil))) (fun _ _ => rfl)) pa_nil))))) (pss_cons (ps_for PassesOwn.never rfl (pi_list (pv 5)) (pg_name (i := 7) sc_law.nd rfl (Or.inl rfl)) (pss_cons (ps_set (i := 8) sc_law.nd rfl (Or.inl rfl) (pe_call G__law_instruction (by exact hr.mono (by decide)) (by rfl) T.g__law_instruction T.F__law_instruction.kp T.b__law_instruction .nil pass0 (pa_cons (pv 1) (pa_cons (pv 7) (pa_cons (pe_ix ix_tup (pe_dget (by exact hu) (pv 3) (pv 7) (fun _ _ => rfl)) pe_int (fun _ _ => rfl)) pa_nil))))) (pss_cons (ps_set (i := 9) sc_law.nd rfl (Or.inl rfl) (pe_call G__law_draw (by exact hr.mono (by decide)) (by rfl) T.g__law_draw T.F__law_draw.kp T.b__law_draw .nil pass0 (pa_cons (pv 1) (pa_cons pe_int pa_nil)))) (Evl.pss_cut (ps_if (pt_cmpR op_eq (pe_call G__law_draw (by exact hr.mono (by decide)) (by rfl) T.g__law_draw T.F__law_draw.kp T.b__law_draw .nil pass0 (pa_cons (pv 1) (pa_cons pe_int pa_nil))) pe_int (nomark _)) (pss_one (ps_set (i := 9) sc_law.nd rfl (Or.inl rfl) (pe_call G__law_draw (by exact hr.mono (by decide)) (by rfl) T.g__law_draw T.F__law_draw.kp T.b__law_draw .nil pass0 (pa_cons (pv 1) (pa_cons (pe_op op_pow pe_int pe_int) pa_nil))))) pss_nil) (pss_cons (ps_set (i := 10) sc_law.nd rfl (Or.inl rfl) (pe_call G__law_due (by exact hr.mono (by decide)) (by rfl) T.g__law_due T.F__law_due.kp T.b__law_due .nil pass0 (pa_cons (pv 3) (pa_cons (pv 8) (pa_cons (pv 9) pa_nil))))) (pss_cons (ps_if (pt_not (pt_val (pe_call G__law_same (by exact hr.mono (by decide)) (by rfl) T.g__law_same T.F__law_same.kp T.b__law_same .nil pass0 (pa_cons (pe_meth (pv 4) T.cl_CodeSet T.m_CodeSet_followers G_CodeSet_followers (by exact hr.mono (by decide)) T.b_CodeSet_followers .nil pass0 (pa_cons (pv 8) (pa_cons (pv 9) pa_nil))) (pa_cons (pv 10) pa_nil))))) (pss_one (ps_ret pe_bl)) pss_nil) (pss_cons (ps_if (pt_not (pt_val (pe_call G__law_same (by exact hr.mono (by decide)) (by rfl) T.g__law_same T.F__law_same.kp T.b__law_same .nil pass0 (pa_cons (Vc.pe_methK0 (pv 4) T.cl_CodeSet T.m_CodeSet_followers G_CodeSet_followers (by exact hr.mono (by decide)) (kb_CodeSet_followers_1_place_instruction T.F_CodeSet_followers) pass0 (pk_cons (pv 9) (pk_cons (pv 8) pk_nil))) (pa_cons (pv 10) pa_nil))))) (pss_one (ps_ret pe_bl)) pss_nil) (pss_cons (ps_set (i := 11) sc_law.nd rfl (Or.inl rfl) (pe_call G__law_due (by exact hr.mono (by decide)) (by rfl) T.g__law_due T.F__law_due.kp T.b__law_due .nil pass0 (pa_cons (pv 3) (pa_cons (pv 8) (pa_cons (pe_op op_sub (pe_un un_neg pe_int) (pv 9)) pa_nil))))) (pss_one (ps_if (pt_not (pt_val (pe_call G__law_same (by exact hr.mono (by decide)) (by rfl) T.g__law_same T.F__law_same.kp T.b__law_same .nil pass0 (pa_cons (pe_meth (pv 4) T.cl_CodeSet T.m_CodeSet_followers G_CodeSet_followers (by exact hr.mono (by decide)) T.b_CodeSet_followers .nil pass0 (pa_cons (pv 8) (pa_cons (pe_op op_sub (pe_un un_neg pe_int) (pv 9)) pa_nil))) (pa_cons (pv 11) pa_nil))))) (pss_one (ps_ret pe_bl)) pss_nil)))))))))) (pss_one (ps_ret pe_bl))))))))), ?_⟩
    walk_at "go"
    refine ⟨a, ns, rfl, hS, hl, fun b c H1 e1 hB1 nb nc => ?_⟩
    walk_at "go"
    refine ⟨b, c, 256, rfl, hB1, by omega, by omega, fun stop H2 s0 s1 e2 hB2 => ?_⟩
    walk_at "go"
    refine ⟨b, c, stop, rfl, hB2, s0, by omega, fun f its H3 e3 hB3 nf T3 Va => ?_⟩
    have nfb : f ≠ b := by
      obtain ⟨_, _, _, _, B⟩ := hB2
      exact (ne_of_none B.ob nf).symm
    walk_at "go"
    refine ⟨f, stop, its, rfl, T3, Va, fun cs t items H4 e4 nt CA hit => ?_⟩
    have ntb : t ≠ b := by
      obtain ⟨_, _, _, _, B⟩ := hB3
      exact (ne_of_none B.ob nt).symm
    have W4 : Wd A H4 b c f cs t its items := ⟨hB3.ed0 e4, T3.ed0 e4, CA⟩
    have hd4 := W4.tup.ob
    walk_at "go"
    intro L nL
    generalize hu5 : upd _ L _ = H5
    obtain ⟨e5, hL⟩ := Vc.alloc hu5 nL
    have W5 := W4.ed0 e5
    have ncL : c ≠ L := (W4.bag.fb nL).2
    have nLb : L ≠ b := (W4.bag.fb nL).1.symm
    have eq : (kvsOf its).map (fun kv => kV kv.1) = ((its.map (·.1)).map (·.byte)).map V.int := by
      unfold kvsOf
      simp only [List.map_map, Function.comp_def, kV]
    rw [eq] at hL
    have v1 := Va.n1
    have v16 := Va.n16
    walk_at "go"
    refine ⟨by omega, by omega, for_range (lo := 0) (fun i σ H' => ∃ y, ∃ ns' : List Int, σ = [some (.ref a), some (.ref b), some (.int stop), some (.ref f), some (.ref cs), some (.ref L), y, none, none, none, none, none] ∧ Wd A H' b c f cs t its items ∧ H' L = some (.lst (ns'.map V.int)) ∧ 1 ≤ ns'.length ∧ ns'.length ≤ 16 + i ∧ ∀ n ∈ ns', ∃ p ∈ its, p.1.byte = n) ⟨none, _, rfl, W5, hL, by rw [List.length_map]; exact v1, by rw [List.length_map]; exact v16, fun n hn => ?_⟩ ?_ ?_⟩
    · obtain ⟨fd, hf, rfl⟩ := List.mem_map.mp hn
      obtain ⟨p, hp, rfl⟩ := List.mem_map.mp hf
      exact ⟨p, hp, rfl⟩
    · rintro i σ H6 hi ⟨y, ns', rfl, W6, hL6, n1, n2, hn⟩
      have hi : i < 6 := hi
      walk_at "go"
      refine ⟨b, c, _, rfl, W6.bag, by rw [List.length_map]; omega, by rw [List.length_map]; omega, fun j H7 j0 j1 e7 hB7 => ?_⟩
      have W7 := W6.draw e7 hB7 nfb ntb
      have hL7 := e7.at1 nLb hL6
      rw [List.length_map] at j1
      obtain ⟨n, hm, hj⟩ := at_ints (ns := ns') j0 j1
      have l7 : (List.map V.int ns').length ≤ 1000 := by rw [List.length_map]; omega
      walk_at "go"
      generalize hu8 : upd _ L _ = H8
      obtain ⟨e8, hL8⟩ := Vc.chg hu8 hL7
      refine ⟨_, ns' ++ [n], rfl, W7.lst e8 hL7 ncL, by rw [List.map_append]; exact hL8, by rw [List.length_append]; omega, by rw [List.length_append, List.length_singleton]; omega, fun x hx => ?_⟩
      rcases List.mem_append.mp hx with hx | hx
      · exact hn x hx
      · rw [List.mem_singleton.mp hx]; exact hn n hm
    · rintro σ H6 ⟨y, ns', rfl, W6, hL6, n1, n2, hn⟩
      walk_at "go"
      refine ⟨L, rfl, ⟨_, .of hL6⟩, for_list (xs := ns'.map V.int) (fun i σ H' => ∃ y7 y8 y9 y10 y11, σ = [some (.ref a), some (.ref b), some (.int stop), some (.ref f), some (.ref cs), some (.ref L), y, y7, y8, y9, y10, y11] ∧ Wd A H' b c f cs t its items ∧ H' L = some (.lst (ns'.map V.int))) ⟨_, _, _, _, _, rfl, W6, hL6⟩ ?_ ?_ ?_⟩
      · rintro i σ H' _ ⟨_, _, _, _, _, _, _, h⟩
        exact .of h
      · rintro i x σ H7 hi ⟨y7, y8, y9, y10, y11, rfl, W7, hL7⟩
        rw [List.getElem?_map] at hi
        cases hx : ns'[i]? with
        | none => rw [hx] at hi; cases hi
        | some n =>
        rw [hx] at hi
        cases hi
        obtain ⟨p, hp, rfl⟩ := hn n (List.mem_of_getElem? hx)
        have hv := kvsOf_val Va.ndb hp
        have ok := Va.ok p.1 (List.mem_map.mpr ⟨p, hp, rfl⟩)
        have hd7 := W7.tup.ob
        have ht7 := W7.tup.tp p hp
        have a1 : atI [V.str p.1.name, .int p.1.len, .str p.1.flow] 1 = some (.int p.1.len) := rfl
        walk_at "go"
        refine ⟨b, c, p.1.byte, p.1.len, rfl, W7.bag, ok.l1, ok.l4, fun g bs last H8 e8 hB8 hg8 I => ?_⟩
        have W8 := W7.draw e8 hB8 nfb ntb
        have hL8 := e8.at1 nLb hL7
        walk_at "go"
        refine ⟨b, c, 24, rfl, hB8, by omega, by omega, fun spot H9 p0 p1 e9 hB9 => ?_⟩
        have W9 := W8.draw e9 hB9 nfb ntb
        have hL9 := e9.at1 nLb hL8
        have hg9 := e9.tup _ _ hg8
        refine Evl.q_cut (M := fun σ H' => ∃ spot : Int, σ = [some (.ref a), some (.ref b), some (.int stop), some (.ref f), some (.ref cs), some (.ref L), y, some (.int p.1.byte), some (.ref g), some (.int spot), y10, y11] ∧ Wd A H' b c f cs t its items ∧ H' L = some (.lst (ns'.map V.int)) ∧ H' g = some (.tup (bs.map V.int))) ?_ ?_
        · walk_at "go"
          refine ⟨b, c, 4, rfl, hB9, by omega, by omega, fun v H10 v0 v1 e10 hB10 => ?_⟩
          have W10 := W9.draw e10 hB10 nfb ntb
          have hL10 := e10.at1 nLb hL9
          have hg10 := e10.tup _ _ hg9
          walk_at "go"
          refine Vc.go_ite (fun h1 => ?_) (fun h1 => ?_)
          · walk_at "go"
            refine ⟨b, c, _, rfl, hB10, by decide, by decide, fun v2 H11 v0 v1 e11 hB11 => ?_⟩
            walk_at "go"
            exact ⟨_, rfl, W10.draw e11 hB11 nfb ntb, e11.at1 nLb hL10, e11.tup _ _ hg10⟩
          · walk_at "go"
            exact ⟨_, rfl, W10, hL10, hg10⟩
        · rintro σ H10 ⟨spot, rfl, W10, hL10, hg10⟩
          obtain ⟨pi, hpi, epi⟩ : ∃ pi ∈ items, pi.1 = p.1 := by
            have : p.1 ∈ items.map (·.1) := hit ▸ List.mem_map.mpr ⟨p, hp, rfl⟩
            obtain ⟨pi, hpi, e⟩ := List.mem_map.mp this
            exact ⟨pi, hpi, e⟩
          have Ipi : Instr bs pi.1.byte last := by rw [epi]; exact I
          have fpi : Flow pi.1.flow := by rw [epi]; exact ok.fl
          have fmet : ∀ st o t', (codesF st o t').lookup ("followers" : Str) = none := fun _ _ _ => rfl
          walk_at "go"
          refine ⟨f, g, spot, its, p, bs, last, rfl, W10.tup, Va.ndb, hp, ok.fl, .inl (.inl hg10), I, fun q1 H11 e11 hq1 => ?_⟩
          have W11 := W10.ed0 e11
          have hg11 := e11.at0 hg10
          obtain ⟨dx, st, o, hcs⟩ := W11.cod.ob
          have lk := fmet st o t
          walk_at "go"
          refine ⟨cs, t, g, spot, items, pi, bs, last, rfl, W11.cod, hpi, fpi, .inl (.inl hg11), Ipi, fun q2 H12 e12 hq2 => ?_⟩
          rw [epi] at hq2
          have hq1b := e12.at0 hq1
          walk_at "go"
          refine ⟨_, _, _, rfl, sh_ints _ foll_len, .tup (.inl (.inl hq2)) (dp_ints _), .tup (.inl (.inl hq1b)) (dp_ints _), fun H13 e13 => ?_⟩
          have W13 := (W11.ed0 e12).ed0 e13
          have hg13 := e13.at0 (e12.at0 hg11)
          have hcs13 := e13.at0 (e12.at0 hcs)
          walk_at "go"
          refine ⟨cs, t, g, spot, items, pi, bs, last, rfl, W13.cod, hpi, fpi, .inl (.inl hg13), Ipi, fun q3 H14 e14 hq3 => ?_⟩
          rw [epi] at hq3
          have hq1c := e14.at0 (e13.at0 hq1b)
          walk_at "go"
          refine ⟨_, _, _, rfl, sh_ints _ foll_len, .tup (.inl (.inl hq3)) (dp_ints _), .tup (.inl (.inl hq1c)) (dp_ints _), fun H15 e15 => ?_⟩
          have W15 := (W13.ed0 e14).ed0 e15
          have hg15 := e15.at0 (e14.at0 hg13)
          have hcs15 := e15.at0 (e14.at0 hcs13)
          walk_at "go"
          refine ⟨f, g, _, its, p, bs, last, rfl, W15.tup, Va.ndb, hp, ok.fl, .inl (.inl hg15), I, fun q4 H16 e16 hq4 => ?_⟩
          have W16 := W15.ed0 e16
          have hg16 := e16.at0 hg15
          have hcs16 := e16.at0 hcs15
          walk_at "go"
          refine ⟨cs, t, g, _, items, pi, bs, last, rfl, W16.cod, hpi, fpi, .inl (.inl hg16), Ipi, fun q5 H17 e17 hq5 => ?_⟩
          rw [epi] at hq5
          have hq4b := e17.at0 hq4
          walk_at "go"
          refine ⟨_, _, _, rfl, sh_ints _ foll_len, .tup (.inl (.inl hq5)) (dp_ints _), .tup (.inl (.inl hq4b)) (dp_ints _), fun H18 e18 => ?_⟩
          have W18 := (W16.ed0 e17).ed0 e18
          have hL11 := e11.at0 hL10
          have hL18 : H18 L = some (.lst (ns'.map V.int)) := e18.at0 (e17.at0 (e16.at0 (e15.at0 (e14.at0 (e13.at0 (e12.at0 hL11))))))
          walk_at "go"
          exact ⟨_, _, _, _, _, rfl, W18, hL18⟩
      · rintro σ H7 ⟨y7, y8, y9, y10, y11, rfl, W7, hL7⟩
        walk_at "go"
        exact k H7
end

end My
namespace My
open PySem PySem.Spec PyProof.Rows L2
theorem all_mk {l : PySem.W.OpenLaw} {w : World} {K : PySem.W.Frag} {h : Heap} {mg : Str → Option Value} {fa : Addr} (X : K.In h) (G : h.Ns mainGlobals mg) (hfa : mg "law" = some (.ref fa))
    {C_Form : Addr}
    {C_CodeSet : Addr}
    {f_is_byte : Addr} {oc1 kV1 dc1 pm1 cd1 ct1 : Value} {od1 an1 : Option Addr} {sl1 : Array (Option Value)}
    {f_is_name : Addr} {oc2 kV2 dc2 pm2 cd2 ct2 : Value} {od2 an2 : Option Addr} {sl2 : Array (Option Value)}
    {f_Formu_initu : Addr} {oc3 kV3 dc3 pm3 cd3 ct3 : Value} {od3 an3 : Option Addr} {sl3 : Array (Option Value)}
    {f_check_forms : Addr} {oc4 kV4 dc4 pm4 cd4 ct4 : Value} {od4 an4 : Option Addr} {sl4 : Array (Option Value)}
    {f_CodeSetu_initu : Addr} {oc5 kV5 dc5 pm5 cd5 ct5 : Value} {od5 an5 : Option Addr} {sl5 : Array (Option Value)}
    {f_CodeSet_followers : Addr} {oc6 kV6 dc6 pm6 cd6 ct6 : Value} {od6 an6 : Option Addr} {sl6 : Array (Option Value)}
    {f__law_bag : Addr} {oc7 kV7 dc7 pm7 cd7 ct7 : Value} {od7 an7 : Option Addr} {sl7 : Array (Option Value)}
    {f__law_draw : Addr} {oc8 kV8 dc8 pm8 cd8 ct8 : Value} {od8 an8 : Option Addr} {sl8 : Array (Option Value)}
    {f__law_same : Addr} {oc9 kV9 dc9 pm9 cd9 ct9 : Value} {od9 an9 : Option Addr} {sl9 : Array (Option Value)}
    {f__law_due : Addr} {oc10 kV10 dc10 pm10 cd10 ct10 : Value} {od10 an10 : Option Addr} {sl10 : Array (Option Value)}
    {f__law_instruction : Addr} {oc11 kV11 dc11 pm11 cd11 ct11 : Value} {od11 an11 : Option Addr} {sl11 : Array (Option Value)}
    {f__law_forms : Addr} {oc12 kV12 dc12 pm12 cd12 ct12 : Value} {od12 an12 : Option Addr} {sl12 : Array (Option Value)}
    {f__law_codes : Addr} {oc13 kV13 dc13 pm13 cd13 ct13 : Value} {od13 an13 : Option Addr} {sl13 : Array (Option Value)}
    {f_law : Addr} {oc14 kV14 dc14 pm14 cd14 ct14 : Value} {od14 an14 : Option Addr} {sl14 : Array (Option Value)}
    {t_LETTERS : Tok}
    {a_FLOWS : Addr} {odF : Option Addr} {tF1 tF2 tF3 tF4 : Tok} {nF : Nat} {slF : Array (Option Value)}
    {tM : Tok}
    (aC_Form : PySem.W.nsIn K mainGlobals "Form" = some (some (.ref C_Form)))
    (aC_CodeSet : PySem.W.nsIn K mainGlobals "CodeSet" = some (some (.ref C_CodeSet)))
    (a_is_byte : PySem.W.nsIn K mainGlobals "is_byte" = some (some (.ref f_is_byte)))
    (l_is_byte : K.lookup f_is_byte = some ⟨oc1, od1, .func (PySem.W.fnOf "is_byte" "is_byte" (defArgs s_is_byte) (defBody s_is_byte) (defScope s_is_byte) .none kV1 dc1 pm1 an1 cd1 ct1), sl1⟩)
    (c_is_byte : PySem.W.codeIn K cd1 "is_byte" = true)
    (k_is_byte : PySem.W.keepIn K (.ref f_is_byte) = true)
    (a_is_name : PySem.W.nsIn K mainGlobals "is_name" = some (some (.ref f_is_name)))
    (l_is_name : K.lookup f_is_name = some ⟨oc2, od2, .func (PySem.W.fnOf "is_name" "is_name" (defArgs s_is_name) (defBody s_is_name) (defScope s_is_name) .none kV2 dc2 pm2 an2 cd2 ct2), sl2⟩)
    (c_is_name : PySem.W.codeIn K cd2 "is_name" = true)
    (k_is_name : PySem.W.keepIn K (.ref f_is_name) = true)
    (a_Formu_initu : PySem.W.findIn K (.ref C_Form) "__init__" = some (some (.ref f_Formu_initu)))
    (i_Formu_initu : PySem.W.isFn K (.ref f_Formu_initu) = true)
    (l_Formu_initu : K.lookup f_Formu_initu = some ⟨oc3, od3, .func (PySem.W.fnOf "__init__" "Form.__init__" (defArgs s_Formu_initu) (defBody s_Formu_initu) (defScope s_Formu_initu) .none kV3 dc3 pm3 an3 cd3 ct3), sl3⟩)
    (c_Formu_initu : PySem.W.codeIn K cd3 "Form.__init__" = true)
    (k_Formu_initu : PySem.W.keepIn K (.ref f_Formu_initu) = true)
    (a_check_forms : PySem.W.nsIn K mainGlobals "check_forms" = some (some (.ref f_check_forms)))
    (l_check_forms : K.lookup f_check_forms = some ⟨oc4, od4, .func (PySem.W.fnOf "check_forms" "check_forms" (defArgs s_check_forms) (defBody s_check_forms) (defScope s_check_forms) .none kV4 dc4 pm4 an4 cd4 ct4), sl4⟩)
    (c_check_forms : PySem.W.codeIn K cd4 "check_forms" = true)
    (k_check_forms : PySem.W.keepIn K (.ref f_check_forms) = true)
    (a_CodeSetu_initu : PySem.W.findIn K (.ref C_CodeSet) "__init__" = some (some (.ref f_CodeSetu_initu)))
    (i_CodeSetu_initu : PySem.W.isFn K (.ref f_CodeSetu_initu) = true)
    (l_CodeSetu_initu : K.lookup f_CodeSetu_initu = some ⟨oc5, od5, .func (PySem.W.fnOf "__init__" "CodeSet.__init__" (defArgs s_CodeSetu_initu) (defBody s_CodeSetu_initu) (defScope s_CodeSetu_initu) .none kV5 dc5 pm5 an5 cd5 ct5), sl5⟩)
    (c_CodeSetu_initu : PySem.W.codeIn K cd5 "CodeSet.__init__" = true)
    (k_CodeSetu_initu : PySem.W.keepIn K (.ref f_CodeSetu_initu) = true)
    (a_CodeSet_followers : PySem.W.findIn K (.ref C_CodeSet) "followers" = some (some (.ref f_CodeSet_followers)))
    (i_CodeSet_followers : PySem.W.isFn K (.ref f_CodeSet_followers) = true)
    (l_CodeSet_followers : K.lookup f_CodeSet_followers = some ⟨oc6, od6, .func (PySem.W.fnOf "followers" "CodeSet.followers" (defArgs s_CodeSet_followers) (defBody s_CodeSet_followers) (defScope s_CodeSet_followers) .none kV6 dc6 pm6 an6 cd6 ct6), sl6⟩)
    (c_CodeSet_followers : PySem.W.codeIn K cd6 "CodeSet.followers" = true)
    (k_CodeSet_followers : PySem.W.keepIn K (.ref f_CodeSet_followers) = true)
    (a__law_bag : PySem.W.nsIn K mainGlobals "_law_bag" = some (some (.ref f__law_bag)))
    (l__law_bag : K.lookup f__law_bag = some ⟨oc7, od7, .func (PySem.W.fnOf "_law_bag" "_law_bag" (defArgs s__law_bag) (defBody s__law_bag) (defScope s__law_bag) .none kV7 dc7 pm7 an7 cd7 ct7), sl7⟩)
    (c__law_bag : PySem.W.codeIn K cd7 "_law_bag" = true)
    (k__law_bag : PySem.W.keepIn K (.ref f__law_bag) = true)
    (a__law_draw : PySem.W.nsIn K mainGlobals "_law_draw" = some (some (.ref f__law_draw)))
    (l__law_draw : K.lookup f__law_draw = some ⟨oc8, od8, .func (PySem.W.fnOf "_law_draw" "_law_draw" (defArgs s__law_draw) (defBody s__law_draw) (defScope s__law_draw) .none kV8 dc8 pm8 an8 cd8 ct8), sl8⟩)
    (c__law_draw : PySem.W.codeIn K cd8 "_law_draw" = true)
    (k__law_draw : PySem.W.keepIn K (.ref f__law_draw) = true)
    (a__law_same : PySem.W.nsIn K mainGlobals "_law_same" = some (some (.ref f__law_same)))
    (l__law_same : K.lookup f__law_same = some ⟨oc9, od9, .func (PySem.W.fnOf "_law_same" "_law_same" (defArgs s__law_same) (defBody s__law_same) (defScope s__law_same) .none kV9 dc9 pm9 an9 cd9 ct9), sl9⟩)
    (c__law_same : PySem.W.codeIn K cd9 "_law_same" = true)
    (k__law_same : PySem.W.keepIn K (.ref f__law_same) = true)
    (a__law_due : PySem.W.nsIn K mainGlobals "_law_due" = some (some (.ref f__law_due)))
    (l__law_due : K.lookup f__law_due = some ⟨oc10, od10, .func (PySem.W.fnOf "_law_due" "_law_due" (defArgs s__law_due) (defBody s__law_due) (defScope s__law_due) .none kV10 dc10 pm10 an10 cd10 ct10), sl10⟩)
    (c__law_due : PySem.W.codeIn K cd10 "_law_due" = true)
    (k__law_due : PySem.W.keepIn K (.ref f__law_due) = true)
    (a__law_instruction : PySem.W.nsIn K mainGlobals "_law_instruction" = some (some (.ref f__law_instruction)))
    (l__law_instruction : K.lookup f__law_instruction = some ⟨oc11, od11, .func (PySem.W.fnOf "_law_instruction" "_law_instruction" (defArgs s__law_instruction) (defBody s__law_instruction) (defScope s__law_instruction) .none kV11 dc11 pm11 an11 cd11 ct11), sl11⟩)
    (c__law_instruction : PySem.W.codeIn K cd11 "_law_instruction" = true)
    (k__law_instruction : PySem.W.keepIn K (.ref f__law_instruction) = true)
    (a__law_forms : PySem.W.nsIn K mainGlobals "_law_forms" = some (some (.ref f__law_forms)))
    (l__law_forms : K.lookup f__law_forms = some ⟨oc12, od12, .func (PySem.W.fnOf "_law_forms" "_law_forms" (defArgs s__law_forms) (defBody s__law_forms) (defScope s__law_forms) .none kV12 dc12 pm12 an12 cd12 ct12), sl12⟩)
    (c__law_forms : PySem.W.codeIn K cd12 "_law_forms" = true)
    (k__law_forms : PySem.W.keepIn K (.ref f__law_forms) = true)
    (a__law_codes : PySem.W.nsIn K mainGlobals "_law_codes" = some (some (.ref f__law_codes)))
    (l__law_codes : K.lookup f__law_codes = some ⟨oc13, od13, .func (PySem.W.fnOf "_law_codes" "_law_codes" (defArgs s__law_codes) (defBody s__law_codes) (defScope s__law_codes) .none kV13 dc13 pm13 an13 cd13 ct13), sl13⟩)
    (c__law_codes : PySem.W.codeIn K cd13 "_law_codes" = true)
    (k__law_codes : PySem.W.keepIn K (.ref f__law_codes) = true)
    (a_law : PySem.W.nsIn K mainGlobals "law" = some (some (.ref f_law)))
    (l_law : K.lookup f_law = some ⟨oc14, od14, .func (PySem.W.fnOf "law" "law" (defArgs s_law) (defBody s_law) (defScope s_law) .none kV14 dc14 pm14 an14 cd14 ct14), sl14⟩)
    (c_law : PySem.W.codeIn K cd14 "law" = true)
    (k_law : PySem.W.keepIn K (.ref f_law) = true)
    (pg_Form : PySem.W.plainGet K C_Form Str.empty = true)
    (hd_Form : PySem.W.hasDictIn K C_Form = true)
    (po_Form : PySem.W.plainOver K C_Form = true)
    (sa_Form : PySem.W.findIn K (.ref C_Form) "__setattr__" = some (some (.builtin "object.__setattr__")))
    (mk_Form : PySem.W.makesIn K C_Form = true)
    (kc_Form : PySem.W.keepIn K (.ref C_Form) = true)
    (no_Form_name : PySem.W.findIn K (.ref C_Form) "name" = some none)
    (no_Form_length : PySem.W.findIn K (.ref C_Form) "length" = some none)
    (no_Form_flow : PySem.W.findIn K (.ref C_Form) "flow" = some none)
    (pg_CodeSet : PySem.W.plainGet K C_CodeSet Str.empty = true)
    (hd_CodeSet : PySem.W.hasDictIn K C_CodeSet = true)
    (po_CodeSet : PySem.W.plainOver K C_CodeSet = true)
    (sa_CodeSet : PySem.W.findIn K (.ref C_CodeSet) "__setattr__" = some (some (.builtin "object.__setattr__")))
    (mk_CodeSet : PySem.W.makesIn K C_CodeSet = true)
    (kc_CodeSet : PySem.W.keepIn K (.ref C_CodeSet) = true)
    (no_CodeSet_stop : PySem.W.findIn K (.ref C_CodeSet) "stop" = some none)
    (no_CodeSet_order : PySem.W.findIn K (.ref C_CodeSet) "order" = some none)
    (no_CodeSet_table : PySem.W.findIn K (.ref C_CodeSet) "table" = some none)
    (z_len : PySem.W.nsIn K mainGlobals "len" = some none)
    (z_abs : PySem.W.nsIn K mainGlobals "abs" = some none)
    (z_int : PySem.W.nsIn K mainGlobals "int" = some none)
    (z_list : PySem.W.nsIn K mainGlobals "list" = some none)
    (z_range : PySem.W.nsIn K mainGlobals "range" = some none)
    (z_isinstance : PySem.W.nsIn K mainGlobals "isinstance" = some none)
    (z_bool : PySem.W.nsIn K mainGlobals "bool" = some none)
    (z_str : PySem.W.nsIn K mainGlobals "str" = some none)
    (z_tuple : PySem.W.nsIn K mainGlobals "tuple" = some none)
    (z_all : PySem.W.nsIn K mainGlobals "all" = some none)
    (z_set : PySem.W.nsIn K mainGlobals "set" = some none)
    (z_sorted : PySem.W.nsIn K mainGlobals "sorted" = some none)
    (v_LETTERS : PySem.W.nsIn K mainGlobals "LETTERS" = some (some (.str "abcdefghijklmnopqrstuvwxyz" t_LETTERS)))
    (rd_Form : PySem.W.readsIn K C_Form (.type "type") = true)
    (gat_Form : PySem.W.specialIn K (.ref C_Form) "__getattribute__" = some (some (.builtin "type.__getattribute__")))
    (rd_CodeSet : PySem.W.readsIn K C_CodeSet (.type "type") = true)
    (gat_CodeSet : PySem.W.specialIn K (.ref C_CodeSet) "__getattribute__" = some (some (.builtin "type.__getattribute__")))
    (cvF : PySem.W.findCls K (.ref C_Form) (.type "type") "FLOWS" = some (.val (.ref a_FLOWS)))
    (lkF : K.lookup a_FLOWS = some ⟨.type "tuple", odF, .seq #[.str "next" tF1, .str "jump" tF2, .str "test" tF3, .str "end" tF4] nF, slF⟩)
    (cvM : PySem.W.findCls K (.ref C_CodeSet) (.type "type") "MOST_FORMS" = some (.val (.int 16 tM))) :
    ∃ fd : FuncData, (∀ (s : Shared) (v : Value), BindsTo s fd ⟨[v], []⟩ [("_law_script", v)]) ∧ ∀ base : Heap, K.In base → base.Ns mainGlobals mg → FnOk l.prog w K mg base CX0 6 fa fd ["_law_script"] (spLaw K) := by
  have e := hfa.symm.trans (PySem.W.mg_of X G a_law)
  cases e
  have F_is_byte := fun_mk (st := s_is_byte) l_is_byte c_is_byte k_is_byte
  have F_is_name := fun_mk (st := s_is_name) l_is_name c_is_name k_is_name
  have F_Formu_initu := fun_mk (st := s_Formu_initu) l_Formu_initu c_Formu_initu k_Formu_initu
  have F_check_forms := fun_mk (st := s_check_forms) l_check_forms c_check_forms k_check_forms
  have F_CodeSetu_initu := fun_mk (st := s_CodeSetu_initu) l_CodeSetu_initu c_CodeSetu_initu k_CodeSetu_initu
  have F_CodeSet_followers := fun_mk (st := s_CodeSet_followers) l_CodeSet_followers c_CodeSet_followers k_CodeSet_followers
  have F__law_bag := fun_mk (st := s__law_bag) l__law_bag c__law_bag k__law_bag
  have F__law_draw := fun_mk (st := s__law_draw) l__law_draw c__law_draw k__law_draw
  have F__law_same := fun_mk (st := s__law_same) l__law_same c__law_same k__law_same
  have F__law_due := fun_mk (st := s__law_due) l__law_due c__law_due k__law_due
  have F__law_instruction := fun_mk (st := s__law_instruction) l__law_instruction c__law_instruction k__law_instruction
  have F__law_forms := fun_mk (st := s__law_forms) l__law_forms c__law_forms k__law_forms
  have F__law_codes := fun_mk (st := s__law_codes) l__law_codes c__law_codes k__law_codes
  have F_law := fun_mk (st := s_law) l_law c_law k_law
  have T : Txt K mg { C_Form := C_Form, C_CodeSet := C_CodeSet, f_is_byte := f_is_byte, d_is_byte := PySem.W.fnOf "is_byte" "is_byte" (defArgs s_is_byte) (defBody s_is_byte) (defScope s_is_byte) .none kV1 dc1 pm1 an1 cd1 ct1, f_is_name := f_is_name, d_is_name := PySem.W.fnOf "is_name" "is_name" (defArgs s_is_name) (defBody s_is_name) (defScope s_is_name) .none kV2 dc2 pm2 an2 cd2 ct2, f_Formu_initu := f_Formu_initu, d_Formu_initu := PySem.W.fnOf "__init__" "Form.__init__" (defArgs s_Formu_initu) (defBody s_Formu_initu) (defScope s_Formu_initu) .none kV3 dc3 pm3 an3 cd3 ct3, f_check_forms := f_check_forms, d_check_forms := PySem.W.fnOf "check_forms" "check_forms" (defArgs s_check_forms) (defBody s_check_forms) (defScope s_check_forms) .none kV4 dc4 pm4 an4 cd4 ct4, f_CodeSetu_initu := f_CodeSetu_initu, d_CodeSetu_initu := PySem.W.fnOf "__init__" "CodeSet.__init__" (defArgs s_CodeSetu_initu) (defBody s_CodeSetu_initu) (defScope s_CodeSetu_initu) .none kV5 dc5 pm5 an5 cd5 ct5, f_CodeSet_followers := f_CodeSet_followers, d_CodeSet_followers := PySem.W.fnOf "followers" "CodeSet.followers" (defArgs s_CodeSet_followers) (defBody s_CodeSet_followers) (defScope s_CodeSet_followers) .none kV6 dc6 pm6 an6 cd6 ct6, f__law_bag := f__law_bag, d__law_bag := PySem.W.fnOf "_law_bag" "_law_bag" (defArgs s__law_bag) (defBody s__law_bag) (defScope s__law_bag) .none kV7 dc7 pm7 an7 cd7 ct7, f__law_draw := f__law_draw, d__law_draw := PySem.W.fnOf "_law_draw" "_law_draw" (defArgs s__law_draw) (defBody s__law_draw) (defScope s__law_draw) .none kV8 dc8 pm8 an8 cd8 ct8, f__law_same := f__law_same, d__law_same := PySem.W.fnOf "_law_same" "_law_same" (defArgs s__law_same) (defBody s__law_same) (defScope s__law_same) .none kV9 dc9 pm9 an9 cd9 ct9, f__law_due := f__law_due, d__law_due := PySem.W.fnOf "_law_due" "_law_due" (defArgs s__law_due) (defBody s__law_due) (defScope s__law_due) .none kV10 dc10 pm10 an10 cd10 ct10, f__law_instruction := f__law_instruction, d__law_instruction := PySem.W.fnOf "_law_instruction" "_law_instruction" (defArgs s__law_instruction) (defBody s__law_instruction) (defScope s__law_instruction) .none kV11 dc11 pm11 an11 cd11 ct11, f__law_forms := f__law_forms, d__law_forms := PySem.W.fnOf "_law_forms" "_law_forms" (defArgs s__law_forms) (defBody s__law_forms) (defScope s__law_forms) .none kV12 dc12 pm12 an12 cd12 ct12, f__law_codes := f__law_codes, d__law_codes := PySem.W.fnOf "_law_codes" "_law_codes" (defArgs s__law_codes) (defBody s__law_codes) (defScope s__law_codes) .none kV13 dc13 pm13 an13 cd13 ct13, f_law := fa, d_law := PySem.W.fnOf "law" "law" (defArgs s_law) (defBody s_law) (defScope s_law) .none kV14 dc14 pm14 an14 cd14 ct14, a_FLOWS := a_FLOWS } := {
    g_Form := (PySem.W.mg_of X G aC_Form),
    g_CodeSet := (PySem.W.mg_of X G aC_CodeSet),
    g_is_byte := (PySem.W.mg_of X G a_is_byte),
    F_is_byte := (F_is_byte),
    b_is_byte := (F_is_byte.binds (ps := ["value"]) fun _ _ _ _ _ _ us hl => match us, hl with | [_], _ => rfl),
    g_is_name := (PySem.W.mg_of X G a_is_name),
    F_is_name := (F_is_name),
    b_is_name := (F_is_name.binds (ps := ["value"]) fun _ _ _ _ _ _ us hl => match us, hl with | [_], _ => rfl),
    F_Formu_initu := (F_Formu_initu),
    b_Formu_initu := (F_Formu_initu.binds (ps := ["self", "name", "length", "flow"]) fun _ _ _ _ _ _ us hl => match us, hl with | [_, _, _, _], _ => rfl),
    g_check_forms := (PySem.W.mg_of X G a_check_forms),
    F_check_forms := (F_check_forms),
    b_check_forms := (F_check_forms.binds (ps := ["stop", "forms"]) fun _ _ _ _ _ _ us hl => match us, hl with | [_, _], _ => rfl),
    F_CodeSetu_initu := (F_CodeSetu_initu),
    b_CodeSetu_initu := (F_CodeSetu_initu.binds (ps := ["self", "stop", "forms"]) fun _ _ _ _ _ _ us hl => match us, hl with | [_, _, _], _ => rfl),
    F_CodeSet_followers := (F_CodeSet_followers),
    b_CodeSet_followers := (F_CodeSet_followers.binds (ps := ["self", "instruction", "place"]) fun _ _ _ _ _ _ us hl => match us, hl with | [_, _, _], _ => rfl),
    g__law_bag := (PySem.W.mg_of X G a__law_bag),
    F__law_bag := (F__law_bag),
    b__law_bag := (F__law_bag.binds (ps := ["_law_script"]) fun _ _ _ _ _ _ us hl => match us, hl with | [_], _ => rfl),
    g__law_draw := (PySem.W.mg_of X G a__law_draw),
    F__law_draw := (F__law_draw),
    b__law_draw := (F__law_draw.binds (ps := ["_law_bag_here", "_law_limit"]) fun _ _ _ _ _ _ us hl => match us, hl with | [_, _], _ => rfl),
    g__law_same := (PySem.W.mg_of X G a__law_same),
    F__law_same := (F__law_same),
    b__law_same := (F__law_same.binds (ps := ["_law_actual", "_law_expected"]) fun _ _ _ _ _ _ us hl => match us, hl with | [_, _], _ => rfl),
    g__law_due := (PySem.W.mg_of X G a__law_due),
    F__law_due := (F__law_due),
    b__law_due := (F__law_due.binds (ps := ["_law_forms_here", "_law_given", "_law_spot"]) fun _ _ _ _ _ _ us hl => match us, hl with | [_, _, _], _ => rfl),
    g__law_instruction := (PySem.W.mg_of X G a__law_instruction),
    F__law_instruction := (F__law_instruction),
    b__law_instruction := (F__law_instruction.binds (ps := ["_law_bag_here", "_law_byte", "_law_length"]) fun _ _ _ _ _ _ us hl => match us, hl with | [_, _, _], _ => rfl),
    g__law_forms := (PySem.W.mg_of X G a__law_forms),
    F__law_forms := (F__law_forms),
    b__law_forms := (F__law_forms.binds (ps := ["_law_bag_here", "_law_stop"]) fun _ _ _ _ _ _ us hl => match us, hl with | [_, _], _ => rfl),
    g__law_codes := (PySem.W.mg_of X G a__law_codes),
    F__law_codes := (F__law_codes),
    b__law_codes := (F__law_codes.binds (ps := ["_law_stop", "_law_forms_here"]) fun _ _ _ _ _ _ us hl => match us, hl with | [_, _], _ => rfl),
    g_law := (PySem.W.mg_of X G a_law),
    F_law := (F_law),
    b_law := (F_law.binds (ps := ["_law_script"]) fun _ _ _ _ _ _ us hl => match us, hl with | [_], _ => rfl),
    cl_Form := (⟨pg_Form, hd_Form, po_Form, sa_Form⟩),
    mk_Form := (⟨mk_Form, a_Formu_initu, i_Formu_initu, kc_Form⟩),
    no_Form_name := (no_Form_name),
    no_Form_length := (no_Form_length),
    no_Form_flow := (no_Form_flow),
    cl_CodeSet := (⟨pg_CodeSet, hd_CodeSet, po_CodeSet, sa_CodeSet⟩),
    mk_CodeSet := (⟨mk_CodeSet, a_CodeSetu_initu, i_CodeSetu_initu, kc_CodeSet⟩),
    m_CodeSet_followers := (⟨a_CodeSet_followers, i_CodeSet_followers, k_CodeSet_followers⟩),
    no_CodeSet_stop := (no_CodeSet_stop),
    no_CodeSet_order := (no_CodeSet_order),
    no_CodeSet_table := (no_CodeSet_table),
    n_len := (PySem.W.mg_none_of X G z_len),
    n_abs := (PySem.W.mg_none_of X G z_abs),
    n_int := (PySem.W.mg_none_of X G z_int),
    n_list := (PySem.W.mg_none_of X G z_list),
    n_range := (PySem.W.mg_none_of X G z_range),
    n_isinstance := (PySem.W.mg_none_of X G z_isinstance),
    n_bool := (PySem.W.mg_none_of X G z_bool),
    n_str := (PySem.W.mg_none_of X G z_str),
    n_tuple := (PySem.W.mg_none_of X G z_tuple),
    n_all := (PySem.W.mg_none_of X G z_all),
    n_set := (PySem.W.mg_none_of X G z_set),
    n_sorted := (PySem.W.mg_none_of X G z_sorted),
    g_LETTERS := (⟨_, PySem.W.mg_of X G v_LETTERS⟩),
    cr_Form := (⟨rd_Form, gat_Form⟩),
    cr_CodeSet := (⟨rd_CodeSet, gat_CodeSet⟩),
    cv_FLOWS := (⟨cvF, rfl⟩),
    q_FLOWS := (fun H => .inr ⟨_, _, _, lkF, rfl, rfl, by show 4 ≤ sizeLine; decide, .cons ⟨_, rfl⟩ (.cons ⟨_, rfl⟩ (.cons ⟨_, rfl⟩ (.cons ⟨_, rfl⟩ .nil)))⟩),
    cv_MOST := (⟨_, cvM, _, rfl⟩) }
  exact ⟨PySem.W.fnOf "law" "law" (defArgs s_law) (defBody s_law) (defScope s_law) .none kV14 dc14 pm14 an14 cd14 ct14, fun s v => .of_eq rfl, fun base _ _ => ok_law T⟩
end My
open PySem PySem.W PyProof.Rows
set_option maxRecDepth 100000 in
set_option maxHeartbeats 0 in
theorem PySem.Challenge.cw_codestitch_k01_followers_holds : PySem.Challenge.rw_codestitch_k01_followers.Holds := by
  w_on; o_law; k_head; (case hw => w_witness2)
  k_fill
  refine L2.walk_of (l := PySem.Challenge.rw_codestitch_k01_followers) (n := 63) (k := 6) (x := "_law_script") (CX := fun _ => L2.CX0) (sp := fun w => My.spLaw _) rfl (by decide) rfl ⟨rfl, by decide, by decide⟩ (fun w h Y => PySem.W.kIn_of Y) ?F (fun _ _ a ns hl _ hS => ⟨a, ns, rfl, hS, hl, fun _ => rfl⟩) (fun _ _ _ _ _ h => h)
  case F =>
    intro w mg fa h KX G hmg
    refine' My.all_mk KX G hmg ?aC_Form ?aC_CodeSet ?a_is_byte ?l_is_byte ?c_is_byte ?k_is_byte ?a_is_name ?l_is_name ?c_is_name ?k_is_name ?a_Formu_initu ?i_Formu_initu ?l_Formu_initu ?c_Formu_initu ?k_Formu_initu ?a_check_forms ?l_check_forms ?c_check_forms ?k_check_forms ?a_CodeSetu_initu ?i_CodeSetu_initu ?l_CodeSetu_initu ?c_CodeSetu_initu ?k_CodeSetu_initu ?a_CodeSet_followers ?i_CodeSet_followers ?l_CodeSet_followers ?c_CodeSet_followers ?k_CodeSet_followers ?a__law_bag ?l__law_bag ?c__law_bag ?k__law_bag ?a__law_draw ?l__law_draw ?c__law_draw ?k__law_draw ?a__law_same ?l__law_same ?c__law_same ?k__law_same ?a__law_due ?l__law_due ?c__law_due ?k__law_due ?a__law_instruction ?l__law_instruction ?c__law_instruction ?k__law_instruction ?a__law_forms ?l__law_forms ?c__law_forms ?k__law_forms ?a__law_codes ?l__law_codes ?c__law_codes ?k__law_codes ?a_law ?l_law ?c_law ?k_law ?pg_Form ?hd_Form ?po_Form ?sa_Form ?mk_Form ?kc_Form ?no_Form_name ?no_Form_length ?no_Form_flow ?pg_CodeSet ?hd_CodeSet ?po_CodeSet ?sa_CodeSet ?mk_CodeSet ?kc_CodeSet ?no_CodeSet_stop ?no_CodeSet_order ?no_CodeSet_table ?z_len ?z_abs ?z_int ?z_list ?z_range ?z_isinstance ?z_bool ?z_str ?z_tuple ?z_all ?z_set ?z_sorted ?v_LETTERS ?rd_Form ?gat_Form ?rd_CodeSet ?gat_CodeSet ?cvF ?lkF ?cvM
    (case aC_Form => k_is); (case aC_CodeSet => k_is); (case a_is_byte => k_is); (case l_is_byte => k_is); (case c_is_byte => k_is); (case k_is_byte => k_is)
    (case a_is_name => k_is); (case l_is_name => k_is); (case c_is_name => k_is); (case k_is_name => k_is); (case a_Formu_initu => k_is); (case i_Formu_initu => k_is)
    (case l_Formu_initu => k_is); (case c_Formu_initu => k_is); (case k_Formu_initu => k_is); (case a_check_forms => k_is); (case l_check_forms => k_is); (case c_check_forms => k_is)
    (case k_check_forms => k_is); (case a_CodeSetu_initu => k_is); (case i_CodeSetu_initu => k_is); (case l_CodeSetu_initu => k_is); (case c_CodeSetu_initu => k_is); (case k_CodeSetu_initu => k_is)
    (case a_CodeSet_followers => k_is); (case i_CodeSet_followers => k_is); (case l_CodeSet_followers => k_is); (case c_CodeSet_followers => k_is); (case k_CodeSet_followers => k_is); (case a__law_bag => k_is)
    (case l__law_bag => k_is); (case c__law_bag => k_is); (case k__law_bag => k_is); (case a__law_draw => k_is); (case l__law_draw => k_is); (case c__law_draw => k_is)
    (case k__law_draw => k_is); (case a__law_same => k_is); (case l__law_same => k_is); (case c__law_same => k_is); (case k__law_same => k_is); (case a__law_due => k_is)
    (case l__law_due => k_is); (case c__law_due => k_is); (case k__law_due => k_is); (case a__law_instruction => k_is); (case l__law_instruction => k_is); (case c__law_instruction => k_is)
    (case k__law_instruction => k_is); (case a__law_forms => k_is); (case l__law_forms => k_is); (case c__law_forms => k_is); (case k__law_forms => k_is); (case a__law_codes => k_is)
    (case l__law_codes => k_is); (case c__law_codes => k_is); (case k__law_codes => k_is); (case a_law => k_is); (case l_law => k_is); (case c_law => k_is)
    (case k_law => k_is); (case pg_Form => k_is); (case hd_Form => k_is); (case po_Form => k_is); (case sa_Form => k_is); (case mk_Form => k_is)
    (case kc_Form => k_is); (case no_Form_name => k_is); (case no_Form_length => k_is); (case no_Form_flow => k_is); (case pg_CodeSet => k_is); (case hd_CodeSet => k_is)
    (case po_CodeSet => k_is); (case sa_CodeSet => k_is); (case mk_CodeSet => k_is); (case kc_CodeSet => k_is); (case no_CodeSet_stop => k_is); (case no_CodeSet_order => k_is)
    (case no_CodeSet_table => k_is); (case z_len => k_is); (case z_abs => k_is); (case z_int => k_is); (case z_list => k_is); (case z_range => k_is)
    (case z_isinstance => k_is); (case z_bool => k_is); (case z_str => k_is); (case z_tuple => k_is); (case z_all => k_is); (case z_set => k_is)
    (case z_sorted => k_is); (case v_LETTERS => k_is); (case rd_Form => k_is); (case gat_Form => k_is); (case rd_CodeSet => k_is); (case gat_CodeSet => k_is)
    (case cvF => k_is); (case lkF => k_is); (case cvM => k_is)
