import PyProof.Rows.All
import Wide.All
import OpenK.AllK
import Wide.FinOn
import HandS.ForMost
import HandS.Wide
import HandS.IsInst
import HandS.Evl
import HandS.Walk
import HandS.Strs
import HandS.Conv
import HandS.ClsMeth
import HandS.DictComp
import KE.KSuper
import KE.KExcSuper
import KE.KExcIs
import KE.RegKSuper
import KE.RegKIsAll
import KE.RegKTryMore
import HandS.ForExc
import HandS.ExcInit
import HandS.ExcIs
import HandS.ExcField
import HandS.Star
import HandS.Property
import HandS.HotCalls
import HandS.Codes
import HandS.Defaults
import HandS.MakeKw
import HandS.More
import HandS.FStr
import HandS.Finally
import HandS.Style
import PyProof.P3Eq
import HandS.Star
import HandS.WordsExc
import HandS.RaiseMore
import HandS.TryOnly
import HandS.Property
import PyProof.InstNe
import HandS.ExcInitHot
import KE.GoesMore
import PyProof.EnumMake
import KE.KStar
import PyProof.ReprRoads
import PyProof.ReprBulk
import HandS.IterNext
import HandS.IterVal
import HandS.Lambda
import HandS.TupAny
import KE.OsRunLaw
import HandS.Ends
import HandS.Iter
import HandS.OwnIter
import PyProof.FitsInt
import PyProof.Rows.ReprOcc
import PyProof.Rows.StrJoinMade
import PyProof.StrLawsRepr
import HandS.Head0
import HandS.Head1
import HandS.Head2
import HandS.HeadEnd
import HandS.HeadHook1
import HandS.HeadHook2
import HandS.ExcInit
import HandS.Defaults
import KE.KSuper
import PySem.Challenge.RW_codestitch_k23_prices_and_single_steps
set_option Elab.async false
set_option linter.all false
set_option maxRecDepth 100000
set_option maxHeartbeats 4000000
open PySem PySem.Spec PyProof.Rows L2
/-! Vc: edges between abstract heaps, and readings answered step by step (my own layer over HandS). -/
namespace Vc
open PySem PySem.Spec PyProof.Rows L2

/-! ### edges: H' comes from H; at most the objects of S were changed -/
structure Ed (S : List Addr) (H H' : Hp) : Prop where
  keep : ∀ a o, a ∉ S → H a = some o → H' a = some o
  tup : ∀ a xs, H a = some (.tup xs) → H' a = some (.tup xs)
  frz : ∀ a o u, H a = some (.frz o u) → H' a = some (.frz o u)
  dom : ∀ a, H' a = none → H a = none
theorem Ed.refl {S : List Addr} {H : Hp} : Ed S H H := ⟨fun _ _ _ h => h, fun _ _ h => h, fun _ _ _ h => h, fun _ h => h⟩
theorem Ed.new {S : List Addr} {H : Hp} {p : Addr} {o : HO} (h : H p = none) : Ed S H (upd H p o) where
  keep := fun a u _ e => by rw [upd_ne (ne_of_none e h)]; exact e
  tup := fun a u e => by rw [upd_ne (ne_of_none e h)]; exact e
  frz := fun a _ u e => by rw [upd_ne (ne_of_none e h)]; exact e
  dom := fun a e => by
    by_cases q : a = p
    · rw [q]; exact h
    · rw [upd_ne q] at e; exact e
theorem Ed.mut {H : Hp} {p : Addr} {o u : HO} (h : H p = some u) (m : Mut (some u)) : Ed [p] H (upd H p o) where
  keep := fun a v ha e => by
    have : a ≠ p := fun q => ha (by rw [q]; exact List.mem_singleton.mpr rfl)
    rw [upd_ne this]; exact e
  tup := fun a xs e => by
    have : a ≠ p := fun q => by rw [q, h] at e; cases e; exact m
    rw [upd_ne this]; exact e
  frz := fun a _ xs e => by
    have : a ≠ p := fun q => by rw [q, h] at e; cases e; exact m
    rw [upd_ne this]; exact e
  dom := fun a e => by
    by_cases q : a = p
    · subst q; rw [upd_same] at e; cases e
    · rw [upd_ne q] at e; exact e
theorem Ed.trans {S T : List Addr} {H H1 H2 : Hp} (a : Ed S H H1) (b : Ed T H1 H2) (hs : ∀ x ∈ T, x ∈ S ∨ H x = none) : Ed S H H2 where
  keep := fun x o hx e => by
    have e1 := a.keep x o hx e
    refine b.keep x o (fun z => ?_) e1
    rcases hs x z with q | q
    · exact hx q
    · rw [e] at q; cases q
  tup := fun x o e => b.tup x o (a.tup x o e)
  frz := fun x o u e => b.frz x o u (a.frz x o u e)
  dom := fun x e => a.dom x (b.dom x e)
theorem Ed.mono {S T : List Addr} {H H1 : Hp} (a : Ed S H H1) (hs : ∀ x ∈ S, x ∈ T) : Ed T H H1 :=
  ⟨fun x o hx e => a.keep x o (fun z => hx (hs x z)) e, a.tup, a.frz, a.dom⟩
theorem Ed.ex {S : List Addr} {H H1 H2 : Hp} (a : Ed S H H1) (b : Ed [] H1 H2) : Ed S H H2 := a.trans b fun _ z => nomatch z
theorem Ed.one {S : List Addr} {H H1 H2 : Hp} {p : Addr} (a : Ed S H H1) (b : Ed [p] H1 H2) (h : p ∈ S ∨ H p = none) : Ed S H H2 :=
  a.trans b fun x z => by rw [List.mem_singleton.mp z]; exact h
theorem Ed.same {H H' : Hp} (e : Ed [] H H') : Same H H' := fun a o h => e.keep a o (fun z => nomatch z) h
theorem Ed.at0 {H H' : Hp} {a : Addr} {o : HO} (e : Ed [] H H') (h : H a = some o) : H' a = some o := e.keep a o (fun z => nomatch z) h
theorem Ed.at1 {H H' : Hp} {a p : Addr} {o : HO} (e : Ed [p] H H') (n : a ≠ p) (h : H a = some o) : H' a = some o := e.keep a o (fun z => n (List.mem_singleton.mp z)) h
theorem Ed.at2 {H H' : Hp} {a p q : Addr} {o : HO} (e : Ed [p, q] H H') (n : a ≠ p) (m : a ≠ q) (h : H a = some o) : H' a = some o := e.keep a o (fun z => by
  rcases List.mem_cons.mp z with z | z
  · exact n z
  · exact m (List.mem_singleton.mp z)) h
theorem Ed.rdt {S : List Addr} {H H' : Hp} {a : Addr} {xs : List V} (e : Ed S H H') (h : Rd H a (.tup xs)) : Rd H' a (.tup xs) := by
  rcases h with h | ⟨o, h⟩
  · exact .inl (e.tup _ _ h)
  · exact .inr ⟨o, e.frz _ _ _ h⟩
theorem Ed.sqt {K : PySem.W.Frag} {S : List Addr} {H H' : Hp} {a : Addr} {xs : List V} (e : Ed S H H') (h : SqT K H a xs) : SqT K H' a xs := by
  rcases h with h | h
  · exact .inl (e.rdt h)
  · exact .inr h
theorem Ed.sql {K : PySem.W.Frag} {S : List Addr} {H H' : Hp} {a : Addr} {xs : List V} (e : Ed S H H') (n : a ∉ S) (h : SqL K H a xs) : SqL K H' a xs := by
  rcases h with (h | ⟨o, h⟩) | h
  · exact .inl (.inl (e.keep _ _ n h))
  · exact .inl (.inr ⟨o, e.frz _ _ _ h⟩)
  · exact .inr h
theorem Ed.sql0 {K : PySem.W.Frag} {H H' : Hp} {a : Addr} {xs : List V} (e : Ed [] H H') (h : SqL K H a xs) : SqL K H' a xs := e.sql (fun z => nomatch z) h
theorem Ed.sql1 {K : PySem.W.Frag} {H H' : Hp} {a p : Addr} {xs : List V} (e : Ed [p] H H') (n : a ≠ p) (h : SqL K H a xs) : SqL K H' a xs := e.sql (fun z => n (List.mem_singleton.mp z)) h
/-- a list that is read; p holds no list -/
theorem Ed.sqlk {K : PySem.W.Frag} {H H' : Hp} {a p : Addr} {o : HO} {xs : List V} (e : Ed [p] H H') (hp : H p = some o) (n : ∀ ys, o ≠ .lst ys) (h : SqL K H a xs) : SqL K H' a xs := by
  rcases h with (h | ⟨ob, h⟩) | h
  · exact .inl (.inl (e.keep _ _ (fun z => by rw [List.mem_singleton.mp z, hp] at h; cases h; exact n xs rfl) h))
  · exact .inl (.inr ⟨ob, e.frz _ _ _ h⟩)
  · exact .inr h

/-! ### data stay -/
mutual
theorem Dp.ed {K : PySem.W.Frag} {S : List Addr} {H H' : Hp} (e : Ed S H H') (hS : ∀ a ∈ S, ∀ xs, H a ≠ some (.lst xs)) : ∀ (d : PyData) (v : V), Dp K H v d → Dp K H' v d
  | .none, _, h => by cases h; exact .non
  | .bool b, _, h => by cases h; exact .bl b
  | .int i, _, h => by cases h; exact .int i
  | .str x, _, h => by cases h; exact .str x
  | .list ds, _, h => by
    cases h with
    | lst ha hd =>
      refine .lst ?_ (Dp.edAll e hS ds _ hd)
      rcases ha with (ha | ⟨ob, ha⟩) | ha
      · exact .inl (.inl (e.keep _ _ (fun z => hS _ z _ ha) ha))
      · exact .inl (.inr ⟨ob, e.frz _ _ _ ha⟩)
      · exact .inr ha
  | .tuple ds, _, h => by
    cases h with
    | tup ha hd => exact .tup (e.sqt ha) (Dp.edAll e hS ds _ hd)
theorem Dp.edAll {K : PySem.W.Frag} {S : List Addr} {H H' : Hp} (e : Ed S H H') (hS : ∀ a ∈ S, ∀ xs, H a ≠ some (.lst xs)) : ∀ (ds : List PyData) (vs : List V), DpAll K H vs ds → DpAll K H' vs ds
  | [], _, h => by cases h; exact .nil
  | d :: ds, _, h => by
    cases h with
    | cons h1 h2 => exact .cons (Dp.ed e hS d _ h1) (Dp.edAll e hS ds _ h2)
end
theorem Dp.ed0 {K : PySem.W.Frag} {H H' : Hp} {d : PyData} {v : V} (e : Ed [] H H') (h : Dp K H v d) : Dp K H' v d := Dp.ed e (fun _ z => nomatch z) d v h

/-! ### readings, step by step: what is left is stated without its binders -/
section
variable {K : PySem.W.Frag} {σ : L2.St} {H : Hp} {D : Ends} {Q : VK} {QB : Bool → Hp → Prop} {QA : List V → Hp → Prop} {te ta tb : TE} {tt tu : TT} {t u : TS} {g : TG} {v x y : V} {i j : Int}
-- statements
theorem go_seq (h : t { D with nx := u D } σ H) : tSeq t u D σ H := h
theorem go_asg (h : te σ H fun x H1 => g x σ H1 D.nx) : tAsg te g D σ H := h
theorem go_drop (h : te σ H fun _ H1 => D.nx σ H1) : tDrop te D σ H := h
theorem go_ret (h : te σ H D.rt) : tRet te D σ H := h
theorem go_retN (h : D.rt .non H) : tRetN D σ H := h
theorem go_next (h : D.nx σ H) : tNext D σ H := h
theorem go_break (h : D.bk σ H) : tBreak D σ H := h
theorem go_cont (h : D.ct σ H) : tCont D σ H := h
theorem go_ifS (h : tt σ H fun b H1 => if b = true then t D σ H1 else u D σ H1) : tIfS tt t u D σ H := h
theorem go_name {n : Nat} {R : L2.St → Hp → Prop} (h : R (σ.set n (some v)) H) : gName n v σ H R := h
-- tests
theorem go_test (h : te σ H fun x H' => ∃ k, x = .bl k ∧ QB k H') : tTest te σ H QB := h
theorem go_B (h : te σ H fun x H' => ∃ k, x = .bl k ∧ QB k H') : tB te σ H QB := h
theorem go_bl {b : Bool} {R : Bool → Prop} (h : R b) : ∃ k, V.bl b = .bl k ∧ R k := ⟨b, rfl, h⟩
theorem go_notT (h : tt σ H fun c H1 => QB (!c) H1) : tNot tt σ H QB := h
theorem go_andT (h : tt σ H fun c H1 => if c = true then tu σ H1 QB else QB false H1) : tAnd tt tu σ H QB := h
theorem go_orT (h : tt σ H fun c H1 => if c = true then QB true H1 else tu σ H1 QB) : tOr tt tu σ H QB := h
theorem go_yes (h : QB true H) : tYes σ H QB := h
-- values
theorem go_var {n : Nat} (e : σ[n]? = some (some v)) (h : Q v H) : tVar n σ H Q := ⟨v, e, h⟩
theorem go_c (h : Q v H) : tC v σ H Q := h
theorem go_op {r : R2} (h : ta σ H fun x H1 => tb σ H1 fun y H2 => r x y H2 Q) : tOp r ta tb σ H Q := h
theorem go_un {r : V → Hp → VK → Prop} (h : ta σ H fun x H1 => r x H1 Q) : tUn r ta σ H Q := h
theorem go_andV (h : ta σ H fun x H1 => ∃ c, x = .bl c ∧ if c = true then tb σ H1 Q else Q (.bl false) H1) : tAndV ta tb σ H Q := h
theorem go_orV (h : ta σ H fun x H1 => ∃ c, x = .bl c ∧ if c = true then Q (.bl true) H1 else tb σ H1 Q) : tOrV ta tb σ H Q := h
theorem go_notV (h : ta σ H fun x H1 => ∃ c, x = .bl c ∧ Q (.bl (!c)) H1) : tNotV ta σ H Q := h
theorem go_blP {b : Bool} {P : Bool → Prop} (h : P b) : ∃ c, V.bl b = .bl c ∧ P c := ⟨b, rfl, h⟩
theorem go_if (h : tt σ H fun c H1 => if c = true then ta σ H1 Q else tb σ H1 Q) : tIf tt ta tb σ H Q := h
theorem go_I0 {f : Int → Int → V} (h : Q (f i j) H) : rI0 f (.int i) (.int j) H Q := ⟨i, j, rfl, rfl, h⟩
theorem go_I {C : Int → Int → Prop} {f : Int → Int → V} (hc : C i j) (h : Q (f i j) H) : rI C f (.int i) (.int j) H Q := ⟨i, j, rfl, rfl, hc, h⟩
theorem go_U {f : Int → V} (h : Q (f i) H) : rU f (.int i) H Q := ⟨i, rfl, h⟩
theorem go_eqI (h : Q (.bl (decide (i = j))) H) : rEq (.int i) (.int j) H Q := ⟨rfl, by
  have : decide (V.int i = V.int j) = decide (i = j) := by rw [Bool.eq_iff_iff]; simp
  rw [this]; exact h⟩
theorem go_neI (h : Q (.bl (!decide (i = j))) H) : rNe (.int i) (.int j) H Q := ⟨rfl, by
  have : decide (V.int i = V.int j) = decide (i = j) := by rw [Bool.eq_iff_iff]; simp
  rw [this]; exact h⟩
theorem go_eqS {a b : Str} (h : Q (.bl (decide (a = b))) H) : rEq (.str a) (.str b) H Q := ⟨rfl, by
  have : decide (V.str a = V.str b) = decide (a = b) := by rw [Bool.eq_iff_iff]; simp
  rw [this]; exact h⟩
theorem go_neS {a b : Str} (h : Q (.bl (!decide (a = b))) H) : rNe (.str a) (.str b) H Q := ⟨rfl, by
  have : decide (V.str a = V.str b) = decide (a = b) := by rw [Bool.eq_iff_iff]; simp
  rw [this]; exact h⟩
theorem go_eqB {a b : Bool} (h : Q (.bl (decide (a = b))) H) : rEq (.bl a) (.bl b) H Q := ⟨rfl, by
  have : decide (V.bl a = V.bl b) = decide (a = b) := by rw [Bool.eq_iff_iff]; simp
  rw [this]; exact h⟩
theorem go_neB {a b : Bool} (h : Q (.bl (!decide (a = b))) H) : rNe (.bl a) (.bl b) H Q := ⟨rfl, by
  have : decide (V.bl a = V.bl b) = decide (a = b) := by rw [Bool.eq_iff_iff]; simp
  rw [this]; exact h⟩
theorem go_eqg (hs : scal x y = true) (h : Q (.bl (decide (x = y))) H) : rEq x y H Q := ⟨hs, h⟩
theorem go_neg (hs : scal x y = true) (h : Q (.bl (!decide (x = y))) H) : rNe x y H Q := ⟨hs, h⟩
theorem go_cb {r : List V → Hp → VK → Prop} {ts : TA} (h : ts σ H fun vs H1 => r vs H1 Q) : tCB r ts σ H Q := h
theorem go_nil (h : QA [] H) : tNil σ H QA := h
theorem go_cons {tr : TA} (h : ta σ H fun x H1 => tr σ H1 fun xs H2 => QA (x :: xs) H2) : tCons ta tr σ H QA := h
theorem go_call {sp : Sp} {E : XK} {ts : TA} (h : ts σ H fun vs H1 => sp vs H1 Q E) : tCall sp [] E ts σ H Q := by
  unfold tCall
  simpa only [List.append_nil] using h
theorem go_tup {ts : TA} (h : ts σ H fun xs H1 => xs.length ≤ sizeLine ∧ ∀ p, H1 p = none → Q (.ref p) (upd H1 p (.tup xs))) : tTup ts σ H Q := h
theorem go_lst {ts : TA} (h : ts σ H fun xs H1 => xs.length ≤ sizeLine ∧ ∀ p, H1 p = none → Q (.ref p) (upd H1 p (.lst xs))) : tLst ts σ H Q := h
theorem go_len {xs : List V} {P : Prop} (hl : xs.length ≤ 1000) (h : P) : xs.length ≤ sizeLine ∧ P := ⟨Nat.le_of_lt (small1000 hl), h⟩
theorem go_dnew (h : ∀ p, H p = none → Q (.ref p) (upd H p (.dK []))) : tDNewK σ H Q := h
theorem go_dget (h : ta σ H fun x H1 => tb σ H1 fun y H2 => ∃ a v, x = .ref a ∧ DGet H2 a y (some v) ∧ Q v H2) : tDGet ta tb σ H Q := h
theorem go_dgetS {a : Addr} {k : Str} {kvs : List (Key × V)} {v : V} {R : V → Prop} (e : H a = some (.dK kvs)) (ev : valV kvs (.inr k) = some v) (h : R v) : ∃ a' v', V.ref a = .ref a' ∧ DGet H a' (.str k) (some v') ∧ R v' :=
  ⟨a, v, rfl, by rw [← ev]; exact DGet.k (k := .inr k) e, h⟩
theorem go_dgetI {a : Addr} {k : Int} {kvs : List (Key × V)} {v : V} {R : V → Prop} (e : H a = some (.dK kvs)) (ev : valV kvs (.inl k) = some v) (h : R v) : ∃ a' v', V.ref a = .ref a' ∧ DGet H a' (.int k) (some v') ∧ R v' :=
  ⟨a, v, rfl, by rw [← ev]; exact DGet.k (k := .inl k) e, h⟩
theorem go_din (h : ta σ H fun y H1 => tb σ H1 fun x H2 => ∃ a o, x = .ref a ∧ DGet H2 a y o ∧ Q (.bl o.isSome) H2) : tDIn ta tb σ H Q := h
theorem go_dnotin (h : ta σ H fun y H1 => tb σ H1 fun x H2 => ∃ a o, x = .ref a ∧ DGet H2 a y o ∧ Q (.bl (!o.isSome)) H2) : tDNotIn ta tb σ H Q := h
theorem go_dinI {a : Addr} {k : Int} {kvs : List (Key × V)} {P : Option V → Prop} (e : H a = some (.dK kvs)) (h : P (valV kvs (.inl k))) : ∃ a' o, V.ref a = .ref a' ∧ DGet H a' (.int k) o ∧ P o :=
  ⟨a, _, rfl, DGet.k (k := .inl k) e, h⟩
theorem go_dput {tv : TE} (h : tv σ H fun v H1 => ta σ H1 fun x H2 => tb σ H2 fun y H3 => ∃ a H4, x = .ref a ∧ DPut H3 a y v H4 ∧ D.nx σ H4) : sDPut ta tb tv D σ H := h
theorem go_dputS {a : Addr} {k : Str} {kvs : List (Key × V)} {v : V} {P : Hp → Prop} (e : H a = some (.dK kvs)) (hl : kvs.length ≤ 1000) (h : P (upd H a (.dK (putK kvs (.inr k) v)))) : ∃ a' H4, V.ref a = .ref a' ∧ DPut H a' (.str k) v H4 ∧ P H4 :=
  ⟨a, _, rfl, DPut.k (k := .inr k) e (small1000 hl), h⟩
theorem go_dputI {a : Addr} {k : Int} {kvs : List (Key × V)} {v : V} {P : Hp → Prop} (e : H a = some (.dK kvs)) (hl : kvs.length ≤ 1000) (h : P (upd H a (.dK (putK kvs (.inl k) v)))) : ∃ a' H4, V.ref a = .ref a' ∧ DPut H a' (.int k) v H4 ∧ P H4 :=
  ⟨a, _, rfl, DPut.k (k := .inl k) e (small1000 hl), h⟩
theorem go_ixL {p : Addr} {xs : List V} (hs : SqL K H p xs) (ha : atI xs i = some v) (h : Q v H) : rIxL K (.ref p) (.int i) H Q := ⟨p, xs, i, v, rfl, rfl, hs, ha, h⟩
theorem go_ixT {p : Addr} {xs : List V} (hs : SqT K H p xs) (ha : atI xs i = some v) (h : Q v H) : rIxT K (.ref p) (.int i) H Q := ⟨p, xs, i, v, rfl, rfl, hs, ha, h⟩
theorem go_ixS {z : Str} {c : Nat} (hz : z.length ≤ 1000) (ha : atI z.cps.toList i = some c) (h : Q (.str ⟨#[c]⟩) H) : rIxS (.str z) (.int i) H Q := ⟨z, i, c, rfl, rfl, Nat.le_of_lt (small1000 hz), ha, h⟩
theorem go_sl {r : V → Option Int → Option Int → Hp → VK → Prop} {tl th : TO} (h : te σ H fun x H1 => tl σ H1 fun l H2 => th σ H2 fun u H3 => r x l u H3 Q) : tSl r te tl th σ H Q := h
theorem go_nopart {QO : Option Int → Hp → Prop} (h : QO none H) : tNoPart σ H QO := h
theorem go_part {QO : Option Int → Hp → Prop} (h : te σ H fun x H1 => ∃ i, x = .int i ∧ QO (some i) H1) : tPart te σ H QO := h
theorem go_partI {P : Int → Prop} (h : P i) : ∃ j, V.int i = .int j ∧ P j := ⟨i, rfl, h⟩
theorem go_slL {p : Addr} {xs : List V} {lo hi : Option Int} (hs : SqL K H p xs) (h : ∀ q, H q = none → Q (.ref q) (upd H q (.lst (cutV xs lo hi)))) : rSlL K (.ref p) lo hi H Q := ⟨p, xs, rfl, hs, h⟩
theorem go_slS {z : Str} {lo hi : Option Int} (hz : z.length ≤ 1000) (h : Q (.str (cutS z lo hi)) H) : rSlS (.str z) lo hi H Q := ⟨z, rfl, Nat.le_of_lt (small1000 hz), h⟩
theorem go_abs {R : Int → Prop} (h : R i) : ∃ j, [V.int i] = [.int j] ∧ R j := ⟨i, rfl, h⟩
theorem go_int1 {R : Int → Prop} {R' : Bool → Prop} (h : R i) : (∃ j, [V.int i] = [.int j] ∧ R j) ∨ ∃ k, [V.int i] = [.bl k] ∧ R' k := .inl ⟨i, rfl, h⟩
theorem go_int1b {k : Bool} {R : Int → Prop} {R' : Bool → Prop} (h : R' k) : (∃ j, [V.bl k] = [.int j] ∧ R j) ∨ ∃ k', [V.bl k] = [.bl k'] ∧ R' k' := .inr ⟨k, rfl, h⟩
theorem go_bm {T : String} {r : V → List V → Hp → VK → Prop} {to : TE} {ts : TA} (h : to σ H fun x H1 => tyV K T x H1 ∧ ts σ H1 fun xs H2 => r x xs H2 Q) : tBM K T r to ts σ H Q := h
theorem go_bm0 {T : String} {r : V → List V → Hp → VK → Prop} {to : TE} (h : to σ H fun x H1 => tyV K T x H1 ∧ r x [] H1 Q) : tBM0 K T r to σ H Q := h
theorem go_tyL {p : Addr} {xs : List V} {P : Prop} (e : SqL K H p xs) (h : P) : tyV K "list" (.ref p) H ∧ P := ⟨.inl ⟨rfl, xs, e⟩, h⟩
theorem go_append {p : Addr} {xs : List V} (e : H p = some (.lst xs)) (hl : xs.length ≤ 1000) (h : Q .non (upd H p (.lst (xs ++ [v])))) : rAppend (.ref p) [v] H Q := ⟨p, xs, v, rfl, rfl, e, small1000 hl, h⟩
theorem go_lenL {p : Addr} {xs : List V} {R : List V → Prop} (e : SqL K H p xs) (h : R xs) : ∃ q ys, [V.ref p] = [.ref q] ∧ (SqL K H q ys ∨ SqT K H q ys) ∧ R ys := ⟨p, xs, rfl, .inl e, h⟩
theorem go_lenT {p : Addr} {xs : List V} {R : List V → Prop} (e : SqT K H p xs) (h : R xs) : ∃ q ys, [V.ref p] = [.ref q] ∧ (SqL K H q ys ∨ SqT K H q ys) ∧ R ys := ⟨p, xs, rfl, .inr e, h⟩
theorem go_for {wi : TI} (h : wi σ H fun J H1 => ∃ W : Nat → Nat → L2.St → Hp → Prop, (∃ m, W 0 m σ H1) ∧ ∀ i m σ H, W i m σ H →
  (J.stop i H ∧ D.nx σ H) ∨ (J.go i H ∧ ∃ N : L2.St → Hp → Prop, (∀ σ' H', N σ' H' → ∃ m', m' < m ∧ W (i + 1) m' σ' H') ∧ ∀ x H', J.yld i H x H' → g x σ H' fun σ2 H2 => t { D with nx := N, ct := N, bk := D.nx } σ2 H2)) : tFor wi g t D σ H := h
theorem go_iList {tl : TE} {R : It → Hp → Prop} (h : tl σ H fun x H1 => ∃ a, x = .ref a ∧ (∃ xs, SqL K H1 a xs) ∧ R (Itl K a) H1) : iList K tl σ H R := h
theorem go_iTup {tl : TE} {R : It → Hp → Prop} (h : tl σ H fun x H1 => ∃ a, x = .ref a ∧ (∃ xs, SqT K H1 a xs) ∧ R (Itt K a) H1) : iTup K tl σ H R := h
theorem go_iRng1 {ts : TA} {R : It → Hp → Prop} (h : ts σ H fun vs H1 => ∃ j : Int, vs = [.int j] ∧ -(2 ^ 62) ≤ j ∧ j < 2 ^ 62 ∧ R (Itr 0 j.toNat) H1) : iRng1 ts σ H R := h
theorem go_iRng2 {ts : TA} {R : It → Hp → Prop} (h : ts σ H fun vs H1 => ∃ i j : Int, vs = [.int i, .int j] ∧ (-(2 ^ 62) ≤ i ∧ i < 2 ^ 62 ∧ -(2 ^ 62) ≤ j ∧ j < 2 ^ 62) ∧ R (Itr i (j - i).toNat) H1) : iRng2 ts σ H R := h
theorem go_iStr {tl : TE} {R : It → Hp → Prop} (h : tl σ H fun v H1 => ∃ x, v = .str x ∧ R (Its x) H1) : iStr tl σ H R := h
theorem go_lc {wi : TI} {vs : List Nat} (h : wi σ H fun J H1 => ∀ D, H1 D = none → ∃ W : Nat → Nat → Hp → Prop, (∃ m, W 0 m (upd H1 D (.lst []))) ∧ ∀ i m H, W i m H →
  (J.stop i H ∧ Q (.ref D) H) ∨ (J.go i H ∧ ∃ Nx : Hp → Prop, (∀ H', Nx H' → ∃ m', m' < m ∧ W (i + 1) m' H') ∧ ∀ x H', J.yld i H x H' → g x (wipe σ vs) H' fun σ2 H2 => wipe σ2 vs = wipe σ vs ∧ tt σ2 H2 fun b H3 =>
    if b = true then te σ2 H3 fun y H4 => ∃ acc, H4 D = some (.lst acc) ∧ acc.length < sizeLine ∧ Nx (upd H4 D (.lst (acc ++ [y]))) else Nx H3)) : tLc wi g tt te vs σ H Q := h
/-- a comprehension over n turns that give items one by one: the new list's items so far are told by Pv -/
theorem lc_by {J : It} {n : Nat} {G : Hp → Prop} {Y : Nat → Hp → V → Hp → Prop} {vs : List Nat} {R : Addr → Hp → Prop} (w : Walk J n G Y) (Pv : Addr → Nat → Hp → Prop) (h0 : ∀ D H2, H D = none → Ed [] H H2 → H2 D = some (.lst []) → Pv D 0 H2) (hG : ∀ D i H', H D = none → i ≤ n → Pv D i H' → G H')
    (hs : ∀ D i x H1 H', H D = none → i < n → Pv D i H1 → Y i H1 x H' → g x (wipe σ vs) H' fun σ2 H2 => wipe σ2 vs = wipe σ vs ∧ tt σ2 H2 fun b H3 =>
      if b = true then te σ2 H3 fun y H4 => ∃ acc, H4 D = some (.lst acc) ∧ acc.length < sizeLine ∧ Pv D (i + 1) (upd H4 D (.lst (acc ++ [y]))) else Pv D (i + 1) H3) (hd : ∀ D H', H D = none → Pv D n H' → R D H') :
    ∀ D, H D = none → ∃ W : Nat → Nat → Hp → Prop, (∃ m, W 0 m (upd H D (.lst []))) ∧ ∀ i m H, W i m H →
      (J.stop i H ∧ R D H) ∨ (J.go i H ∧ ∃ Nx : Hp → Prop, (∀ H', Nx H' → ∃ m', m' < m ∧ W (i + 1) m' H') ∧ ∀ x H', J.yld i H x H' → g x (wipe σ vs) H' fun σ2 H2 => wipe σ2 vs = wipe σ vs ∧ tt σ2 H2 fun b H3 =>
        if b = true then te σ2 H3 fun y H4 => ∃ acc, H4 D = some (.lst acc) ∧ acc.length < sizeLine ∧ Nx (upd H4 D (.lst (acc ++ [y]))) else Nx H3) := fun D nD =>
  lc_it w (Pv D) (h0 D _ nD (Ed.new nD) upd_same) (fun i H' hi p => hG D i H' nD hi p) (fun i x H1 H' hi p y => hs D i x H1 H' nD hi p y) (fun H' p => hd D H' nD p)
/-- list(xs) -/
theorem go_listL {p : Addr} {xs : List V} {R : List V → Prop} (e : SqL K H p xs) (h : R xs) : ∃ q ys, [V.ref p] = [.ref q] ∧ (SqL K H q ys ∨ SqT K H q ys) ∧ R ys := ⟨p, xs, rfl, .inl e, h⟩
theorem go_disp {trs : List (TE × TE)} (h : ∀ p, H p = none → tPairs trs σ (upd H p (.dK [])) fun ps H2 => H2 p = some (.dK []) ∧ ∃ kvs : List (Key × V), ps = kvs.map (fun kv => (kV kv.1, kv.2)) ∧ kvs.length ≤ 15 ∧ Q (.ref p) (upd H2 p (.dK (mergeK [] kvs)))) : tDisp trs σ H Q := h
theorem go_pairs {tk tv : TE} {trs : List (TE × TE)} {R : List (V × V) → Hp → Prop} (h : tk σ H fun k H1 => tv σ H1 fun v H2 => tPairs trs σ H2 fun ps H3 => R ((k, v) :: ps) H3) : tPairs ((tk, tv) :: trs) σ H R := h
theorem go_pairs0 {R : List (V × V) → Hp → Prop} (h : R [] H) : tPairs [] σ H R := h
/-- a new object, by name -/
theorem alloc {p : Addr} {o : HO} {H2 : Hp} (hu : upd H p o = H2) (h : H p = none) : Ed [] H H2 ∧ H2 p = some o := by subst hu; exact ⟨Ed.new h, upd_same⟩
/-- an object changed, by name -/
theorem chg {p : Addr} {o u : HO} {H2 : Hp} (hu : upd H p o = H2) (h : H p = some u) (m : Mut (some u) := by trivial) : Ed [p] H H2 ∧ H2 p = some o := by subst hu; exact ⟨Ed.mut h m, upd_same⟩
-- ifs
theorem go_ite {c : Prop} [Decidable c] {A B : Prop} (h1 : c → A) (h2 : ¬ c → B) : if decide c = true then A else B := by
  by_cases h : c
  · rw [if_pos (decide_eq_true h)]; exact h1 h
  · rw [if_neg (fun z => h (of_decide_eq_true z))]; exact h2 h
theorem go_iten {c : Prop} [Decidable c] {A B : Prop} (h1 : ¬ c → A) (h2 : c → B) : if (!decide c) = true then A else B := by
  by_cases h : c
  · rw [decide_eq_true h]; exact iteF (h2 h)
  · rw [decide_eq_false h]; exact iteT (h1 h)
theorem go_iteb {b : Bool} {A B : Prop} (h1 : b = true → A) (h2 : b = false → B) : if b = true then A else B := by
  cases b with
  | true => exact iteT (h1 rfl)
  | false => exact iteF (h2 rfl)
theorem go_itebn {b : Bool} {A B : Prop} (h1 : b = false → A) (h2 : b = true → B) : if (!b) = true then A else B := by
  cases b with
  | true => exact iteF (h2 rfl)
  | false => exact iteT (h1 rfl)
end

/-! ### distinct places -/
theorem ne1 {H : Hp} {a b : Addr} {o : HO} (h' : H b = none) (h : H a = some o) : a ≠ b := ne_of_none h h'
theorem ne2 {H : Hp} {a b : Addr} {o : HO} (h' : H a = none) (h : H b = some o) : a ≠ b := (ne_of_none h h').symm
theorem nek {H : Hp} {a b : Addr} {o u : HO} (h : H a = some o) (h' : H b = some u) (d : o ≠ u) : a ≠ b := ne_of h h' d
theorem Ed.ex' {S : List Addr} {H H1 H2 : Hp} (b : Ed [] H1 H2) (a : Ed S H H1) : Ed S H H2 := a.ex b
theorem Ed.one' {S : List Addr} {H H1 H2 : Hp} {p : Addr} (b : Ed [p] H1 H2) (a : Ed S H H1) (h : p ∈ S ∨ H p = none) : Ed S H H2 := a.one b h
theorem Ed.two' {S : List Addr} {H H1 H2 : Hp} {p q : Addr} (b : Ed [p, q] H1 H2) (a : Ed S H H1) (h : p ∈ S ∨ H p = none) (h' : q ∈ S ∨ H q = none) : Ed S H H2 :=
  a.trans b fun x z => by
    rcases List.mem_cons.mp z with z | z
    · rw [z]; exact h
    · rw [List.mem_singleton.mp z]; exact h'
theorem Ed.back {S : List Addr} {H H' : Hp} {a : Addr} (e : Ed S H H') (h : H' a = none) : H a = none := e.dom a h
theorem sqt_of {K : PySem.W.Frag} {H : Hp} {a : Addr} {xs : List V} (h : H a = some (.tup xs)) : SqT K H a xs := .inl (.inl h)
theorem go_neL {α : Type} [DecidableEq α] {a : α} {A B : Prop} (h : B) : if (!decide (a = a)) = true then A else B := by rw [decide_eq_true rfl]; exact iteF h
theorem go_eqL {α : Type} [DecidableEq α] {a : α} {A B : Prop} (h : A) : if decide (a = a) = true then A else B := by rw [decide_eq_true rfl]; exact iteT h
theorem go_nT {A B : Prop} (h : B) : if (!true) = true then A else B := iteF h
theorem go_nF {A B : Prop} (h : A) : if (!false) = true then A else B := iteT h
theorem go_iteT' {c : Prop} [Decidable c] {A B : Prop} (hc : c) (h : A) : if decide c = true then A else B := by rw [decide_eq_true hc]; exact iteT h
theorem go_iteF' {c : Prop} [Decidable c] {A B : Prop} (hc : ¬ c) (h : B) : if decide c = true then A else B := by rw [decide_eq_false hc]; exact iteF h
theorem go_itenT' {c : Prop} [Decidable c] {A B : Prop} (hc : ¬ c) (h : A) : if (!decide c) = true then A else B := by rw [decide_eq_false hc]; exact iteT h
theorem go_itenF' {c : Prop} [Decidable c] {A B : Prop} (hc : c) (h : B) : if (!decide c) = true then A else B := by rw [decide_eq_true hc]; exact iteF h
theorem go_strE {z : Str} {R : Str → Prop} (h : R z) : ∃ x, V.str z = .str x ∧ R x := ⟨z, rfl, h⟩
theorem go_sign {c : Nat} {z : Str} {R : Nat → Str → Prop} (h : R c z) : ∃ c' z', V.str ⟨#[c]⟩ = .str ⟨#[c']⟩ ∧ V.str z = .str z' ∧ R c' z' := ⟨c, z, rfl, rfl, h⟩
theorem go_lenS {z : Str} {R : Str → Prop} (l : z.length ≤ 1000) (h : R z) : ∃ x, [V.str z] = [.str x] ∧ x.length ≤ sizeLine ∧ R x := ⟨z, rfl, Nat.le_of_lt (small1000 l), h⟩
/-! ### is None -/
theorem go_isN {R : Prop} (h : R) : V.non = V.non ∧ R := ⟨rfl, h⟩
theorem go_iteN {x : V} {A B : Prop} (hx : x ≠ .non) (h : B) : if decide (x = V.non) = true then A else B := by rw [decide_eq_false hx]; exact iteF h
theorem go_iteNT {A B : Prop} (h : A) : if decide (V.non = V.non) = true then A else B := iteT h
/-! ### isinstance -/
theorem kit_int_int : kitB "int" "int" = some true := by decide +kernel
theorem kit_int_bool : kitB "int" "bool" = some false := by decide +kernel
theorem kit_int_str : kitB "int" "str" = some false := by decide +kernel
theorem kit_int_tuple : kitB "int" "tuple" = some false := by decide +kernel
theorem kit_int_list : kitB "int" "list" = some false := by decide +kernel
theorem kit_int_dict : kitB "int" "dict" = some false := by decide +kernel
theorem kit_bool_int : kitB "bool" "int" = some true := by decide +kernel
theorem kit_bool_bool : kitB "bool" "bool" = some true := by decide +kernel
theorem kit_bool_str : kitB "bool" "str" = some false := by decide +kernel
theorem kit_bool_tuple : kitB "bool" "tuple" = some false := by decide +kernel
theorem kit_bool_list : kitB "bool" "list" = some false := by decide +kernel
theorem kit_bool_dict : kitB "bool" "dict" = some false := by decide +kernel
theorem kit_str_int : kitB "str" "int" = some false := by decide +kernel
theorem kit_str_bool : kitB "str" "bool" = some false := by decide +kernel
theorem kit_str_str : kitB "str" "str" = some true := by decide +kernel
theorem kit_str_tuple : kitB "str" "tuple" = some false := by decide +kernel
theorem kit_str_list : kitB "str" "list" = some false := by decide +kernel
theorem kit_str_dict : kitB "str" "dict" = some false := by decide +kernel
theorem kit_NoneType_int : kitB "NoneType" "int" = some false := by decide +kernel
theorem kit_NoneType_bool : kitB "NoneType" "bool" = some false := by decide +kernel
theorem kit_NoneType_str : kitB "NoneType" "str" = some false := by decide +kernel
theorem kit_NoneType_tuple : kitB "NoneType" "tuple" = some false := by decide +kernel
theorem kit_NoneType_list : kitB "NoneType" "list" = some false := by decide +kernel
theorem kit_NoneType_dict : kitB "NoneType" "dict" = some false := by decide +kernel
theorem kit_list_int : kitB "list" "int" = some false := by decide +kernel
theorem kit_list_bool : kitB "list" "bool" = some false := by decide +kernel
theorem kit_list_str : kitB "list" "str" = some false := by decide +kernel
theorem kit_list_tuple : kitB "list" "tuple" = some false := by decide +kernel
theorem kit_list_list : kitB "list" "list" = some true := by decide +kernel
theorem kit_list_dict : kitB "list" "dict" = some false := by decide +kernel
theorem kit_tuple_int : kitB "tuple" "int" = some false := by decide +kernel
theorem kit_tuple_bool : kitB "tuple" "bool" = some false := by decide +kernel
theorem kit_tuple_str : kitB "tuple" "str" = some false := by decide +kernel
theorem kit_tuple_tuple : kitB "tuple" "tuple" = some true := by decide +kernel
theorem kit_tuple_list : kitB "tuple" "list" = some false := by decide +kernel
theorem kit_tuple_dict : kitB "tuple" "dict" = some false := by decide +kernel
theorem kit_dict_int : kitB "dict" "int" = some false := by decide +kernel
theorem kit_dict_bool : kitB "dict" "bool" = some false := by decide +kernel
theorem kit_dict_str : kitB "dict" "str" = some false := by decide +kernel
theorem kit_dict_tuple : kitB "dict" "tuple" = some false := by decide +kernel
theorem kit_dict_list : kitB "dict" "list" = some false := by decide +kernel
theorem kit_dict_dict : kitB "dict" "dict" = some true := by decide +kernel
section
variable {K : PySem.W.Frag} {H : Hp} {Q : VK} {x : V}
theorem tyL {a : Addr} {xs : List V} (h : SqL K H a xs) : TyX K H (.ref a) (.type "list") := by
  rcases h with (h | ⟨o, h⟩) | ⟨o, _, _, h, c, _⟩
  · exact .base (.lst h)
  · exact .base (.frz h)
  · exact .kList h c
theorem tyT {a : Addr} {xs : List V} (h : SqT K H a xs) : TyX K H (.ref a) (.type "tuple") := by
  rcases h with (h | ⟨o, h⟩) | ⟨o, _, _, h, c, _⟩
  · exact .base (.tup h)
  · exact .fTuple h
  · exact .kTuple h c
theorem go_isi {n m : String} {b : Bool} (ht : TyX K H x (.type n)) (hk : kitB n m = some b) (h : Q (.bl b) H) : rIsi K [x, .ty m] H Q := ⟨x, .ty m, .type n, .type m, b, rfl, .ty m, ht, kit_ty hk, h⟩
theorem or_t {b : Bool} : (true || b) = true := rfl
theorem or_f {b : Bool} : (false || b) = b := rfl
theorem go_isiT2 {tp : Addr} {n m m' : String} {b b' c : Bool} (ht : TyX K H x (.type n)) (e : H tp = some (.tup [.ty m, .ty m'])) (hk : kitB n m = some b) (hk' : kitB n m' = some b') (hc : (b || b') = c) (h : Q (.bl c) H) : rIsiT K [x, .ref tp] H Q :=
  ⟨x, tp, _, .type n, [.type m, .type m'], b || b', rfl, e, .cons (.ty m) (.cons (.ty m') .nil), ht,
    kitAny_cons (kit_ty hk) (fun z => by subst z; exact kitAny_cons (kit_ty hk') (fun z => by subst z; exact kitAny_nil) fun z => by subst z; rfl) fun z => by subst z; rfl, by rw [hc]; exact h⟩
end
/-! ### slices -/
theorem cut_take (xs : List V) (k : Nat) : cutV xs none (some (k : Int)) = xs.take k := by
  unfold cutV
  rw [HT.sIx_nat, HT.sIx_none, List.drop_zero, Nat.sub_zero]
  rcases Nat.le_total k xs.length with h | h
  · rw [Nat.min_eq_left h]
  · rw [Nat.min_eq_right h, List.take_length, List.take_of_length_le h]
theorem cut_drop (xs : List V) (k : Nat) : cutV xs (some (k : Int)) none = xs.drop k := by
  unfold cutV
  rw [HT.sIx_nat, HT.sIx_none]
  rcases Nat.le_total k xs.length with h | h
  · rw [Nat.min_eq_left h, List.take_of_length_le (by rw [List.length_drop]; omega)]
  · rw [Nat.min_eq_right h, List.drop_of_length_le h, List.drop_length, List.take_nil]
theorem cut_mid (xs : List V) (j k : Nat) : cutV xs (some (j : Int)) (some (k : Int)) = (xs.drop j).take (k - j) := by
  unfold cutV
  rw [HT.sIx_nat, HT.sIx_nat]
  rcases Nat.le_total j xs.length with h | h
  · rw [Nat.min_eq_left h]
    rcases Nat.le_total k xs.length with h' | h'
    · rw [Nat.min_eq_left h']
    · rw [Nat.min_eq_right h', List.take_of_length_le (by rw [List.length_drop]; omega), List.take_of_length_le (by rw [List.length_drop]; omega)]
  · rw [Nat.min_eq_right h, List.drop_of_length_le h, List.drop_length, List.take_nil, List.take_nil]
/-! ### sizes -/
theorem mulw {i j : Int} (hi : i.natAbs < 2 ^ 200) (hj : j.natAbs < 2 ^ 200) : CMulW i j := wide_mul (a := 200) (b := 200) hi hj (by decide) (by decide) (by decide)
theorem divw {i j : Int} (h : 0 < j) (hj : j.natAbs < 2 ^ 200) : CDivW i j := wide_div (b := 200) h hj (by decide) (by decide)
end Vc

/-! Vk: further readings by name: chains, classes' constants, fields, new instances, locked dicts, sorted. -/
namespace Vc
open PySem PySem.Spec PyProof.Rows L2
/-- a reading within a comprehension, told without the comprehension's own frame -/
theorem blkE {Y : Cx} {e : Expr} {t' t : TE} (h : PE Y e t') (q : t' = t) : PE Y e t := q ▸ h
theorem blkT {Y : Cx} {e : List Expr} {t' t : TT} (h : PTs Y e t') (q : t' = t) : PTs Y e t := q ▸ h
section
variable {K : PySem.W.Frag} {σ : L2.St} {H : Hp} {D : Ends} {Q : VK} {te ta tb tc tv : TE} {f : Str} {v x y : V} {i j : Int} {ts : TA} {g : TG} {t : TS} {tt : TT}
theorem go_chain {r r' : R2} (h : ta σ H fun x H1 => tb σ H1 fun y H2 => r x y H2 fun z H3 => ∃ k, z = .bl k ∧ (if k = true then tc σ H3 fun w' H4 => r' y w' H4 Q else Q (.bl false) H3)) : tChain r r' ta tb tc σ H Q := h
theorem go_cvalR (h : ta σ H fun x H1 => ∃ C mc v u, x = .ref C ∧ ClX.CRead K C mc ∧ ClX.CVal K C mc f v u ∧ Q v H1) : ClX.tCVal K ta f σ H Q := h
theorem go_cval {C : Addr} {mc u : Value} {R : V → Prop} (hr : ClX.CRead K C mc) (hv : ClX.CVal K C mc f v u) (h : R v) : ∃ C' mc' v' u', V.ref C = .ref C' ∧ ClX.CRead K C' mc' ∧ ClX.CVal K C' mc' f v' u' ∧ R v' := ⟨C, mc, v, u, rfl, hr, hv, h⟩
theorem go_fld (h : ta σ H fun x H1 => ∃ a C dx fs v, x = .ref a ∧ H1 a = some (.ins C dx fs) ∧ Cls K C ∧ NoAttr K C f ∧ fs.lookup f = some v ∧ Q v H1) : tFld K ta f σ H Q := h
theorem go_fldV {a C dx : Addr} {fs : List (Str × V)} {R : V → Prop} (e : H a = some (.ins C dx fs)) (hl : fs.lookup f = some v) (c : Cls K C) (n : NoAttr K C f) (h : R v) :
    ∃ a' C' dx' fs' v', V.ref a = .ref a' ∧ H a' = some (.ins C' dx' fs') ∧ Cls K C' ∧ NoAttr K C' f ∧ fs'.lookup f = some v' ∧ R v' := ⟨a, C, dx, fs, v, rfl, e, c, n, hl, h⟩
theorem go_sfld (h : tv σ H fun y H1 => ta σ H1 fun x H2 => ∃ a C dx fs, x = .ref a ∧ H2 a = some (.ins C dx fs) ∧ Cls K C ∧ NoAttr K C f ∧ fs.length < 1000 ∧ D.nx σ (upd H2 a (.ins C dx (putF f y fs)))) : sFld K ta tv f D σ H := h
theorem go_sfldV {a C dx : Addr} {fs : List (Str × V)} {R : Hp → Prop} (e : H a = some (.ins C dx fs)) (l : fs.length < 1000) (c : Cls K C) (n : NoAttr K C f) (h : R (upd H a (.ins C dx (putF f v fs)))) :
    ∃ a' C' dx' fs', V.ref a = .ref a' ∧ H a' = some (.ins C' dx' fs') ∧ Cls K C' ∧ NoAttr K C' f ∧ fs'.length < 1000 ∧ R (upd H a' (.ins C' dx' (putF f v fs'))) := ⟨a, C, dx, fs, rfl, e, c, n, l, h⟩
theorem go_make {C : Addr} {sp : Sp} {E : XK} (h : ts σ H fun vs H1 => ∀ x dx, H1 x = none → H1 dx = none → dx ≠ x → sp (.ref x :: vs) (upd (upd H1 dx (.own x)) x (.ins C dx [])) (fun v H2 => v = .non ∧ Q (.ref x) H2) E) : tMake C sp [] E ts σ H Q := by
  unfold tMake
  simpa only [List.append_nil] using h
theorem go_meth {C : Addr} {m : Str} {sp : Sp} {E : XK} (h : ta σ H fun x H1 => ∃ a dx fs, x = .ref a ∧ H1 a = some (.ins C dx fs) ∧ fs.lookup m = none ∧ ts σ H1 fun vs H2 => sp (x :: vs) H2 Q E) : tMeth C m sp [] E ta ts σ H Q := by
  unfold tMeth
  simpa only [List.append_nil] using h
theorem go_methV {a C dx : Addr} {fs : List (Str × V)} {m : Str} {R : Prop} (e : H a = some (.ins C dx fs)) (l : fs.lookup m = none) (h : R) : ∃ a' dx' fs', V.ref a = .ref a' ∧ H a' = some (.ins C dx' fs') ∧ fs'.lookup m = none ∧ R := ⟨a, dx, fs, rfl, e, l, h⟩
/-- a new instance, by name -/
theorem allocI {C p dx : Addr} {H2 : Hp} (hu : upd (upd H dx (.own p)) p (.ins C dx []) = H2) (np : H p = none) (nd : H dx = none) (ne : dx ≠ p) : Ed [] H H2 ∧ H2 p = some (.ins C dx []) ∧ H2 dx = some (.own p) := by
  subst hu
  have n1 : (upd H dx (.own p)) p = none := by rw [upd_ne ne.symm]; exact np
  exact ⟨(Ed.new nd).ex (Ed.new n1), upd_same, by rw [upd_ne ne]; exact upd_same⟩
theorem go_dgetIF {a : Addr} {k : Int} {o : Obj} {kvs : List (Key × V)} {R : V → Prop} (e : H a = some (.frz o (.dK kvs))) (ev : valV kvs (.inl k) = some v) (h : R v) : ∃ a' v', V.ref a = .ref a' ∧ DGet H a' (.int k) (some v') ∧ R v' :=
  ⟨a, v, rfl, .inl ⟨kvs, .inl k, .inr ⟨o, e⟩, rfl, ev.symm⟩, h⟩
theorem go_sorted {a : Addr} {ns : List Int} (e : SqL K H a (ns.map V.int)) (l : ns.length < 64) (h : ∀ (ns' : List Int) (p : Addr), ns'.Perm ns → ns'.Pairwise (· ≤ ·) → H p = none → Q (.ref p) (upd H p (.lst (ns'.map V.int)))) : rSorted K [.ref a] H Q := ⟨a, ns, rfl, e, l, h⟩
theorem go_listD {a : Addr} {kvs : List (Key × V)} (e : H a = some (.dK kvs)) (h : ∀ q, H q = none → Q (.ref q) (upd H q (.lst (kvs.map fun kv => kV kv.1)))) : rListD [.ref a] H Q := ⟨a, kvs, rfl, e, h⟩
theorem go_lenD {a : Addr} {kvs : List (Key × V)} {R : List (Key × V) → Prop} (e : H a = some (.dK kvs)) (h : R kvs) : ∃ b ls, [V.ref a] = [V.ref b] ∧ H b = some (.dK ls) ∧ R ls := ⟨a, kvs, rfl, e, h⟩
theorem go_in {a : Addr} {neg : Bool} {xs : List V} (e : SqL K H a xs ∨ SqT K H a xs) (hx : flatV x = true) (hf : xs.all flatV = true) (h : Q (.bl (if neg then !inV x xs else inV x xs)) H) : rIn K neg x (.ref a) H Q := ⟨a, xs, rfl, e, hx, hf, h⟩
theorem go_inL {a : Addr} {xs : List V} (e : SqL K H a xs) (hx : flatV x = true) (hf : xs.all flatV = true) (h : Q (.bl (inV x xs)) H) : rIn K false x (.ref a) H Q := go_in (neg := false) (.inl e) hx hf h
theorem go_inT {a : Addr} {xs : List V} (e : SqT K H a xs) (hx : flatV x = true) (hf : xs.all flatV = true) (h : Q (.bl (inV x xs)) H) : rIn K false x (.ref a) H Q := go_in (neg := false) (.inr e) hx hf h
theorem go_niL {a : Addr} {xs : List V} (e : SqL K H a xs) (hx : flatV x = true) (hf : xs.all flatV = true) (h : Q (.bl (!inV x xs)) H) : rIn K true x (.ref a) H Q := go_in (neg := true) (.inl e) hx hf h
theorem go_niT {a : Addr} {xs : List V} (e : SqT K H a xs) (hx : flatV x = true) (hf : xs.all flatV = true) (h : Q (.bl (!inV x xs)) H) : rIn K true x (.ref a) H Q := go_in (neg := true) (.inr e) hx hf h
theorem go_dc {wi : TI} {tk : TE} {vs : List Nat} (h : wi σ H fun J H1 => ∀ D, H1 D = none → ∃ W : Nat → Nat → Hp → Prop, (∃ m, W 0 m (upd H1 D (.dK []))) ∧ ∀ i m H, W i m H →
  (J.stop i H ∧ Q (.ref D) H) ∨ (J.go i H ∧ ∃ Nx : Hp → Prop, (∀ H', Nx H' → ∃ m', m' < m ∧ W (i + 1) m' H') ∧ ∀ x H', J.yld i H x H' → g x (wipe σ vs) H' fun σ2 H2 => wipe σ2 vs = wipe σ vs ∧ tt σ2 H2 fun b H3 =>
    if b = true then tk σ2 H3 fun y H4 => tv σ2 H4 fun z H5 => ∃ kvs k, y = kV k ∧ H5 D = some (.dK kvs) ∧ kvs.length < sizeLine ∧ Nx (upd H5 D (.dK (putK kvs k z))) else Nx H3)) : tDc wi g tt tk tv vs σ H Q := h
theorem go_aug {n : Nat} {ti : TIp} {x : V} (e : σ[n]? = some (some x)) (h : te σ H fun y H1 => ti x y H1 fun z H2 => D.nx (σ.set n (some z)) H2) : tAug n te ti D σ H := ⟨x, e, h⟩
theorem go_ipI {f : Int → Int → Int} (h : Q (.int (f i j)) H) : ipI f (.int i) (.int j) H Q := ⟨i, j, rfl, rfl, h⟩
theorem go_addS {a b : Str} {R : Str → Str → Prop} (l : a.length + b.length ≤ 1000) (h : R a b) : ∃ i j, V.str a = .str i ∧ V.str b = .str j ∧ i.length + j.length ≤ sizeLine ∧ R i j := ⟨a, b, rfl, rfl, Nat.le_of_lt (small1000 l), h⟩
theorem go_M1 {r : V → List V → Hp → VK → Prop} (h : ta σ H fun x H1 => (∃ a, x = .str a) ∧ tb σ H1 fun y H2 => r x [y] H2 Q) : tM1 r ta tb σ H Q := h
theorem go_M0 {r : V → List V → Hp → VK → Prop} (h : ta σ H fun x H1 => (∃ a, x = .str a) ∧ r x [] H1 Q) : tM0 r ta σ H Q := h
theorem go_isS {z : Str} {R : Prop} (h : R) : (∃ a, V.str z = .str a) ∧ R := ⟨⟨z, rfl⟩, h⟩
theorem go_join {a : Str} {p : Addr} {ys : List Str} {R : Str → List Str → Prop} (e : SqL K H p (ys.map V.str)) (l : (ys.map (·.length)).sum + ys.length * a.length ≤ 16777216) (h : R a ys) :
    ∃ a' p', ∃ zs : List Str, V.str a = .str a' ∧ [V.ref p] = [.ref p'] ∧ (SqL K H p' (zs.map V.str) ∨ SqT K H p' (zs.map V.str)) ∧ (zs.map (·.length)).sum + zs.length * a'.length ≤ 16777216 ∧ R a' zs := ⟨a, p, ys, rfl, rfl, .inl e, l, h⟩
theorem go_sub {to ti : TE} {ts : TSet} {R : L2.St → Hp → Prop} (h : to σ H fun o H1 => ti σ H1 fun i H2 => ts o i v H2 fun H3 => R σ H3) : gSub to ti ts v σ H R := h
theorem go_setL {p : Addr} {xs : List V} {k : Int} {j : Nat} {R : Hp → Prop} (e : H p = some (.lst xs)) (hj : ixN xs.length k = some j) (h : R (upd H p (.lst (xs.set j v)))) : rSetL (.ref p) (.int k) v H R := ⟨p, xs, k, j, rfl, rfl, e, hj, h⟩
theorem go_tupL {p : Addr} {xs : List V} {R : Addr → Hp → Prop} (e : SqL K H p xs) (h : ∀ l, H l = none → R l (upd H l (.tup xs))) : ∃ p' ys, [V.ref p] = [.ref p'] ∧ ((SqL K H p' ys ∧ ∀ l, H l = none → R l (upd H l (.tup ys))) ∨ (SqT K H p' ys ∧ R p' H)) := ⟨p, xs, rfl, .inl ⟨e, h⟩⟩
theorem at_m1 {xs : List V} (h : xs[xs.length - 1]? = some v) : atI xs (-1) = some v := by
  have h0 : 0 < xs.length := by
    rcases Nat.eq_zero_or_pos xs.length with e | e
    · rw [List.eq_nil_of_length_eq_zero e] at h; cases h
    · exact e
  unfold atI ixN
  rw [if_neg (by omega), if_pos (by omega)]
  have : (-1 + (xs.length : Int)).toNat = xs.length - 1 := by omega
  show xs[(-1 + (xs.length : Int)).toNat]? = some v
  rw [this]; exact h
/-- a dict comprehension over n turns that give items one by one -/
theorem dc_by {J : It} {n : Nat} {G : Hp → Prop} {Y : Nat → Hp → V → Hp → Prop} {tk : TE} {vs : List Nat} {R : Addr → Hp → Prop} (w : Walk J n G Y) (Pv : Addr → Nat → Hp → Prop) (h0 : ∀ D H2, H D = none → Ed [] H H2 → H2 D = some (.dK []) → Pv D 0 H2) (hG : ∀ D i H', H D = none → i ≤ n → Pv D i H' → G H')
    (hs : ∀ D i x H1 H', H D = none → i < n → Pv D i H1 → Y i H1 x H' → g x (wipe σ vs) H' fun σ2 H2 => wipe σ2 vs = wipe σ vs ∧ tt σ2 H2 fun b H3 =>
      if b = true then tk σ2 H3 fun y H4 => tv σ2 H4 fun z H5 => ∃ kvs k, y = kV k ∧ H5 D = some (.dK kvs) ∧ kvs.length < sizeLine ∧ Pv D (i + 1) (upd H5 D (.dK (putK kvs k z))) else Pv D (i + 1) H3) (hd : ∀ D H', H D = none → Pv D n H' → R D H') :
    ∀ D, H D = none → ∃ W : Nat → Nat → Hp → Prop, (∃ m, W 0 m (upd H D (.dK []))) ∧ ∀ i m H, W i m H →
      (J.stop i H ∧ R D H) ∨ (J.go i H ∧ ∃ Nx : Hp → Prop, (∀ H', Nx H' → ∃ m', m' < m ∧ W (i + 1) m' H') ∧ ∀ x H', J.yld i H x H' → g x (wipe σ vs) H' fun σ2 H2 => wipe σ2 vs = wipe σ vs ∧ tt σ2 H2 fun b H3 =>
        if b = true then tk σ2 H3 fun y H4 => tv σ2 H4 fun z H5 => ∃ kvs k, y = kV k ∧ H5 D = some (.dK kvs) ∧ kvs.length < sizeLine ∧ Nx (upd H5 D (.dK (putK kvs k z))) else Nx H3) := fun D nD => by
  refine ⟨fun i m H' => m = n - i ∧ i ≤ n ∧ Pv D i H', ⟨n, by simp, Nat.zero_le _, h0 D _ nD (Ed.new nD) upd_same⟩, ?_⟩
  rintro i m H1 ⟨rfl, hi, p⟩
  have q := hG D i H1 nD hi p
  by_cases hlt : i < n
  · exact .inr ⟨w.goes i H1 hlt q, Pv D (i + 1), fun H' p' => ⟨n - (i + 1), by omega, rfl, hlt, p'⟩, fun x H' y => hs D i x H1 H' nD hlt p (w.yields i H1 x H' hlt q y)⟩
  · have : i = n := by omega
    subst this
    exact .inl ⟨w.stops H1 q, hd D H1 nD p⟩
theorem putK_le {κ : Type} [DecidableEq κ] (c : List (κ × V)) (k : κ) (x : V) : (putK c k x).length ≤ c.length + 1 := by
  unfold putK
  split
  · rw [List.length_map]; omega
  · rw [List.length_append]; simp
theorem all_sqt {a : Addr} {xs : List V} (h : ∀ H, SqT K H a xs) (H : Hp) : SqT K H a xs := h H
/-! ### a dict that is locked while it is walked -/
theorem frz' {S : List Addr} {H' : Hp} {a : Addr} {o : Obj} {u : HO} (e : Ed S H H') (h : H a = some (.frz o u)) : H' a = some (.frz o u) := e.frz _ _ _ h
/-- unlocked again: d is what it was, all else as it is -/
theorem unlock {S : List Addr} {d : Addr} {u : HO} {od : Obj} {H1 H' H2 : Hp} (h : H d = some u) (m : Mut (some u)) (e1 : upd H d (.frz od u) = H1) (e2 : Ed S H1 H') (e3 : upd H' d u = H2) :
    Ed S H H2 ∧ H2 d = some u ∧ ∀ a o, a ≠ d → H' a = some o → H2 a = some o := by
  subst e1 e3
  have nf : ∀ ob w, u ≠ .frz ob w := fun ob w z => by rw [z] at m; exact m
  have nt : ∀ xs, u ≠ .tup xs := fun xs z => by rw [z] at m; exact m
  refine ⟨⟨fun a o ha e => ?_, fun a xs e => ?_, fun a ob w e => ?_, fun a e => ?_⟩, upd_same, fun a o n e => by rw [upd_ne n]; exact e⟩
  · by_cases q : a = d
    · subst q; rw [h] at e; cases e; exact upd_same
    · rw [upd_ne q]; exact e2.keep a o ha (by rw [upd_ne q]; exact e)
  · by_cases q : a = d
    · subst q; rw [h] at e; cases e; exact (nt _ rfl).elim
    · rw [upd_ne q]; exact e2.tup a xs (by rw [upd_ne q]; exact e)
  · by_cases q : a = d
    · subst q; rw [h] at e; cases e; exact (nf _ _ rfl).elim
    · rw [upd_ne q]; exact e2.frz a ob w (by rw [upd_ne q]; exact e)
  · by_cases q : a = d
    · subst q; rw [upd_same] at e; cases e
    · rw [upd_ne q] at e
      have := e2.dom a e
      rw [upd_ne q] at this; exact this
/-- for k in d -/
theorem lock_keys {n : Nat} {d : Addr} {kvs : List (Key × V)} (hv : σ[n]? = some (some (.ref d))) (hd : H d = some (.dK kvs)) (S : List Addr) (Pv : Hp → Nat → L2.St → Hp → Prop) (hE : ∀ H1 i σ' H', Pv H1 i σ' H' → Ed S H1 H')
    (h0 : ∀ H1 od, Ed [d] H H1 → H1 d = some (.frz od (.dK kvs)) → Pv H1 0 σ H1)
    (turn : ∀ H1 od i k w σ' H', Ed [d] H H1 → H1 d = some (.frz od (.dK kvs)) → H' d = some (.frz od (.dK kvs)) → kvs[i]? = some (k, w) → Pv H1 i σ' H' →
      g (kV k) σ' H' fun σ2 H2 => t { nx := Pv H1 (i + 1), ct := Pv H1 (i + 1), rt := fun v H3 => H3 d = some (.frz od (.dK kvs)) ∧ D.rt v (upd H3 d (.dK kvs)), bk := fun σ3 H3 => H3 d = some (.frz od (.dK kvs)) ∧ D.nx σ3 (upd H3 d (.dK kvs)) } σ2 H2)
    (done : ∀ H1 σ' H' H2, Ed [d] H H1 → Pv H1 kvs.length σ' H' → Ed S H H2 → H2 d = some (.dK kvs) → (∀ a o, a ≠ d → H' a = some o → H2 a = some o) → D.nx σ' H2) : tLock (tFor (iKeys (tVar n)) g t) D σ H := by
  refine ⟨d, .dK kvs, hd, trivial, fun od => ?_⟩
  generalize hu : upd H d (.frz od (.dK kvs)) = H1
  obtain ⟨e1, h1⟩ := chg hu hd
  refine ⟨_, hv, d, od, rfl, .inl ⟨kvs, h1, for_it walk_keys (Pv H1) (h0 H1 od e1 h1) (fun i σ' H' _ p => (hE _ _ _ _ p).frz _ _ _ h1) (fun i x σ' H' H2 hi p y => ?_) fun σ' H' p => ?_⟩⟩
  · obtain ⟨rfl, k, w, hk, rfl⟩ := y
    exact turn H1 od i k w σ' H2 e1 h1 ((hE _ _ _ _ p).frz _ _ _ h1) hk p
  · obtain ⟨e2, h2, k2⟩ := unlock hd trivial hu (hE _ _ _ _ p) rfl
    exact ⟨(hE _ _ _ _ p).frz _ _ _ h1, done H1 σ' H' _ e1 p e2 h2 k2⟩
/-- [e for k in d] -/
theorem lockE_keys {n : Nat} {d : Addr} {kvs : List (Key × V)} {vs : List Nat} (hv : σ[n]? = some (some (.ref d))) (hd : H d = some (.dK kvs)) (S : List Addr) (Pv : Hp → Addr → Nat → Hp → Prop) (hE : ∀ H1 L i H', Pv H1 L i H' → Ed S H1 H')
    (h0 : ∀ H1 od L H2, Ed [d] H H1 → H1 d = some (.frz od (.dK kvs)) → H1 L = none → Ed [] H1 H2 → H2 L = some (.lst []) → Pv H1 L 0 H2)
    (turn : ∀ H1 od L i k w H', Ed [d] H H1 → H1 L = none → H' d = some (.frz od (.dK kvs)) → kvs[i]? = some (k, w) → Pv H1 L i H' →
      g (kV k) (wipe σ vs) H' fun σ2 H2 => wipe σ2 vs = wipe σ vs ∧ tt σ2 H2 fun b H3 => if b = true then te σ2 H3 fun y H4 => ∃ acc, H4 L = some (.lst acc) ∧ acc.length < sizeLine ∧ Pv H1 L (i + 1) (upd H4 L (.lst (acc ++ [y]))) else Pv H1 L (i + 1) H3)
    (done : ∀ H1 L H' H2, H L = none → Pv H1 L kvs.length H' → Ed S H H2 → H2 d = some (.dK kvs) → (∀ a o, a ≠ d → H' a = some o → H2 a = some o) → Q (.ref L) H2) : tLockE (tLc (iKeys (tVar n)) g tt te vs) σ H Q := by
  refine ⟨d, .dK kvs, hd, trivial, fun od => ?_⟩
  generalize hu : upd H d (.frz od (.dK kvs)) = H1
  obtain ⟨e1, h1⟩ := chg hu hd
  refine ⟨_, hv, d, od, rfl, .inl ⟨kvs, h1, fun L nL => lc_it walk_keys (Pv H1 L) (h0 H1 od L _ e1 h1 nL (Ed.new nL) upd_same) (fun i H' _ p => (hE _ _ _ _ p).frz _ _ _ h1) (fun i x H' H2 hi p y => ?_) fun H' p => ?_⟩⟩
  · obtain ⟨rfl, k, w, hk, rfl⟩ := y
    exact turn H1 od L i k w H2 e1 nL ((hE _ _ _ _ p).frz _ _ _ h1) hk p
  · obtain ⟨e2, h2, k2⟩ := unlock hd trivial hu (hE _ _ _ _ p) rfl
    exact ⟨(hE _ _ _ _ p).frz _ _ _ h1, done H1 L H' _ (e1.dom _ nL) p e2 h2 k2⟩
/-- y = [e for k in d] -/
theorem lockA_keys {n m : Nat} {d : Addr} {kvs : List (Key × V)} {vs : List Nat} (hv : σ[n]? = some (some (.ref d))) (hd : H d = some (.dK kvs)) (S : List Addr) (Pv : Hp → Addr → Nat → Hp → Prop) (hE : ∀ H1 L i H', Pv H1 L i H' → Ed S H1 H')
    (h0 : ∀ H1 od L H2, Ed [d] H H1 → H1 d = some (.frz od (.dK kvs)) → H1 L = none → Ed [] H1 H2 → H2 L = some (.lst []) → Pv H1 L 0 H2)
    (turn : ∀ H1 od L i k w H', Ed [d] H H1 → H1 L = none → H' d = some (.frz od (.dK kvs)) → kvs[i]? = some (k, w) → Pv H1 L i H' →
      g (kV k) (wipe σ vs) H' fun σ2 H2 => wipe σ2 vs = wipe σ vs ∧ tt σ2 H2 fun b H3 => if b = true then te σ2 H3 fun y H4 => ∃ acc, H4 L = some (.lst acc) ∧ acc.length < sizeLine ∧ Pv H1 L (i + 1) (upd H4 L (.lst (acc ++ [y]))) else Pv H1 L (i + 1) H3)
    (done : ∀ H1 L H' H2, H L = none → Pv H1 L kvs.length H' → Ed S H H2 → H2 d = some (.dK kvs) → (∀ a o, a ≠ d → H' a = some o → H2 a = some o) → D.nx (σ.set m (some (.ref L))) H2) : tLock (tAsg (tLc (iKeys (tVar n)) g tt te vs) (gName m)) D σ H := by
  refine ⟨d, .dK kvs, hd, trivial, fun od => ?_⟩
  generalize hu : upd H d (.frz od (.dK kvs)) = H1
  obtain ⟨e1, h1⟩ := chg hu hd
  refine ⟨_, hv, d, od, rfl, .inl ⟨kvs, h1, fun L nL => lc_it walk_keys (Pv H1 L) (h0 H1 od L _ e1 h1 nL (Ed.new nL) upd_same) (fun i H' _ p => (hE _ _ _ _ p).frz _ _ _ h1) (fun i x H' H2 hi p y => ?_) fun H' p => ?_⟩⟩
  · obtain ⟨rfl, k, w, hk, rfl⟩ := y
    exact turn H1 od L i k w H2 e1 nL ((hE _ _ _ _ p).frz _ _ _ h1) hk p
  · obtain ⟨e2, h2, k2⟩ := unlock hd trivial hu (hE _ _ _ _ p) rfl
    exact ⟨(hE _ _ _ _ p).frz _ _ _ h1, done H1 L H' _ (e1.dom _ nL) p e2 h2 k2⟩
end
end Vc

/-! Kw: method calls with keywords (my own; the way is pe_meth's and pe_callK's). -/
namespace Vc
open PySem PySem.Spec PyProof.Rows L2
section
variable {X : Cx} {CX : CXT} {k : Nat} {f C : Addr} {fd : FuncData} {ps ks : List Str} {sp : Sp} {E : XK} {x m : Str} {p pos apos : Pos} {e o : Expr} {es : List Expr} {kws : List Keyword} {ta : TE} {t tk : TA} {g : List Value → List Value → List Value} {gV : List V → List V → List V}
theorem kbinds {K : PySem.W.Frag} {x qual : Str} {st : Stmt} (F : Fun K x qual st f fd)
    (h : ∀ (kV doc pm : Value) (an : Option Addr) (cdv ct : Value) (us ws : List Value), (g us ws).length = ps.length → bindArgs (PySem.W.fnOf x qual (defArgs st) (defBody st) (defScope st) .none kV doc pm an cdv ct) ⟨us, ks.zip ws⟩ = pure (ps.zip (g us ws)))
    (rel : ∀ {vs : List V} {us : List Value} {zs : List V} {ws : List Value}, Vals vs us → Vals zs ws → Vals (gV vs zs) (g us ws)) : KBinds K fd ps ks g gV := by
  obtain ⟨oc, od, kV, doc, pm, an, cdv, ct, osl, rfl, lk, hcd⟩ := F.ex
  exact ⟨fun s us ws _ hl => .of_eq (h kV doc pm an cdv ct us ws hl), rel⟩
def tMethK (C : Addr) (m : Str) (sp : Sp) (gV : List V → List V → List V) (E : XK) (ta : TE) (t tk : TA) : TE := fun σ H Q => ta σ H fun x H1 => ∃ a dx fs, x = .ref a ∧ H1 a = some (.ins C dx fs) ∧ fs.lookup m = none ∧ t σ H1 fun vs H2 => tk σ H2 fun zs H3 => sp (gV (x :: vs) zs) H3 Q E
/-- o.m(k = v, ..) -/
theorem pe_methK0 {pl : Sem Bool} (he : PE X o ta) (c : Cls X.K C) (hm : Meth X.K C m f) (F : FnOk X.prog X.w X.K X.mg X.base CX k f fd ps sp) (hr : Room k X.A) (hb : KBinds X.K fd ps ks g gV) (hx : Passes CX X E) (hkw : PK X kws tk)
    (hall : (backToKw pos (keywordEach kws X.env)).all (·.1.isSome) = true := by rfl) (hks : (backToKw pos (keywordEach kws X.env)).filterMap (·.1) = ks := by rfl)
    (hpl : ((backTo pos (starEach [] X.env)).any (·.1) || (backToKw pos (keywordEach kws X.env)).any (·.1.isNone)) = false := by rfl)
    (ht : eval (.Call (.Attribute o m apos) [] kws pos) X.env = (do
      let ov ← eval o X.env
      standAt apos.atName
      let (f, first) ← holding [ov] (getMethod ov m pl)
      callWith pos f first (backTo pos (starEach [] X.env)) (backToKw pos (keywordEach kws X.env))) := by rfl) :
    PE X (.Call (.Attribute o m apos) [] kws pos) (tMethK C m sp gV E ta tNil tk) := by
  refine ⟨fun pins s σ H Q I h => ?_⟩
  refine PySem.W.methodCall_KW (pl := pl) (thn (he.run pins s σ H _ I h) fun u s1 ⟨x, H1, I1, rx, a, dx, fs, ex, ea, l, q⟩ => ?_) ht
  subst ex
  obtain rfl : u = Value.ref a := rx
  refine getmeth_ok I1 ea c hm l ?_
  refine PySem.W.callWith_KW0 (first := [.ref a]) (h₀ := X.base) I.ok.mod.kin hm.kp hall (thn (hkw.run pos pins s1 σ H1 _ I1 q) fun ws s2 ⟨zs, H2, I2, rz, q2⟩ => ⟨I2.kIn, ?_⟩) hpl
  rw [hks]
  exact run_fnk (us := [.ref a]) (vs := [.ref a]) F hr hb hx I2 (.cons rfl .nil) rz q2
/-- o.m(e, .., k = v, ..) -/
theorem pe_methK {pl : Sem Bool} (he : PE X o ta) (c : Cls X.K C) (hm : Meth X.K C m f) (F : FnOk X.prog X.w X.K X.mg X.base CX k f fd ps sp) (hr : Room k X.A) (hb : KBinds X.K fd ps ks g gV) (hx : Passes CX X E) (ha : PA X (e :: es) t) (hkw : PK X kws tk)
    (hall : (backToKw pos (keywordEach kws X.env)).all (·.1.isSome) = true := by rfl) (hks : (backToKw pos (keywordEach kws X.env)).filterMap (·.1) = ks := by rfl)
    (hst : starEach (e :: es) X.env = (false, eval e X.env) :: starEach es X.env := by rfl)
    (hpl : ((backTo pos (starEach (e :: es) X.env)).any (·.1) || (backToKw pos (keywordEach kws X.env)).any (·.1.isNone)) = false := by rfl)
    (ht : eval (.Call (.Attribute o m apos) (e :: es) kws pos) X.env = (do
      let ov ← eval o X.env
      standAt apos.atName
      let (f, first) ← holding [ov] (getMethod ov m pl)
      callWith pos f first (backTo pos (starEach (e :: es) X.env)) (backToKw pos (keywordEach kws X.env))) := by rfl) :
    PE X (.Call (.Attribute o m apos) (e :: es) kws pos) (tMethK C m sp gV E ta t tk) := by
  refine ⟨fun pins s σ H Q I h => ?_⟩
  refine PySem.W.methodCall_KW (pl := pl) (thn (he.run pins s σ H _ I h) fun u s1 ⟨x, H1, I1, rx, a, dx, fs, ex, ea, l, q⟩ => ?_) ht
  subst ex
  obtain rfl : u = Value.ref a := rx
  refine getmeth_ok I1 ea c hm l ?_
  refine PySem.W.callWith_KW (first := [.ref a]) (h₀ := X.base) I.ok.mod.kin hm.kp hall (thn (ha.run pos pins s1 σ H1 _ I1 q) fun us s2 ⟨vs, H2, I2, r, q2⟩ => ?_) hpl hst
  refine thn (hkw.run pos pins s2 σ H2 _ I2 q2) fun ws s3 ⟨zs, H3, I3, rz, q3⟩ => ⟨I3.kIn, ?_⟩
  rw [hks]
  exact run_fnk (us := .ref a :: us) (vs := .ref a :: vs) F hr hb hx I3 (.cons rfl r) rz q3
end
section
variable {σ : L2.St} {H : Hp} {Q : VK} {ta : TE} {ts tk : TA} {C : Addr} {m : Str} {sp : Sp} {E : XK} {gV : List V → List V → List V}
theorem go_methK (h : ta σ H fun x H1 => ∃ a dx fs, x = .ref a ∧ H1 a = some (.ins C dx fs) ∧ fs.lookup m = none ∧ ts σ H1 fun vs H2 => tk σ H2 fun zs H3 => sp (gV (x :: vs) zs) H3 Q E) : tMethK C m sp gV E ta ts tk σ H Q := h
theorem go_callK (h : ts σ H fun vs H1 => tk σ H1 fun zs H2 => sp (gV vs zs) H2 Q E) : tCallK sp gV E ts tk σ H Q := h
end
end Vc

/-! Sup: an own exception over own classes over ValueError, whose __init__ begins super().__init__('text') (my own; ways of HandS.Call's fn_of, HandS.ExcInit and KE.KExcSuper). -/
namespace Vc
open PySem PySem.Spec PyProof.Rows L2 PySem.W
/-- a def with the free cell __class__ -/
structure SupScope (N P : List Str) (sc : Scope) : Prop where
  kind : sc.kind = .function
  co : sc.isCoroutine = false
  gen : sc.isGenerator = false
  nd : N.Nodup
  pre : N.take P.length = P
  par : ∀ x ∈ P, sc.names.lookup x = some .local
  nocell : ∀ y ∈ sc.names, y.2 ≠ .cell
  free1 : ∀ y ∈ sc.names, y.2 = .free → y.1 = "__class__"
  cls : sc.names.lookup ("__class__" : Str) = some .free
  sup : sc.names.lookup ("super" : Str) = some .globalImplicit
/-- the context of such a def's body -/
def cxS (cm : Bool) (CX : CXT) (P : Program) (w : World) (K : PySem.W.Frag) (mg : Str → Option Value) (base : Heap) (N : List Str) (qual : Str) (scope : Scope) (f : Addr) (cd : Value) (cc : Addr) (A : Around) (outer : List Env) (s : Shared) (H : Hp) (E : XK) : Cx where
  prog := P
  w := w
  K := K
  mg := mg
  base := base
  A := A.deeper (ksEnv qual scope s.heap.objs.size f cd cc)
  N := N
  s_0 := s
  H_0 := H
  env := ksEnv qual scope s.heap.objs.size f cd cc
  outer := outer
  stack := ksEnv qual scope s.heap.objs.size f cd cc :: outer
  ex := []
  calm := cm
  fn := fun y => !(y == ("__class__" : Str))
  pn := []
  xe := fun e s' => wpAny (model P w) (A.deeper (ksEnv qual scope s.heap.objs.size f cd cc)) (leaving (ksEnv qual scope s.heap.objs.size f cd cc) e) (fun _ s'' => CX outer H s E e s'') (fun e' s'' => CX outer H s E e' s'') s'
theorem cell1 {x : Str} {c cc : Addr} (h : List.lookup x [(("__class__" : Str), cc)] = some c) : x = "__class__" ∧ c = cc := by
  by_cases e : (x == ("__class__" : Str)) = true
  · rw [List.lookup_cons, e] at h
    exact ⟨eq_of_beq e, (Option.some.inj h).symm⟩
  · rw [List.lookup_cons, Bool.eq_false_iff.mpr e] at h
    cases h
theorem lookup_rev : ∀ {ps : List Str} {us : List Value} {i : Nat} {y : Str} {u : Value}, ps.Nodup → ps[i]? = some y → us[i]? = some u → (ps.zip us).reverse.lookup y = some u := by
  have key : ∀ {l : List (Str × Value)} {y : Str} {u : Value}, (l.map (·.1)).Nodup → (y, u) ∈ l → l.lookup y = some u := by
    intro l
    induction l with
    | nil => intro y u _ h; cases h
    | cons p r ih =>
      intro y u nd h
      rw [List.map_cons, List.nodup_cons] at nd
      rcases List.mem_cons.mp h with e | h
      · subst e; simp [List.lookup]
      · have ne : (y == p.1) = false := by
          rw [beq_eq_false_iff_ne]
          intro e
          exact nd.1 (e ▸ List.mem_map.mpr ⟨(y, u), h, rfl⟩)
        rw [List.lookup_cons, ne]
        exact ih nd.2 h
  intro ps us i y u nd h1 h2
  refine key ?_ ?_
  · rw [List.map_reverse]
    refine List.pairwise_reverse.mpr ?_
    have h3 : ((ps.zip us).map (·.1)).Nodup := nd.sublist (by
      have : (ps.zip us).map (·.1) = ps.take us.length := by
        clear key h1 h2 nd
        induction ps generalizing us with
        | nil => simp
        | cons p r ih =>
          cases us with
          | nil => simp
          | cons u t => simp [ih]
      rw [this]
      exact List.take_sublist _ _)
    exact h3.imp fun h => h.symm
  · rw [List.mem_reverse]
    refine List.mem_iff_getElem?.mpr ⟨i, ?_⟩
    rw [List.getElem?_zip_eq_some]
    exact ⟨h1, h2⟩
theorem inv_sup {cm : Bool} {CX : CXT} {P : Program} {w : World} {K : PySem.W.Frag} {mg : Str → Option Value} {base : Heap} {N ps : List Str} {qual : Str} {scope : Scope} {f cc : Addr} {cd : Value} {A : Around} {outer : List Env} {s : Shared} {H : Hp} {E : XK} {us : List Value} {vs : List V} {h1 : Heap} {tk : Nat} {oc cv : Value} {od : Option Addr} {sl : Array (Option Value)}
    (S : SupScope N ps scope) (hd : cm = true → A.handled = none) (e0 : Env0 P w K mg base A outer s H) (hl : vs.length = ps.length) (r : Vals vs us) (hcell : K.lookup cc = some ⟨oc, od, .cell (some cv), sl⟩)
    (ns : h1.Ns s.heap.objs.size (fun x => (ps.zip us).reverse.lookup x)) (hk : ∀ b o, s.heap.get? b = some o → h1.get? b = some o) :
    Inv (cxS cm CX P w K mg base N qual scope f cd cc A outer s H E) [] (start N vs) H { s with heap := h1, toks := tk } := by
  have hpl : ps.length ≤ N.length := by have := congrArg List.length S.pre; rw [List.length_take] at this; omega
  have hK : base.get? cc = some ⟨oc, od, .cell (some cv), sl⟩ := e0.mod.kin _ _ hcell
  have hs := e0.bs _ _ hK
  refine ⟨⟨e0.mod, S.kind, rfl, rfl, Nat.le_refl _, fun y z c h1 h2 => ?_, fun y hy => ?_, fun y c hf h => ?_, hd, Around.frames_deeper e0.frames, .inr ⟨rfl, rfl⟩, fun b z => absurd (show b ∈ ([] : List Addr) from z) (by simp), e0.bs, e0.bsz, fun b _ _ z => absurd (show b ∈ ([] : List Addr) from z) (by simp), fun b z => absurd (show b ∈ ([] : List Addr) from z) (by simp), e0.funs, e0.frf⟩,
    rfl, e0.bare, Un.kept hk, ⟨_, ns, fun i y v h1 h2 h3 => ?_⟩, fun y c h => ?_, e0.hok.fresh (Nat.le_refl _), fun y c h => ?_, fun p hp => absurd (show p ∈ ([] : List (Addr × Obj)) from hp) (by simp), e0.hok.kept hk, ?_⟩
  · exact (cell1 h1).1.trans (cell1 h2).1.symm
  · have hy : scope.names.lookup y = some .cell ∨ scope.names.lookup y = some .free := hy
    rcases hy with hy | hy
    · exact absurd rfl (S.nocell _ (PySem.mem_of_lookup hy))
    · have := S.free1 _ (PySem.mem_of_lookup hy) rfl
      have : y = "__class__" := this
      subst this
      exact ⟨cc, by show List.lookup _ [_] = _; simp [List.lookup]⟩
  · have := (cell1 h).1
    subst this
    cases (show (!((("__class__" : Str)) == ("__class__" : Str))) = true from hf)
  · have hi : i < vs.length := by
      unfold L2.start at h2
      by_cases hi : i < vs.length
      · exact hi
      · rw [List.getElem?_append_right (by simpa using hi)] at h2
        rw [List.getElem?_replicate] at h2
        split at h2 <;> cases h2
    have ha : vs[i]? = some v := by
      unfold L2.start at h2
      rw [List.getElem?_append_left (by simpa using hi), List.getElem?_map] at h2
      cases e : vs[i]? with
      | none => rw [e] at h2; cases h2
      | some a => rw [e] at h2; cases h2; rfl
    obtain ⟨u, hu, rv⟩ := r.get ha
    have hp : ps[i]? = some y := by
      rw [← S.pre, List.getElem?_take_of_lt (by omega)]; exact h1
    have ndP : ps.Nodup := by rw [← S.pre]; exact S.nd.sublist (List.take_sublist _ _)
    exact ⟨u, rv, .inl ⟨S.par y (List.mem_of_getElem? hp), lookup_rev ndP hp hu⟩⟩
  · rw [(cell1 h).2]
    exact ⟨_, _, hk _ _ hs.1, rfl⟩
  · rw [(cell1 h).2]
    exact hs.2
  · unfold L2.start
    show _ = N.length
    rw [List.length_append, List.length_map, List.length_replicate]
    omega
section
variable {prog : Program} {w : World} {A : Around} {E : Value → Shared → Prop} {h : Heap} {g : Array GenState} {d : Drawn} {t : Nat} {os : OsState}
variable {nm q : Str} {C N : Addr} {bs bm : List Value} {hdct : Bool} {sn : List Str} {sub : List Value} {ab : Bool} {col : Option Bool} {dd : Option Addr} {k0 k1 k2 k3 k5 : Option Value}
/-- the bound ValueError.__init__ called -/
theorem call_bv {u e t0 : Addr} {rest : List Value} {Q : Value → Shared → Prop}
    (hC : h.get? C = some (excClassObj nm q C N bs bm hdct sn sub ab col dd k0 k1 k2 k3 k5 "ValueError.__new__")) (he : h.get? e = some (HandSPX.excO C t0)) (hu : h.get? u = some (kxs_mw "ValueError.__init__" e)) (hrest : rest.length ≤ sizeLine)
    (hq : ∀ h' t1, (∀ b o, b ≠ e → h.get? b = some o → h'.get? b = some o) → h'.get? e = some (HandSPX.excO C t1) → Q .none ⟨h', g, d, t, os⟩) :
    wpAny (model prog w) A (call (.ref u) rest) Q E ⟨h, g, d, t, os⟩ := by
  refine wpAny_call (codeAny_of_tree ?_)
  show wpAny _ A.in1 (callAny (.ref u) ⟨rest, []⟩) _ _ _
  simp only [callAny]
  refine wpAny_bind (wpAny_load hu ?_)
  simp only [kxs_mw, show (Value.type "method-wrapper" == Value.type "method" || Value.type "method-wrapper" == Value.type "builtin_function_or_method" || Value.type "method-wrapper" == Value.type "method-wrapper") = true by decide, if_true]
  refine W.KFB.if_so (by decide) ?_
  refine wpAny_bind (check_bound_init F.excBase_ValueError.toExcCallFacts hC he rfl ?_)
  refine wpAny_bind (wpAny_pure (wpAny_pure ?_))
  refine ⟨Code.quiet_builtin _ (by decide +kernel), codeAny_builtin F.excBase_ValueError.initEntry ?_⟩
  rw [Around.under_plainId F.excBase_ValueError.init.plain _]
  wp_walk
  refine hq _ h.objs.size (fun b o hb ho => ?_) ?_
  · rw [Heap.get?_update_other _ _ (Ne.symm hb)]
    exact Heap.get?_push_of_some _ ho
  · rw [Heap.get?_update_self _ (Heap.get?_push_of_some _ he) rfl]
    rfl
end
/-- what super() asks for in the __init__ of the class at C -/
structure SupF (P : Program) (K : PySem.W.Frag) (mg : Str → Option Value) (f cda cc C : Addr) (fd : FuncData) (sv : Str) : Prop where
  lk : ∃ oc od sl, K.lookup f = some ⟨oc, od, .func fd, sl⟩
  par : ∃ ar : Arg, (fd.params.posonlyargs ++ fd.params.args).head? = some ar ∧ ar.arg = sv
  code : ∃ ccl cdd vs ccs file tf, K.lookup cda = some ⟨ccl, cdd, .fields vs, ccs⟩ ∧ vs[2]? = some (.str file tf) ∧ ((P.main.file : Str) == file) = true
  cell : ∃ cl cld csl, K.lookup cc = some ⟨cl, cld, .cell (some (.ref C)), csl⟩
  sub : mroIn K C (.ref C) = some true
  init : ks_superIn K C C "__init__" = some (some (.builtin "ValueError.__init__"))
  subV : subIn K (.ref C) (.type "ValueError") = some true
  nosup : mg "super" = none
  noop : nsIn K cStatics "thirdparty.any" = some none
  top : (P.main.scope.names.lookup ("super" : Str)).isSome = false
section
variable {cm : Bool} {CX : CXT} {P : Program} {w : World} {K : PySem.W.Frag} {mg : Str → Option Value} {base : Heap} {N ps : List Str} {qual : Str} {scope : Scope} {f cc cda C a : Addr} {A : Around} {outer : List Env} {s0 s : Shared} {H0 H : Hp} {E0' : XK} {pins : List (Addr × Obj)} {σ : L2.St} {fd : FuncData} {sv : Str} {body : List Stmt} {p0 p1 ap cp pos spos : Pos} {x : Str} {nk : Nat} {pl : Sem Bool}
theorem sup_stmt {e : Expr} {Q : Flow → Shared → Prop} (S : SupScope N ps scope) (SF : SupF P K mg f cda cc C fd sv) (T : OexC K C) (I : Inv (cxS cm CX P w K mg base N qual scope f (.ref cda) cc A outer s0 H0 E0') pins σ H s) (hN : N[0]? = some sv) (hself : scope.names.lookup sv = some .local) (hσ : σ[0]? = some (some (.ref a))) (ea : H a = some (exo a C none))
    (he : PE (cxS cm CX P w K mg base N qual scope f (.ref cda) cc A outer s0 H0 E0') e (tC (.str x))) (h : ∀ s', Inv (cxS cm CX P w K mg base N qual scope f (.ref cda) cc A outer s0 H0 E0') pins σ H s' → Q .next s')
    (hi : interactive (ksEnv qual scope s0.heap.objs.size f (.ref cda) cc) = false)
    (hs : swapsWith (.Call (.Attribute (.Call (.Name "super" p0) [] [] p1) "__init__" ap) [e] [] pos) none spos.line (ksEnv qual scope s0.heap.objs.size f (.ref cda) cc) = pure false)
    (hst : starEach [e] (ksEnv qual scope s0.heap.objs.size f (.ref cda) cc) = (false, eval e (ksEnv qual scope s0.heap.objs.size f (.ref cda) cc)) :: starEach [] (ksEnv qual scope s0.heap.objs.size f (.ref cda) cc))
    (ht : eval (.Call (.Attribute (.Call (.Name "super" p0) [] [] p1) "__init__" ap) [e] [] pos) (ksEnv qual scope s0.heap.objs.size f (.ref cda) cc) = (do
      let ov ← attributeBase (.Call (.Name "super" p0) [] [] p1) "__init__" (ksEnv qual scope s0.heap.objs.size f (.ref cda) cc) (eval (.Call (.Name "super" p0) [] [] p1) (ksEnv qual scope s0.heap.objs.size f (.ref cda) cc))
      standAt ap.atName
      let (fm, first) ← holding [ov] (getMethod ov "__init__" pl)
      callWith pos fm first (backTo pos (starEach [e] (ksEnv qual scope s0.heap.objs.size f (.ref cda) cc))) (backToKw pos (keywordEach [] (ksEnv qual scope s0.heap.objs.size f (.ref cda) cc))))) :
    _root_.PySem.wpAt (model P w) (cxS cm CX P w K mg base N qual scope f (.ref cda) cc A outer s0 H0 E0').A (.func body (ksEnv qual scope s0.heap.objs.size f (.ref cda) cc)) (exec (.Expr (.Call (.Attribute (.Call (.Name "super" p0) [] [] p1) "__init__" ap) [e] [] pos) spos) (ksEnv qual scope s0.heap.objs.size f (.ref cda) cc)) Q (cxS cm CX P w K mg base N qual scope f (.ref cda) cc A outer s0 H0 E0').xe s := by
  obtain ⟨_, _, _, lkf⟩ := SF.lk
  obtain ⟨ar, hp, rfl⟩ := SF.par
  obtain ⟨_, _, vs, _, file, tf, lkc, hvs, hfile⟩ := SF.code
  obtain ⟨_, _, _, lkl⟩ := SF.cell
  have KX : K.In s.heap := I.kIn
  refine ks_wpAt_Expr_any ?_ hi hs
  refine ks_wpAt_MethodCall (pl := pl) ?_ ht
  refine ks_wpAt_super_base (env := ksEnv qual scope s0.heap.objs.size f (.ref cda) cc) S.sup S.cls (by decide) rfl (KX _ _ lkf) rfl hp rfl (KX _ _ lkc) rfl hvs hfile SF.top ?_
  obtain ⟨mb, hb1, hb2⟩ := I.mod.blt
  have hboot : bootBuiltins "super" = some (.type "super") := by decide +kernel
  refine ks_loadName_global S.kind S.sup (Calls.loadGlobal_builtin (I.mod.glob.keeps I.bk) SF.nosup (hb1.keeps I.bk) ((hb2 "super" (by decide)).trans hboot) ⟨rfl, ?_⟩)
  refine wpAny_loadName_free S.kind S.cls (c := cc) (by simp [List.lookup]) ⟨_, KX _ _ lkl, rfl⟩ ?_
  obtain ⟨m, ns, hm⟩ := id I.loc
  obtain ⟨u, ru, lu⟩ := hm 0 _ _ hN hσ (.inl hself)
  obtain rfl : u = Value.ref a := ru
  have hma : m ar.arg = some (.ref a) := by
    rcases lu with ⟨_, e⟩ | ⟨k | k, _⟩
    · exact e
    · have k : scope.names.lookup ar.arg = some .cell := k
      rw [hself] at k; cases k
    · have k : scope.names.lookup ar.arg = some .free := k
      rw [hself] at k; cases k
  refine wpAny_loadName_local S.kind hself ns hma ?_
  obtain ⟨nm, q, Nn, bs, bm, sn, sub, ab, col, dd, k0, k1, k2, k3, k5, hC, hbm⟩ := T.cls
  obtain ⟨t1, ho⟩ := exo_at I.hok ea
  have hCh := KX _ _ hC
  obtain ⟨hh, g, d, t, os⟩ := s
  refine ks_wpAny_isType_cls hCh rfl ⟨rfl, ?_⟩
  refine ks_wpAny_call_super hCh rfl ho rfl (fun c z => by cases z) (looks_mroIn KX SF.sub) fun h' hso hk => ?_
  have KX' : K.In h' := KX.keeps hk
  have hcl : clsIn K C = some { name := nm, bases := bs, mro := .ref C :: bm, ns := Nn, qualname := q, hasDict := true, slotNames := sn, subclasses := sub, abstract := ab, collection := col, hasDel := false } := by unfold clsIn; rw [hC] <;> rfl
  have IA : InstAt h' a { cls := .ref C, dict := none, data := .fields #[.ref t1, .none, .none, .none, .bool false, .none] } C none := ⟨hk _ _ ho, rfl, rfl, trivial⟩
  have hsi := SF.init
  unfold ks_superIn at hsi
  rw [hcl, Option.bind_some] at hsi
  refine kxs_getMethod kxs_ValueError hso (looks_opaque KX' SF.noop) (l₀ := .ref C :: bm) ?_ rfl KX' hsi (IA.type.andThen (looks_subIn KX' SF.subV)) (ks_ne KX' IA hcl) (by decide) ?_
  · exact fun A Q E s k q => wpAny_bind ((looks_clsIn KX' hcl) A _ E s k (wpAny_pure q))
  have hk2 : ∀ b o, hh.get? b = some o → (h'.push (kxs_mw "ValueError.__init__" a)).get? b = some o := fun b o z => Heap.get?_push_of_some _ (hk b o z)
  have I2 : Inv (cxS cm CX P w K mg base N qual scope f (.ref cda) cc A outer s0 H0 E0') pins σ H ⟨h'.push (kxs_mw "ValueError.__init__" a), g, d, t + 1, os⟩ := I.kept (t' := t + 1) hk2
  have hu : (h'.push (kxs_mw "ValueError.__init__" a)).get? h'.objs.size = some (kxs_mw "ValueError.__init__" a) := Heap.get?_push_at rfl rfl
  have hsz : hh.objs.size ≤ h'.objs.size := Nat.le_of_lt (Nat.lt_of_le_of_lt (Nat.le_refl _) (Heap.lt_size hso))
  have I3 := I2.pins_of (pins' := (h'.objs.size, kxs_mw "ValueError.__init__" a) :: pins) fun p hp => by
    rcases List.mem_cons.mp hp with e | hp
    · subst e
      exact ⟨hu, I.hok.fresh hsz, fun z => absurd (Nat.lt_of_lt_of_le I.lt hsz) (by have z : h'.objs.size = _ := z; rw [z]; exact Nat.lt_irrefl _), I.nofs hsz, fun v z => by cases z⟩
    · exact I2.pin p (List.mem_append_right _ hp)
  have hev := (pa_cons he pa_nil (hs := hst)).run pos _ _ σ H (fun vs H1 => vs = [.str x] ∧ H1 = H) I3 ⟨rfl, rfl⟩
  have hst2 : starEach [e] (cxS cm CX P w K mg base N qual scope f (.ref cda) cc A outer s0 H0 E0').env = (false, eval e (cxS cm CX P w K mg base N qual scope f (.ref cda) cc A outer s0 H0 E0').env) :: starEach [] (cxS cm CX P w K mg base N qual scope f (.ref cda) cc A outer s0 H0 E0').env := hst
  rw [hst2] at hev
  show wpAny _ _ (callWith pos (.ref h'.objs.size) [] (backTo pos (starEach [e] (ksEnv qual scope s0.heap.objs.size f (.ref cda) cc))) []) _ _ _
  rw [hst]
  refine kxs_callWith (i := "ValueError.__init__") (x := a) (by rfl) ?_
  refine PySem.Calls.evalArgs_plain (thn hev fun us s1 ⟨vs, H1, I4, r1, ev, eH⟩ => ?_)
  subst ev eH
  have hu4 := (I4.pin (h'.objs.size, kxs_mw "ValueError.__init__" a) (List.mem_append_right _ (List.mem_cons_self ..))).1
  refine ⟨hu4, ?_⟩
  have I5 : Inv (cxS cm CX P w K mg base N qual scope f (.ref cda) cc A outer s0 H0 E0') pins σ H1 s1 := I4.pins_of fun p hp => I4.pin p (List.mem_append_right _ (List.mem_cons_of_mem _ hp))
  have hC5 := I5.kIn _ _ hC
  obtain ⟨t5, ho5⟩ := exo_at I5.hok ea
  obtain ⟨hh5, g5, d5, tk5, os5⟩ := s1
  have hlen : us.length = 1 := by rw [← Paired.length r1]; rfl
  refine call_bv (rest := [] ++ us) hC5 ho5 hu4 (by rw [List.nil_append, hlen, sizeLine_eq]; omega) fun h6 t6 k6 hx6 => ?_
  have J := I5.write (t' := tk5) (x := a) (e := a) (o := exo a C none) (by rw [ea]; exact True.intro) (.inl rfl) k6 ⟨_, hx6⟩ (exo_ok hx6)
  have eu : upd H1 a (exo a C none) = H1 := by
    funext b
    by_cases hb : b = a
    · rw [hb, upd_same, ea]
    · rw [upd_ne hb]
  rw [eu] at J
  exact h _ J
/-- as Fun, for a def with the free cell __class__ at cc -/
structure FunS (P : Program) (K : PySem.W.Frag) (mg : Str → Option Value) (x qual : Str) (st : Stmt) (f : Addr) (fd : FuncData) (C : Addr) (sv : Str) : Prop where
  ex : ∃ (oc : Value) (od : Option Addr) (kV doc pm : Value) (an : Option Addr) (cda cc : Addr) (ct : Value) (osl : Array (Option Value)),
    fd = ksFn x qual (defArgs st) (defBody st) (defScope st) .none kV doc pm an (.ref cda) ct cc ∧ K.lookup f = some ⟨oc, od, .func fd, osl⟩ ∧ PySem.W.codeIn K (.ref cda) qual = true ∧ SupF P K mg f cda cc C fd sv
  kp : PySem.W.keepIn K (.ref f) = true
theorem FunS.code (cm : Bool) {P : Program} {w : World} {K : PySem.W.Frag} {mg : Str → Option Value} {base : Heap} {CX : CXT} {x qual : Str} {st : Stmt} {rest : List Stmt} {f C : Addr} {fd : FuncData} {sv : Str} {N ps : List Str} {sp : Sp} {e : Expr} {z : Str} {p0 p1 ap pos spos : Pos} {pl : Sem Bool}
    (F : FunS P K mg x qual st f fd C sv) (S : SupScope N ps (defScope st)) (T : OexC K C) (hb : defBody st = .Expr (.Call (.Attribute (.Call (.Name "super" p0) [] [] p1) "__init__" ap) [e] [] pos) spos :: rest) (hN : N[0]? = some sv) (hself : (defScope st).names.lookup sv = some .local)
    (len : ∀ vs H Q E, sp vs H Q E → vs.length = ps.length)
    (hE : ∀ (X : Cx), PE X e (tC (.str z)))
    (hi : ∀ L cd cc, interactive (ksEnv qual (defScope st) L f cd cc) = false)
    (hs : ∀ L cd cc, swapsWith (.Call (.Attribute (.Call (.Name "super" p0) [] [] p1) "__init__" ap) [e] [] pos) none spos.line (ksEnv qual (defScope st) L f cd cc) = pure false)
    (hst : ∀ L cd cc, starEach [e] (ksEnv qual (defScope st) L f cd cc) = (false, eval e (ksEnv qual (defScope st) L f cd cc)) :: starEach [] (ksEnv qual (defScope st) L f cd cc))
    (ht : ∀ L cd cc, eval (.Call (.Attribute (.Call (.Name "super" p0) [] [] p1) "__init__" ap) [e] [] pos) (ksEnv qual (defScope st) L f cd cc) = (do
      let ov ← attributeBase (.Call (.Name "super" p0) [] [] p1) "__init__" (ksEnv qual (defScope st) L f cd cc) (eval (.Call (.Name "super" p0) [] [] p1) (ksEnv qual (defScope st) L f cd cc))
      standAt ap.atName
      let (fm, first) ← holding [ov] (getMethod ov "__init__" pl)
      callWith pos fm first (backTo pos (starEach [e] (ksEnv qual (defScope st) L f cd cc))) (backToKw pos (keywordEach [] (ksEnv qual (defScope st) L f cd cc)))))
    (hbody : ∀ (cda cc : Addr) (A : Around) (outer : List Env) (s : Shared) (H : Hp) (vs : List V) (Q : VK) (E : XK), sp vs H Q E →
      ∃ a, vs[0]? = some (.ref a) ∧ H a = some (exo a C none) ∧ ∃ t, PSs (cxS cm CX P w K mg base N qual (defScope st) f (.ref cda) cc A outer s H E) rest t ∧ t { nx := fun _ H' => Q .non H', rt := Q } (start N vs) H) :
    ∀ (A : Around) (outer : List Env) (s : Shared) (H : Hp) (args : Args) (us : List Value) (vs : List V) (Q : VK) (E : XK), A.depth < recursionLimit → (cm = true → A.handled = none) → Env0 P w K mg base A outer s H → BindsTo s fd args (ps.zip us) → Vals vs us → sp vs H Q E → codeAny (model P w) A (.call (.ref f) args) (CR CX outer P w H s Q E) s := by
  obtain ⟨oc, od, kV, doc, pm, an, cda, cc, ct, osl, rfl, lk, hcd, SF⟩ := F.ex
  intro A outer s H args us vs Q E hdp hcm e0 hbd r hsp
  have hl := len _ _ _ _ hsp
  have KX : K.In s.heap := e0.mod.kin.keeps fun b o e => (e0.bs b o e).1
  have lim : s.heap.NoLimit := e0.mod.nolimit.keeps fun b o e => (e0.bs b o e).1
  obtain ⟨_, _, _, lkl⟩ := SF.cell
  obtain ⟨a, ha, ea, t, ht2, hq⟩ := hbody cda cc A outer s H vs Q E hsp
  refine ks_codeAny_call_defAt hdp (KX _ _ lk) rfl lim (PySem.W.codeRec_of KX hcd) rfl hbd S.nocell (fun y hy => S.par y.1 (List.of_mem_zip (show (y.1, y.2) ∈ _ from hy)).1) (fun h₀ hns hk => ?_) S.co S.gen S.kind
  have I : Inv (cxS cm CX P w K mg base N qual (defScope st) f (.ref cda) cc A outer s H E) [] (start N vs) H { s with heap := h₀, toks := s.toks + (ps.zip us).length } := inv_sup S hcm e0 hl r lkl hns hk
  have fin : ∀ {σ' : L2.St} {H' : Hp} {v : V} {u : Value} {s' : Shared}, Inv (cxS cm CX P w K mg base N qual (defScope st) f (.ref cda) cc A outer s H E) [] σ' H' s' → RelV v u → Q v H' → CE outer P w H s Q u s' :=
    fun {σ' H' v u s'} J rv q => ⟨v, H', J.os, J.bare, J.base, J.hok, rv, q⟩
  have hσ : (start N vs)[0]? = some (some (.ref a)) := by
    have h0 : 0 < vs.length := by
      rcases Nat.eq_zero_or_pos vs.length with z | z
      · rw [List.eq_nil_of_length_eq_zero z] at ha; cases ha
      · exact z
    unfold L2.start
    rw [List.getElem?_append_left (by simpa using h0), List.getElem?_map, ha]; rfl
  rw [hb]
  refine ks_wpAt_execs_cons (sup_stmt S SF T I hN hself hσ ea (hE _) (fun s' I' => ?_) (hi _ _ _) (hs _ _ _) (hst _ _ _) (ht _ _ _))
  refine wpAt_of_wpAny (wpAny_mono (ht2.run [] s' (start N vs) H _ I' hq) (fun fl s2 hs2 => ?_) fun e s' hs => hs)
  cases fl with
  | ret u =>
    obtain ⟨v, σ', H', J, rv, q⟩ := hs2
    exact fin J rv q
  | next =>
    obtain ⟨σ', H', J, q⟩ := hs2
    exact fin (v := V.non) (u := Value.none) J rfl q
  | brk =>
    obtain ⟨_, _, _, q⟩ := hs2
    exact False.elim q
  | cont =>
    obtain ⟨_, _, _, q⟩ := hs2
    exact False.elim q
theorem FunS.ok {P : Program} {w : World} {K : PySem.W.Frag} {mg : Str → Option Value} {base : Heap} {CX : CXT} {x qual : Str} {st : Stmt} {rest : List Stmt} {f C : Addr} {fd : FuncData} {sv : Str} {N ps : List Str} {k : Nat} {sp : Sp} {e : Expr} {z : Str} {p0 p1 ap pos spos : Pos} {pl : Sem Bool}
    (F : FunS P K mg x qual st f fd C sv) (S : SupScope N ps (defScope st)) (T : OexC K C) (hb : defBody st = .Expr (.Call (.Attribute (.Call (.Name "super" p0) [] [] p1) "__init__" ap) [e] [] pos) spos :: rest) (hN : N[0]? = some sv) (hself : (defScope st).names.lookup sv = some .local)
    (len : ∀ vs H Q E, sp vs H Q E → vs.length = ps.length)
    (hE : ∀ (X : Cx), PE X e (tC (.str z)))
    (hi : ∀ L cd cc, interactive (ksEnv qual (defScope st) L f cd cc) = false)
    (hs : ∀ L cd cc, swapsWith (.Call (.Attribute (.Call (.Name "super" p0) [] [] p1) "__init__" ap) [e] [] pos) none spos.line (ksEnv qual (defScope st) L f cd cc) = pure false)
    (hst : ∀ L cd cc, starEach [e] (ksEnv qual (defScope st) L f cd cc) = (false, eval e (ksEnv qual (defScope st) L f cd cc)) :: starEach [] (ksEnv qual (defScope st) L f cd cc))
    (ht : ∀ L cd cc, eval (.Call (.Attribute (.Call (.Name "super" p0) [] [] p1) "__init__" ap) [e] [] pos) (ksEnv qual (defScope st) L f cd cc) = (do
      let ov ← attributeBase (.Call (.Name "super" p0) [] [] p1) "__init__" (ksEnv qual (defScope st) L f cd cc) (eval (.Call (.Name "super" p0) [] [] p1) (ksEnv qual (defScope st) L f cd cc))
      standAt ap.atName
      let (fm, first) ← holding [ov] (getMethod ov "__init__" pl)
      callWith pos fm first (backTo pos (starEach [e] (ksEnv qual (defScope st) L f cd cc))) (backToKw pos (keywordEach [] (ksEnv qual (defScope st) L f cd cc)))))
    (hbody : ∀ (cda cc : Addr) (A : Around) (outer : List Env) (s : Shared) (H : Hp) (vs : List V) (Q : VK) (E : XK), sp vs H Q E →
      ∃ a, vs[0]? = some (.ref a) ∧ H a = some (exo a C none) ∧ ∃ t, PSs (cxS true CX P w K mg base N qual (defScope st) f (.ref cda) cc A outer s H E) rest t ∧ t { nx := fun _ H' => Q .non H', rt := Q } (start N vs) H) :
    FnOk P w K mg base CX (k + 1) f fd ps sp :=
  ⟨len, fun A outer s H args us vs Q E hr e0 hbd r hsp => FunS.code true F S T hb hN hself len hE hi hs hst ht hbody A outer s H args us vs Q E hr.depth (fun _ => hr.hd) e0 hbd r hsp⟩
/-- how its arguments bind (no defaults) -/
theorem FunS.binds {P : Program} {K : PySem.W.Frag} {mg : Str → Option Value} {x qual : Str} {st : Stmt} {f C : Addr} {fd : FuncData} {sv : Str} {ps : List Str} (F : FunS P K mg x qual st f fd C sv)
    (h : ∀ (kV doc pm : Value) (an : Option Addr) (cda cc : Addr) (ct : Value) (us : List Value), us.length = ps.length → bindArgs (ksFn x qual (defArgs st) (defBody st) (defScope st) .none kV doc pm an (.ref cda) ct cc) ⟨us, []⟩ = pure (ps.zip us)) : Binds K fd ps [] := by
  obtain ⟨oc, od, kV, doc, pm, an, cda, cc, ct, osl, rfl, lk, hcd, SF⟩ := F.ex
  exact .all (h kV doc pm an cda cc ct)
end
end Vc

/-! Exc: own errors raised with their fields, asked and read in a suite; calls of instances that may raise (my own, over HandS' rules for exceptions). -/
namespace Vc
open PySem PySem.Spec PyProof.Rows L2
/-! ### __init__ of an error with one field, with two -/
def spErr1 (C : Addr) (f : Str) : Sp := fun vs H Q _ => ∃ (a : Addr) (v : V), vs = [.ref a, v] ∧ H a = some (exo a C none) ∧ ∀ d, H d = none → d ≠ a → Q .non (upd (upd H d (exd d [(f, v)])) a (exo a C (some d)))
def spErr2 (C : Addr) (f g : Str) : Sp := fun vs H Q _ => ∃ (a : Addr) (v u : V), vs = [.ref a, v, u] ∧ H a = some (exo a C none) ∧ ∀ d, H d = none → d ≠ a → Q .non (upd (upd (upd H d (exd d [(f, v)])) a (exo a C (some d))) d (exd d [(g, u), (f, v)]))
/-- what X(v) leaves, in one word -/
theorem mk_err {C : Addr} {fs : List (Str × V)} {H1 H2 : Hp} {Q : XK} {a d : Addr} (na : H1 a = none) (nd : H1 d = none) (ne : d ≠ a) (hx : ∀ b, b ≠ a → b ≠ d → H2 b = H1 b)
    (q : ∀ d H', H1 d = none → Ed [] H1 H' → H' d = some (.xd fs) → Q (.ref C) (some d) H') : Q (.ref C) (some d) (upd (del H2 a) d (.xd fs)) := by
  have keep : ∀ b o, H1 b = some o → (upd (del H2 a) d (.xd fs)) b = some o := fun b o e => by
    have ha : b ≠ a := ne_of_none e na
    have hd : b ≠ d := ne_of_none e nd
    rw [upd_ne hd, del_ne ha, hx b ha hd]; exact e
  refine q d _ nd ⟨fun b o _ e => keep b o e, fun b xs e => keep b _ e, fun b o u e => keep b _ e, fun b e => ?_⟩ upd_same
  by_cases hd : b = d
  · rw [hd, upd_same] at e; cases e
  · rw [upd_ne hd] at e
    by_cases ha : b = a
    · rw [ha]; exact na
    · rw [del_ne ha, hx b ha hd] at e; exact e
theorem go_err1 {C : Addr} {f : Str} {v : V} {H1 : Hp} {Q : XK} (q : ∀ d H', H1 d = none → Ed [] H1 H' → H' d = some (.xd [(f, v)]) → Q (.ref C) (some d) H') :
    [v].length ≤ 1000 ∧ ∀ a, H1 a = none → spErr1 C f (.ref a :: ([v] ++ [])) (upd H1 a (exo a C none)) (fun v' H2 => v' = .non ∧ ∃ (d : Addr) (fs : List (Str × V)), H2 a = some (exo a C (some d)) ∧ H2 d = some (exd d fs) ∧ H1 d = none ∧ Q (.ref C) (some d) (upd (del H2 a) d (.xd fs))) (fun _ _ _ => False) := by
  refine ⟨by show 1 ≤ 1000; decide, fun a na => ⟨a, v, rfl, upd_same, fun d nd ne => ⟨rfl, d, [(f, v)], upd_same, ?_, ?_, ?_⟩⟩⟩
  · rw [upd_ne ne]; exact upd_same
  · rw [upd_ne ne] at nd; exact nd
  · refine mk_err na (by rw [upd_ne ne] at nd; exact nd) ne (fun b h1 h2 => ?_) q
    rw [upd_ne h1, upd_ne h2, upd_ne h1]
theorem go_err2 {C : Addr} {f g : Str} {v u : V} {H1 : Hp} {Q : XK} (q : ∀ d H', H1 d = none → Ed [] H1 H' → H' d = some (.xd [(g, u), (f, v)]) → Q (.ref C) (some d) H') :
    [v, u].length ≤ 1000 ∧ ∀ a, H1 a = none → spErr2 C f g (.ref a :: ([v, u] ++ [])) (upd H1 a (exo a C none)) (fun v' H2 => v' = .non ∧ ∃ (d : Addr) (fs : List (Str × V)), H2 a = some (exo a C (some d)) ∧ H2 d = some (exd d fs) ∧ H1 d = none ∧ Q (.ref C) (some d) (upd (del H2 a) d (.xd fs))) (fun _ _ _ => False) := by
  refine ⟨by show 2 ≤ 1000; decide, fun a na => ⟨a, v, u, rfl, upd_same, fun d nd ne => ⟨rfl, d, [(g, u), (f, v)], ?_, upd_same, ?_, ?_⟩⟩⟩
  · rw [upd_ne ne.symm]; exact upd_same
  · rw [upd_ne ne] at nd; exact nd
  · refine mk_err na (by rw [upd_ne ne] at nd; exact nd) ne (fun b h1 h2 => ?_) q
    rw [upd_ne h2, upd_ne h1, upd_ne h2, upd_ne h1]
theorem go_mkO {C : Addr} {sp : Sp} {ta : TA} {σ : L2.St} {H : Hp} {Q : XK} (h : ta σ H fun vs H1 => vs.length ≤ 1000 ∧ ∀ a, H1 a = none → sp (.ref a :: (vs ++ [])) (upd H1 a (exo a C none))
  (fun v H2 => v = .non ∧ ∃ (d : Addr) (fs : List (Str × V)), H2 a = some (exo a C (some d)) ∧ H2 d = some (exd d fs) ∧ H1 d = none ∧ Q (.ref C) (some d) (upd (del H2 a) d (.xd fs))) (fun _ _ _ => False)) : tMkO C sp [] ta σ H Q := h
/-- raise X(..) -/
theorem go_raise {t : L2.St → Hp → XK → Prop} {W : WX} {D : Ends} {σ : L2.St} {H : Hp} (h : t σ H fun cls d H' => W cls d σ H') : (fun (_ : Ends) σ H => t σ H fun cls d H' => W cls d σ H') D σ H := h
/-- self.f = e, the first; a further one -/
theorem go_ost {K : PySem.W.Frag} {f : Str} {to te : TE} {D : Ends} {σ : L2.St} {H : Hp} (h : te σ H fun y H1 => to σ H1 fun x H2 => ∃ a C : Addr, x = .ref a ∧ OexC K C ∧ PySem.W.findIn K (.ref C) f = some none ∧
  ((H2 a = some (exo a C none) ∧ ∀ dx, H2 dx = none → dx ≠ a → D.nx σ (upd (upd H2 dx (exd dx [(f, y)])) a (exo a C (some dx)))) ∨
    ∃ (dx : Addr) (fs : List (Str × V)), H2 a = some (exo a C (some dx)) ∧ H2 dx = some (exd dx fs) ∧ fs.length ≤ 900 ∧ D.nx σ (upd H2 dx (exd dx ((f, y) :: fs))))) : tOst K f to te D σ H := h
theorem err_ends1 {K : PySem.W.Frag} {C : Addr} {f : Str} {vs : List V} {H : Hp} {Q : VK} {E : XK} {N : List Str} (T : OexC K C) (no : PySem.W.findIn K (.ref C) f = some none) (h : spErr1 C f vs H Q E) :
    ∃ a, vs[0]? = some (.ref a) ∧ H a = some (exo a C none) ∧ tOst K f (tVar 0) (tVar 1) { nx := fun _ H' => Q .non H', rt := Q } (start N vs) H := by
  obtain ⟨a, v, rfl, ea, q⟩ := h
  exact ⟨a, rfl, ea, v, rfl, .ref a, rfl, a, C, rfl, T, no, .inl ⟨ea, q⟩⟩
theorem err_ends2 {K : PySem.W.Frag} {C : Addr} {f g : Str} {vs : List V} {H : Hp} {Q : VK} {E : XK} {N : List Str} (T : OexC K C) (no : PySem.W.findIn K (.ref C) f = some none) (no2 : PySem.W.findIn K (.ref C) g = some none) (h : spErr2 C f g vs H Q E) :
    ∃ a, vs[0]? = some (.ref a) ∧ H a = some (exo a C none) ∧ tSeq (tOst K f (tVar 0) (tVar 1)) (tOst K g (tVar 0) (tVar 2)) { nx := fun _ H' => Q .non H', rt := Q } (start N vs) H := by
  obtain ⟨a, v, u, rfl, ea, q⟩ := h
  refine ⟨a, rfl, ea, v, rfl, .ref a, rfl, a, C, rfl, T, no, .inl ⟨ea, fun d nd ne => ?_⟩⟩
  exact ⟨u, rfl, .ref a, rfl, a, C, rfl, T, no2, .inr ⟨d, _, upd_same, by rw [upd_ne ne]; exact upd_same, by show 1 ≤ 900; decide, q d nd ne⟩⟩
/-! ### in a suite: isinstance of the error, its fields -/
/-- at d stands the dict of the error -/
def XdAt (H : Hp) (d : Option Addr) : Prop := d = none ∨ ∃ dd fs, d = some dd ∧ H dd = some (.xd fs)
def rIsX (K : PySem.W.Frag) (a : Addr) (cls : Value) (d : Option Addr) : List V → Hp → VK → Prop := fun xs H Q => ∃ (D : Addr) (c : V) (cv : Value) (b : Bool), cls = .ref D ∧ ExcC K D ∧ XdAt H d ∧ xs = [.ref a, c] ∧ (∀ u, RelV c u → u = cv) ∧ PySem.W.kitOne K (.ref D) cv = some b ∧ Q (.bl b) H
theorem call_isX {X : Cx} {a : Addr} {cls : Value} {d : Option Addr} {oe : Obj} {pn : List (Addr × Obj)} (hz : Zc cls d oe) (hf : ∃ vs, oe.data = .fields vs) : CallR (X.suite a ((a, oe) :: pn)) (.builtin "isinstance") (rIsX X.K a cls d) := by
  intro pins s σ H xs us Q I r h
  obtain ⟨D, c, cv, b, rfl, C, hd, rfl, hcv, e, q⟩ := h
  cases r with
  | cons rx rr =>
    cases rr with
    | cons rt rr =>
      cases rr
      cases rx
      have ec := hcv _ rt
      subst ec
      obtain ⟨hget, _⟩ := I.pin (a, oe) (List.mem_append.mpr (.inl List.mem_cons_self))
      obtain ⟨vs, hv⟩ := hf
      obtain ⟨oc, od, oda, osl⟩ := oe
      obtain ⟨h1, h2⟩ := hz
      dsimp only at h1 h2 hv
      subst h1 h2 hv
      have hsome : (PySem.W.clsIn X.K D).isSome = true := by obtain ⟨cd, hc, _⟩ := PySem.W.any_some C.hd; rw [hc]; rfl
      rcases hd with hd | ⟨dd, fs, hd, hxd⟩
      · subst hd
        have J : PySem.W.InstAt s.heap a { cls := .ref D, dict := none, data := .fields vs, slots := osl } D none := ⟨hget, rfl, rfl, trivial⟩
        exact PySem.W.kia_one (PySem.W.handS_kitx_exc C.hg C.hk C.hs C.hd C.ha C.hn C.ht C.hm) I.kIn J e (fun z => nomatch z) fun tk => ⟨.bl b, H, I.kept (t' := tk) fun _ _ z => z, rfl, q⟩
      · subst hd
        have hx : ObjOk X.prog X.w H s.heap dd (.xd fs) := I.hok dd _ hxd
        obtain ⟨mA, hns, hr⟩ := hx
        obtain ⟨odo, ho, hl⟩ := lookIn_ns hns
        have J : PySem.W.InstAt s.heap a { cls := .ref D, dict := some dd, data := .fields vs, slots := osl } D (some odo) := ⟨hget, rfl, rfl, ho⟩
        exact PySem.W.kia_one (PySem.W.kitx_exc hsome C.hg C.hk C.hs C.ha C.hn C.ht C.hm) I.kIn J e (fun z => nomatch z) fun tk => ⟨.bl b, H, I.kept (t' := tk) fun _ _ z => z, rfl, q⟩
section
variable {K : PySem.W.Frag} {a D : Addr} {d : Option Addr} {H : Hp} {Q : VK} {b : Bool}
theorem go_isXC {c : Addr} (C : ExcC K D) (hd : XdAt H d) (hk : PySem.W.kitOne K (.ref D) (.ref c) = some b) (q : Q (.bl b) H) : rIsX K a (.ref D) d [.ref a, .ref c] H Q :=
  ⟨D, .ref c, .ref c, b, rfl, C, hd, rfl, fun _ r => r, hk, q⟩
theorem go_isXT {t : String} (C : ExcC K D) (hd : XdAt H d) (hk : PySem.W.kitOne K (.ref D) (.type t) = some b) (q : Q (.bl b) H) : rIsX K a (.ref D) d [.ref a, .ty t] H Q :=
  ⟨D, .ty t, .type t, b, rfl, C, hd, rfl, fun _ r => r, hk, q⟩
theorem go_xf {C : Addr} {f : Str} {te : TE} {σ : L2.St} {cls : Value} (h : te σ H fun x H1 => x = .ref a ∧ cls = .ref C ∧ ∃ (dd : Addr) (fs : List (Str × V)) (v : V), d = some dd ∧ H1 dd = some (.xd fs) ∧ fs.lookup f = some v ∧ Q v H1) : tXf a cls d C f te σ H Q := h
theorem go_xfV {f : Str} {dd : Addr} {fs : List (Str × V)} {v : V} {R : V → Prop} (e : H dd = some (.xd fs)) (l : fs.lookup f = some v) (h : R v) :
    V.ref a = .ref a ∧ (Value.ref D) = .ref D ∧ ∃ (d' : Addr) (fs : List (Str × V)) (v : V), some dd = some d' ∧ H d' = some (.xd fs) ∧ fs.lookup f = some v ∧ R v := ⟨rfl, rfl, dd, fs, v, rfl, e, l, h⟩
theorem xdAt {dd : Addr} {fs : List (Str × V)} (e : H dd = some (.xd fs)) : XdAt H (some dd) := .inr ⟨dd, fs, rfl, e⟩
end
/-! ### an instance called; what is raised is wished for at the caller's slots -/
section
variable {X : Cx} {CX : CXT} {k : Nat} {C g : Addr} {fd : FuncData} {ps ks : List Str} {sp : Sp} {E : L2.St → XK} {pos : Pos} {fe e : Expr} {es : List Expr} {tf : TE} {t tk : TA} {kws : List Keyword} {gk : List Value → List Value → List Value} {gV : List V → List V → List V}
def InsD (H : Hp) (a C : Addr) : Prop := ∃ dx fs, H a = some (.ins C dx fs)
theorem insD_at {pins : List (Addr × Obj)} {σ : L2.St} {H : Hp} {s : Shared} {a : Addr} (I : Inv X pins σ H s) (h : InsD H a C) : ∃ ox od, PySem.W.InstAt s.heap a ox C od ∧ ox.data = .plain := by
  obtain ⟨dx, fs, h⟩ := h
  obtain ⟨mA, O, _⟩ := ins_get I.hok h
  obtain ⟨od, J, _⟩ := O.look
  exact ⟨_, _, J, rfl⟩
def tCallI (C : Addr) (sp : Sp) (E : L2.St → XK) (tf : TE) (t : TA) : TE := fun σ H Q => tf σ H fun y H1 => ∃ a, y = V.ref a ∧ t σ H1 fun vs H2 => InsD H2 a C ∧ sp (V.ref a :: vs) H2 Q (E σ)
theorem run_callI {pins : List (Addr × Obj)} {σ : L2.St} {H : Hp} {s : Shared} {Q : VK} {a : Addr} {us : List Value} {vs : List V} (c : StX.CallO X.K C g) (F : FnOk X.prog X.w X.K X.mg X.base CX k g fd ps sp) (hr : Room k X.A) (hb : Binds X.K fd ps []) (hx : ∀ σ, PassesAt CX X σ (E σ)) (I : Inv X pins σ H s) (hi : InsD H a C) (r : Vals vs us)
    (h : sp (V.ref a :: vs) H Q (E σ)) : wpAny (model X.prog X.w) X.A (call (.ref a) us) (EP X pins σ Q) X.xe s := by
  obtain ⟨ox, od, J, hd⟩ := insD_at I hi
  have h2 : sp ((V.ref a :: vs) ++ []) H Q (E σ) := by rw [List.append_nil]; exact h
  have hl : (Value.ref a :: us).length = ps.length := by
    have r2 : Vals (V.ref a :: vs) (Value.ref a :: us) := .cons rfl r
    rw [← r2.length]; exact F.len _ _ _ _ h
  have hb' := hb s (.ref a :: us) I.kIn (by rw [List.append_nil]; exact hl)
  rw [List.append_nil] at hb'
  refine wpAny_call (PySem.W.kco_code I.kIn J hd c.at_ c.fn c.fi (codeAny_mono (F.run X.A X.stack s H ⟨.ref a :: us, []⟩ (.ref a :: us) (.ref a :: vs) Q (E σ) hr I.env0 hb' (.cons rfl r) h) fun r s' hq => ?_))
  cases r with
  | error e => exact hx σ pins H s e s' I hq
  | ok fl =>
    cases fl with
    | ret u => exact I.after hq
    | next => exact False.elim hq
    | brk => exact False.elim hq
    | cont => exact False.elim hq
theorem pe_callI (hf : PE X fe tf) (c : StX.CallO X.K C g) (F : FnOk X.prog X.w X.K X.mg X.base CX k g fd ps sp) (hr : Room k X.A) (hb : Binds X.K fd ps []) (hx : ∀ σ, PassesAt CX X σ (E σ)) (ha : PA X (e :: es) t)
    (ht : eval (.Call fe (e :: es) [] pos) X.env = (do callWith pos (← eval fe X.env) [] (backTo pos (starEach (e :: es) X.env)) (backToKw pos (keywordEach [] X.env))) := by rfl)
    (he : starEach (e :: es) X.env = (false, eval e X.env) :: starEach es X.env := by rfl) (hpl : (backTo pos (starEach es X.env)).any (·.1) = false := by rfl) : PE X (.Call fe (e :: es) [] pos) (tCallI C sp E tf t) := by
  refine ⟨fun pins s σ H Q I h => ?_⟩
  refine Call_ (thn (hf.run pins s σ H _ I h) fun u s1 ⟨y, H1, I1, ry, a, ey, q⟩ => ?_) ht
  subst ey
  obtain rfl : u = Value.ref a := ry
  refine StX.callO_with (thn (ha.run pos pins s1 σ H1 _ I1 q) fun us s2 ⟨vs, H2, I2, r, hi, q2⟩ => ?_) he hpl
  obtain ⟨ox, od, J, hd⟩ := insD_at I2 hi
  exact ⟨⟨C, ox, od, J, hd⟩, run_callI c F hr hb hx I2 hi r q2⟩
end
section
variable {σ : L2.St} {H : Hp} {Q : VK} {tf : TE} {ts : TA} {C : Addr} {sp : Sp} {E : L2.St → XK}
theorem go_callI (h : tf σ H fun y H1 => ∃ a, y = V.ref a ∧ ts σ H1 fun vs H2 => InsD H2 a C ∧ sp (V.ref a :: vs) H2 Q (E σ)) : tCallI C sp E tf ts σ H Q := h
theorem go_insD {a dx : Addr} {fs : List (Str × V)} {P : Prop} (e : H a = some (.ins C dx fs)) (h : P) : InsD H a C ∧ P := ⟨⟨dx, fs, e⟩, h⟩
theorem go_refE {a : Addr} {P : Addr → Prop} (h : P a) : ∃ a', V.ref a = .ref a' ∧ P a' := ⟨a, rfl, h⟩
end
/-! ### what is raised is wished for at the caller's slots: methods, instances made, keywords -/
theorem passS0 {X : Cx} {E : L2.St → XK} : ∀ σ, PassesAt CX0 X σ (E σ) := fun _ _ _ _ _ _ _ h => h.elim
theorem passSL {X : Cx} : ∀ σ, PassesAt (L2.CX X.prog X.w) X σ ((fun (_ : L2.St) => E0) σ) := fun σ pins H s e s' I h => passL pins σ H s e s' I h
section
variable {X : Cx} {CX : CXT} {k : Nat} {C f g : Addr} {fd : FuncData} {ps ks : List Str} {sp : Sp} {E : L2.St → XK} {x m : Str} {p pos apos : Pos} {fe e o : Expr} {es : List Expr} {tf ta : TE} {t tk : TA} {kws : List Keyword} {gk : List Value → List Value → List Value} {gV : List V → List V → List V}
def tMethS (C : Addr) (m : Str) (sp : Sp) (E : L2.St → XK) (ta : TE) (t : TA) : TE := fun σ H Q => ta σ H fun x H1 => ∃ a dx fs, x = .ref a ∧ H1 a = some (.ins C dx fs) ∧ fs.lookup m = none ∧ t σ H1 fun vs H2 => sp (x :: vs) H2 Q (E σ)
theorem pe_methS {pl : Sem Bool} (he : PE X o ta) (c : Cls X.K C) (hm : Meth X.K C m f) (F : FnOk X.prog X.w X.K X.mg X.base CX k f fd ps sp) (hr : Room k X.A) (hb : Binds X.K fd ps []) (hx : ∀ σ, PassesAt CX X σ (E σ)) (ha : PA X (e :: es) t)
    (hst : starEach (e :: es) X.env = (false, eval e X.env) :: starEach es X.env := by rfl) (hpl : (backTo pos (starEach es X.env)).any (·.1) = false := by rfl)
    (ht : eval (.Call (.Attribute o m apos) (e :: es) [] pos) X.env = (do
      let ov ← eval o X.env
      standAt apos.atName
      let (f, first) ← holding [ov] (getMethod ov m pl)
      callWith pos f first (backTo pos (starEach (e :: es) X.env)) (backToKw pos (keywordEach [] X.env))) := by rfl) :
    PE X (.Call (.Attribute o m apos) (e :: es) [] pos) (tMethS C m sp E ta t) := by
  refine ⟨fun pins s σ H Q I h => ?_⟩
  refine PySem.W.methodCall_KW (pl := pl) (thn (he.run pins s σ H _ I h) fun u s1 ⟨x, H1, I1, rx, a, dx, fs, ex, ea, l, q⟩ => ?_) ht
  subst ex
  obtain rfl : u = Value.ref a := rx
  refine getmeth_ok I1 ea c hm l ?_
  refine PySem.W.callWith_K (first := [.ref a]) (h₀ := X.base) I.ok.mod.kin hm.kp (thn (ha.run pos pins s1 σ H1 _ I1 q) fun us s2 ⟨vs, H2, I2, r, q2⟩ => ⟨I2.kIn, ?_⟩) hst hpl
  exact run_fnS (us := .ref a :: us) (vs := .ref a :: vs) F hr hb (hx σ) I2 (.cons rfl r) q2
theorem pe_methS0 {pl : Sem Bool} (he : PE X o ta) (c : Cls X.K C) (hm : Meth X.K C m f) (F : FnOk X.prog X.w X.K X.mg X.base CX k f fd ps sp) (hr : Room k X.A) (hb : Binds X.K fd ps []) (hx : ∀ σ, PassesAt CX X σ (E σ))
    (ht : eval (.Call (.Attribute o m apos) [] [] pos) X.env = (do
      let ov ← eval o X.env
      standAt apos.atName
      let (f, first) ← holding [ov] (getMethod ov m pl)
      callWith pos f first (backTo pos (starEach [] X.env)) (backToKw pos (keywordEach [] X.env))) := by rfl) :
    PE X (.Call (.Attribute o m apos) [] [] pos) (tMethS C m sp E ta tNil) := by
  refine ⟨fun pins s σ H Q I h => ?_⟩
  refine PySem.W.methodCall_KW (pl := pl) (thn (he.run pins s σ H _ I h) fun u s1 ⟨x, H1, I1, rx, a, dx, fs, ex, ea, l, q⟩ => ?_) ht
  subst ex
  obtain rfl : u = Value.ref a := rx
  refine getmeth_ok I1 ea c hm l ?_
  exact PySem.W.callWith_K0 (first := [.ref a]) I1.kIn hm.kp (run_fnS (us := [.ref a]) (vs := [.ref a]) F hr hb (hx σ) I1 (.cons rfl .nil) q)
def tMakeS (C : Addr) (sp : Sp) (E : L2.St → XK) (t : TA) : TE := fun σ H Q => t σ H fun vs H1 => ∀ x dx, H1 x = none → H1 dx = none → dx ≠ x → sp (.ref x :: vs) (upd (upd H1 dx (.own x)) x (.ins C dx [])) (fun v H2 => v = .non ∧ Q (.ref x) H2) (E σ)
theorem run_makeS {pins : List (Addr × Obj)} {σ : L2.St} {H : Hp} {s : Shared} {Q : VK} {us : List Value} {vs : List V} (M : Mk X.K C f) (F : FnOk X.prog X.w X.K X.mg X.base CX k f fd ps sp) (hr : Room (k + 1) X.A) (hb : Binds X.K fd ps [])
    (hx : PassesAt CX X σ (E σ)) (I : Inv X pins σ H s) (r : Vals vs us)
    (h : ∀ x dx, H x = none → H dx = none → dx ≠ x → sp (.ref x :: vs) (upd (upd H dx (.own x)) x (.ins C dx [])) (fun v H2 => v = .non ∧ Q (.ref x) H2) (E σ)) :
    wpAny (model X.prog X.w) X.A (call (.ref C) us) (EP X pins σ Q) X.xe s := by
  have hq := h (s.heap.objs.size + 1) s.heap.objs.size (I.hok.fresh (Nat.le_succ _)) (I.hok.fresh (Nat.le_refl _)) (Nat.ne_of_lt (Nat.lt_succ_self _))
  have I2 := Inv.made (C := C) I
  have r2 : Vals (V.ref (s.heap.objs.size + 1) :: vs) (Value.ref (s.heap.objs.size + 1) :: us) := .cons rfl r
  have hl : (Value.ref (s.heap.objs.size + 1) :: us).length = ps.length := by
    have e := r2.length
    rw [F.len _ _ _ _ hq] at e
    exact e.symm
  have hb' := hb _ (Value.ref (s.heap.objs.size + 1) :: us) I2.kIn (by rw [List.append_nil]; exact hl)
  rw [List.append_nil] at hb'
  refine wpAny_call (make_map (f := f) I.kIn M.makes M.init (beq_iff_eq.mp M.fn) (codeAny_mono (F.run _ X.stack _ _ ⟨Value.ref (s.heap.objs.size + 1) :: us, []⟩ (Value.ref (s.heap.objs.size + 1) :: us) _ _ (E σ) (hr.make C us [])
    (I2.env0.make C us []) hb' r2 hq) fun r s' hq' => ?_))
  cases r with
  | error e => exact hx pins _ _ e s' I2 hq'
  | ok fl =>
    cases fl with
    | ret u =>
      obtain ⟨v, H', I3, rv, ev, q3⟩ := I2.after hq'
      subst ev
      exact ⟨rv, ⟨V.ref (s.heap.objs.size + 1), H', I3, rfl, q3⟩⟩
    | next => exact False.elim hq'
    | brk => exact False.elim hq'
    | cont => exact False.elim hq'
theorem pe_makeS (M : Mk X.K C f) (F : FnOk X.prog X.w X.K X.mg X.base CX k f fd ps sp) (hr : Room (k + 1) X.A) (hg : Gl X x) (hm : X.mg x = some (.ref C)) (hb : Binds X.K fd ps []) (hx : ∀ σ, PassesAt CX X σ (E σ))
    (ha : PA X (e :: es) t) (hdb : (x == ("__debug__" : Str)) = false := by decide) (he : starEach (e :: es) X.env = (false, eval e X.env) :: starEach es X.env := by rfl) (hpl : (backTo pos (starEach es X.env)).any (·.1) = false := by rfl) :
    PE X (.Call (.Name x p) (e :: es) [] pos) (tMakeS C sp E t) := by
  refine ⟨fun pins s σ H Q I h => ?_⟩
  refine wpAny_Call_Name_kw (ld_glob I hg hm ?_ hdb)
  refine PySem.W.callWith_K (h₀ := X.base) I.ok.mod.kin M.kp (thn (ha.run pos pins s σ H _ I h) fun us s1 ⟨vs, H1, I1, r, q⟩ => ⟨I1.kIn, ?_⟩) he hpl
  exact run_makeS M F hr hb (hx σ) I1 r q
/-- f(k = v, ..), f an instance -/
def tCallIK (C : Addr) (sp : Sp) (gV : List V → List V → List V) (E : L2.St → XK) (tf : TE) (tk : TA) : TE := fun σ H Q => tf σ H fun y H1 => ∃ a, y = V.ref a ∧ tk σ H1 fun zs H2 => InsD H2 a C ∧ sp (gV [V.ref a] zs) H2 Q (E σ)
theorem callK_of {M : Model} {A : Around} {E : Value → Shared → Prop} {s : Shared} {a : Addr} {pos : Pos} {Q : Value → Shared → Prop} {args : List (Bool × Sem Value)} {kw : List (Option Str × Sem Value)} (hplain : (args.any (·.1) || kw.any (·.1.isNone)) = false)
    (h : wpAny M A (evalArgs (.ref a) true args kw) (fun z s₁ => (∃ C ox od, PySem.W.InstAt s₁.heap a ox C od ∧ ox.data = .plain) ∧ wpAny M A (call (.ref a) ([] ++ z.pos) z.kw) Q E s₁) E s) : wpAny M A (callWith pos (.ref a) [] args kw) Q E s := by
  unfold callWith
  refine wpAny_bind (wpAny_holding (wpAny_mono h (fun z s₁ h₁ => wpAny_bind (wpAny_standAt ?_)) fun _ _ y => y))
  obtain ⟨⟨C, ox, od, J, hd⟩, h₁⟩ := h₁
  have L := PySem.W.kco_keeper (M := M) J hd
  simp only [hplain]
  refine wpAny_bind (L.here ?_)
  have tail : ∀ {t : Sem Value}, wpAny M A t Q E s₁ → wpAny M A (t >>= fun r => holding [r] point >>= fun _ => pure r) Q E s₁ :=
    fun ht => wpAny_bind (wpAny_mono ht (fun r s₂ hr => wpAny_bind (wpAny_holding (wpAny_point (wpAny_pure hr)))) fun _ _ y => y)
  exact tail (wpAny_operateT h₁)
theorem pe_callIK (hf : PE X fe tf) (c : StX.CallO X.K C g) (F : FnOk X.prog X.w X.K X.mg X.base CX k g fd ps sp) (hr : Room k X.A) (hb : KBinds X.K fd ps ks gk gV) (hx : ∀ σ, PassesAt CX X σ (E σ)) (hkw : PK X kws tk)
    (hall : (backToKw pos (keywordEach kws X.env)).all (·.1.isSome) = true := by rfl) (hks : (backToKw pos (keywordEach kws X.env)).filterMap (·.1) = ks := by rfl)
    (hpl : ((backTo pos (starEach [] X.env)).any (·.1) || (backToKw pos (keywordEach kws X.env)).any (·.1.isNone)) = false := by rfl)
    (ht : eval (.Call fe [] kws pos) X.env = (do callWith pos (← eval fe X.env) [] (backTo pos (starEach [] X.env)) (backToKw pos (keywordEach kws X.env))) := by rfl) : PE X (.Call fe [] kws pos) (tCallIK C sp gV E tf tk) := by
  refine ⟨fun pins s σ H Q I h => ?_⟩
  rw [ht]
  refine wpAny_bind (thn (hf.run pins s σ H _ I h) fun u s1 ⟨y, H1, I1, ry, a, ey, q⟩ => ?_)
  subst ey
  obtain rfl : u = Value.ref a := ry
  refine callK_of hpl (PyProof.Rows.evalArgs_kw2_nil hall (thn (hkw.run pos pins s1 σ H1 _ I1 q) fun ws s2 ⟨zs, H2, I2, r, hi, q2⟩ => ?_))
  rw [hks]
  obtain ⟨ox, od, J, hd⟩ := insD_at I2 hi
  have r2 := hb.rel (us := [Value.ref a]) (vs := [V.ref a]) (.cons rfl .nil) r
  have hl : (gk [Value.ref a] ws).length = ps.length := by rw [← r2.length]; exact F.len _ _ _ _ q2
  refine ⟨⟨C, ox, od, J, hd⟩, wpAny_call (PySem.W.kco_code I2.kIn J hd c.at_ c.fn c.fi (codeAny_mono (F.run X.A X.stack s2 H2 ⟨[.ref a], ks.zip ws⟩ (gk [.ref a] ws) (gV [.ref a] zs) Q (E σ) hr I2.env0 (hb.to s2 [.ref a] ws I2.kIn hl) r2 q2) fun r s' hq => ?_))⟩
  cases r with
  | error e => exact hx σ pins H2 s2 e s' I2 hq
  | ok fl =>
    cases fl with
    | ret u => exact I2.after hq
    | next => exact False.elim hq
    | brk => exact False.elim hq
    | cont => exact False.elim hq
end
section
variable {σ : L2.St} {H : Hp} {Q : VK} {tf ta : TE} {ts tk : TA} {C : Addr} {m : Str} {sp : Sp} {E : L2.St → XK} {gV : List V → List V → List V}
theorem go_methS (h : ta σ H fun x H1 => ∃ a dx fs, x = .ref a ∧ H1 a = some (.ins C dx fs) ∧ fs.lookup m = none ∧ ts σ H1 fun vs H2 => sp (x :: vs) H2 Q (E σ)) : tMethS C m sp E ta ts σ H Q := h
theorem go_makeS (h : ts σ H fun vs H1 => ∀ x dx, H1 x = none → H1 dx = none → dx ≠ x → sp (.ref x :: vs) (upd (upd H1 dx (.own x)) x (.ins C dx [])) (fun v H2 => v = .non ∧ Q (.ref x) H2) (E σ)) : tMakeS C sp E ts σ H Q := h
theorem go_callIK (h : tf σ H fun y H1 => ∃ a, y = V.ref a ∧ tk σ H1 fun zs H2 => InsD H2 a C ∧ sp (gV [V.ref a] zs) H2 Q (E σ)) : tCallIK C sp gV E tf tk σ H Q := h
theorem go_callS (h : ts σ H fun vs H1 => sp vs H1 Q (E σ)) : tCallS sp E ts σ H Q := h
end
/-- the error's field, whatever its class -/
def tXfX (K : PySem.W.Frag) (a : Addr) (cls : Value) (d : Option Addr) (f : Str) (te : TE) : TE := fun σ H Q => te σ H fun x H1 => x = .ref a ∧ ∃ C, cls = .ref C ∧ XfC K C ∧ PySem.W.findIn K (.ref C) f = some none ∧ ∃ (dd : Addr) (fs : List (Str × V)) (v : V), d = some dd ∧ H1 dd = some (.xd fs) ∧ fs.lookup f = some v ∧ Q v H1
theorem pe_xfX {X : Cx} {a : Addr} {oe : Obj} {cls : Value} {d : Option Addr} {pn : List (Addr × Obj)} {e : Expr} {te : TE} {pos : Pos} {n : Str} (hz : Zc cls d oe) (hf : ∃ vs, oe.data = .fields vs) (he : PE (X.suite a ((a, oe) :: pn)) e te) (hb : attributeBase e n X.env (eval e X.env) = eval e X.env := by rfl) :
    PE (X.suite a ((a, oe) :: pn)) (.Attribute e n pos) (tXfX X.K a cls d n te) := by
  refine ⟨fun pins s σ H Q I h => ?_⟩
  refine attr_of hb (thn (he.run pins s σ H _ I h) fun u s1 hh => ?_)
  obtain ⟨x, H1, I1, rx, ex, C, ec, T, hno, dd, fs, v, ed, ea, l, q⟩ := hh
  subst ex
  obtain rfl : u = Value.ref a := rx
  subst ec
  subst ed
  obtain ⟨ha, _⟩ := I1.pin (a, oe) (List.mem_append_left _ List.mem_cons_self)
  obtain ⟨vs, hd⟩ := hf
  have hx : ObjOk X.prog X.w H1 s1.heap dd (.xd fs) := I1.hok dd _ ea
  obtain ⟨mA, hns, hr⟩ := hx
  obtain ⟨od, ho, hl⟩ := lookIn_ns hns
  obtain ⟨u, hu, ru⟩ := RelO.some_of (v := v) (o := mA n) (by rw [← l]; exact hr n)
  have J : PySem.W.InstAt s1.heap a oe C (some od) := ⟨ha, hz.1, by unfold PySem.W.notCls; rw [hd] <;> rfl, by rw [hz.2]; exact ho⟩
  exact HandSPX.exc_get I1.kIn J T.ga T.gg T.exC (PySem.W.findObj_own T.hdC hno rfl (by rw [hl, hu])) (handed_of ru) ⟨v, H1, I1.tok _, ru, q⟩
theorem go_xfX {K : PySem.W.Frag} {a : Addr} {cls : Value} {d : Option Addr} {f : Str} {te : TE} {σ : L2.St} {H : Hp} {Q : VK} (h : te σ H fun x H1 => x = .ref a ∧ ∃ C, cls = .ref C ∧ XfC K C ∧ PySem.W.findIn K (.ref C) f = some none ∧ ∃ (dd : Addr) (fs : List (Str × V)) (v : V), d = some dd ∧ H1 dd = some (.xd fs) ∧ fs.lookup f = some v ∧ Q v H1) : tXfX K a cls d f te σ H Q := h
theorem go_xfXV {K : PySem.W.Frag} {a D dd : Addr} {f : Str} {H : Hp} {fs : List (Str × V)} {v : V} {R : V → Prop} (T : XfC K D) (no : PySem.W.findIn K (.ref D) f = some none) (e : H dd = some (.xd fs)) (l : fs.lookup f = some v) (h : R v) :
    V.ref a = .ref a ∧ ∃ C, (Value.ref D) = .ref C ∧ XfC K C ∧ PySem.W.findIn K (.ref C) f = some none ∧ ∃ (d' : Addr) (fs : List (Str × V)) (v : V), some dd = some d' ∧ H d' = some (.xd fs) ∧ fs.lookup f = some v ∧ R v := ⟨rfl, D, rfl, T, no, dd, fs, v, rfl, e, l, h⟩
/-! ### raise and try, by name -/
def tRaise (W : WX) (t : L2.St → Hp → XK → Prop) : TS := fun _ σ H => t σ H fun cls d H' => W cls d σ H'
theorem ps_raiseT {X : Cx} {W : WX} {e : Expr} {t : L2.St → Hp → XK → Prop} {pos : Pos} (hc : X.calm = true) (tk : Takes X W) (he : PMk X e t) : PS X (.Raise (some e) none pos) (tRaise W t) := ps_raise hc tk he
theorem go_raiseT {t : L2.St → Hp → XK → Prop} {W : WX} {D : Ends} {σ : L2.St} {H : Hp} (h : t σ H fun cls d H' => W cls d σ H') : tRaise W t D σ H := h
def tTryAs (K : PySem.W.Frag) (c : Value) (i : Nat) (ts : Addr → Value → Option Addr → TS) (Wout : WX) (tb : WX → TS) : TS := fun D σ H => tb (wAs K c i ts Wout D) D σ H
def tTryOnly (K : PySem.W.Frag) (c : Value) (ts : Addr → Value → Option Addr → TS) (Wout : WX) (tb : WX → TS) : TS := fun D σ H => tb (wOnly K c ts Wout D) D σ H
section
variable {X : Cx} {x n : Str} {c : Value} {i : Nat} {body suite : List Stmt} {b₀ : Stmt} {np pos pos' : Pos} {tb : WX → TS} {ts : Addr → Value → Option Addr → TS} {Wout : WX}
theorem ps_tryAs (hs : X.stack = X.env :: X.outer) (hf : X.env.frame = some X.env.locals) (hN : X.N.Nodup) (hi : X.N[i]? = some n) (hln : X.env.kindOf n = some .local) (hc : Names X x c) (tk : Takes X Wout)
    (hb : ∀ (W : WX) (pn : List (Addr × Obj)) (xe : Value → Shared → Prop), Takes (X.tr pn xe) W → PassesOwn (model X.prog X.w) X.A X.env xe → PSs (X.tr pn xe) body (tb W))
    (hsu : ∀ (a : Addr) (oe : Obj) (cls : Value) (d : Option Addr) (pn : List (Addr × Obj)), Zc cls d oe → (∃ vs, oe.data = .fields vs) → PSs (X.suite a ((a, oe) :: pn)) (b₀ :: suite) (ts a cls d)) :
    PS X (.Try body [.ExceptHandler (some (.Name x np)) (some n) (b₀ :: suite) pos'] [] [] pos) (tTryAs X.K c i ts Wout tb) := ps_try_as hs hf hN hi hln hc tk hb hsu
theorem ps_tryOnly (hs : X.stack = X.env :: X.outer) (hf : X.env.frame = some X.env.locals) (hc : Names X x c) (tk : Takes X Wout)
    (hb : ∀ (W : WX) (pn : List (Addr × Obj)) (xe : Value → Shared → Prop), Takes (X.tr pn xe) W → PassesOwn (model X.prog X.w) X.A X.env xe → PSs (X.tr pn xe) body (tb W))
    (hsu : ∀ (a : Addr) (oe : Obj) (cls : Value) (d : Option Addr) (pn : List (Addr × Obj)), Zc cls d oe → (∃ vs, oe.data = .fields vs) → PSs (X.suite a ((a, oe) :: pn)) (b₀ :: suite) (ts a cls d)) :
    PS X (.Try body [.ExceptHandler (some (.Name x np)) none (b₀ :: suite) pos'] [] [] pos) (tTryOnly X.K c ts Wout tb) := ps_try_only hs hf hc tk hb hsu
end
section
variable {K : PySem.W.Frag} {c : Value} {i : Nat} {tb : WX → TS} {ts : Addr → Value → Option Addr → TS} {Wout : WX} {D : Ends} {σ : L2.St} {H : Hp} {cls : Value} {d : Option Addr}
theorem go_tryAs (h : tb (wAs K c i ts Wout D) D σ H) : tTryAs K c i ts Wout tb D σ H := h
theorem go_tryOnly (h : tb (wOnly K c ts Wout D) D σ H) : tTryOnly K c ts Wout tb D σ H := h
theorem go_wAs (e : PySem.W.exmOne K cls c = some true) (h : ∀ a, H a = none → ts a cls d { nx := fun σ' H' => D.nx (σ'.set i none) H', rt := D.rt, bk := fun σ' H' => D.bk (σ'.set i none) H', ct := fun σ' H' => D.ct (σ'.set i none) H' } (σ.set i (some (.ref a))) H) : wAs K c i ts Wout D cls d σ H :=
  ⟨true, e, fun _ => h, fun q => nomatch q⟩
theorem go_wOnly (e : PySem.W.exmOne K cls c = some true) (h : ∀ a, H a = none → ts a cls d D σ H) : wOnly K c ts Wout D cls d σ H :=
  ⟨true, e, fun _ => h, fun q => nomatch q⟩
end
theorem go_nNone {A B : Prop} (h : A) : if (!(none : Option V).isSome) = true then A else B := iteT h
theorem go_nSome {v : V} {A B : Prop} (h : B) : if (!(some v).isSome) = true then A else B := iteF h
theorem go_None {A B : Prop} (h : B) : if (none : Option V).isSome = true then A else B := iteF h
theorem go_Some {v : V} {A B : Prop} (h : A) : if (some v).isSome = true then A else B := iteT h
/-! ### tuple(x), list(x): readings with a name -/
def rTupOf (K : PySem.W.Frag) : List V → Hp → VK → Prop := fun vs H Q => ∃ p xs, vs = [.ref p] ∧ ((SqL K H p xs ∧ ∀ l, H l = none → Q (.ref l) (upd H l (.tup xs))) ∨ (SqT K H p xs ∧ Q (.ref p) H))
theorem call_tupD {X : Cx} : CallR X (.type "tuple") (rTupOf X.K) := call_tuple_of
def rLstOf (K : PySem.W.Frag) : List V → Hp → VK → Prop := fun vs H Q => ∃ p xs, vs = [.ref p] ∧ (SqL K H p xs ∨ SqT K H p xs) ∧ ∀ l, H l = none → Q (.ref l) (upd H l (.lst xs))
theorem call_lstD {X : Cx} : CallR X (.type "list") (rLstOf X.K) := call_list_of
section
variable {K : PySem.W.Frag} {H : Hp} {Q : VK} {p : Addr} {xs : List V}
theorem go_tupD (e : SqL K H p xs) (h : ∀ l, H l = none → Q (.ref l) (upd H l (.tup xs))) : rTupOf K [.ref p] H Q := ⟨p, xs, rfl, .inl ⟨e, h⟩⟩
theorem go_tupDT (e : SqT K H p xs) (h : Q (.ref p) H) : rTupOf K [.ref p] H Q := ⟨p, xs, rfl, .inr ⟨e, h⟩⟩
theorem go_lstD (e : SqL K H p xs) (h : ∀ l, H l = none → Q (.ref l) (upd H l (.lst xs))) : rLstOf K [.ref p] H Q := ⟨p, xs, rfl, .inl e, h⟩
theorem go_lstDT (e : SqT K H p xs) (h : ∀ l, H l = none → Q (.ref l) (upd H l (.lst xs))) : rLstOf K [.ref p] H Q := ⟨p, xs, rfl, .inr e, h⟩
theorem go_lstDO (e : SqL K H p xs ∨ SqT K H p xs) (h : ∀ l, H l = none → Q (.ref l) (upd H l (.lst xs))) : rLstOf K [.ref p] H Q := ⟨p, xs, rfl, e, h⟩
end
theorem go_cat {H : Hp} {Q : VK} {p q : Addr} {xs ys : List V} (h1 : H p = some (.lst xs)) (h2 : H q = some (.lst ys)) (l : xs.length + ys.length ≤ 1000) (h : ∀ r, H r = none → Q (.ref r) (upd H r (.lst (xs ++ ys)))) : rCat (.ref p) (.ref q) H Q :=
  ⟨p, q, xs, ys, rfl, rfl, h1, h2, Nat.le_of_lt (small1000 l), h⟩
theorem go_prop {C : Addr} {sp : Sp} {E : XK} {ta : TE} {σ : L2.St} {H : Hp} {Q : VK} {dvs : List V} (h : ta σ H fun x H1 => ∃ a dx fs, x = .ref a ∧ H1 a = some (.ins C dx fs) ∧ sp (.ref a :: dvs) H1 Q E) : tProp C sp dvs E ta σ H Q := h
end Vc

/-! Xt: a caught error as a tracked object: held by a name, handed to defs, also where it is still being handled (my own; the way of HandS.Exc's ps_try_as and HandS.HotCalls). -/
namespace Vc
open PySem PySem.Spec PyProof.Rows L2
/-- a caught error: its class, its dict -/
def xco (a : Addr) (cls : Value) (d : Option Addr) : HO := .ext fun h => ∃ (oe : Obj) (vs : Array Value), h.get? a = some oe ∧ Zc cls d oe ∧ oe.data = .fields vs
theorem xco_own {a x : Addr} {cls : Value} {d : Option Addr} : xco a cls d ≠ .own x := fun z => by
  have z' : HO.ext _ = HO.own x := z
  cases z'
theorem xco_ok {P : Program} {w : World} {H : Hp} {h : Heap} {a : Addr} {cls : Value} {d : Option Addr} {oe : Obj} {vs : Array Value} (he : h.get? a = some oe) (hz : Zc cls d oe) (hd : oe.data = .fields vs) : ObjOk P w H h a (xco a cls d) :=
  ⟨⟨oe, vs, he, hz, hd⟩, ⟨_, he⟩, fun h1 h2 z k => by
    obtain ⟨o, v, q1, q2, q3⟩ := z
    exact ⟨o, v, k _ q1, q2, q3⟩⟩
theorem xco_at {P : Program} {w : World} {H : Hp} {h : Heap} {a : Addr} {cls : Value} {d : Option Addr} (hok : HOk P w H h) (he : H a = some (xco a cls d)) : ∃ (oe : Obj) (vs : Array Value), h.get? a = some oe ∧ Zc cls d oe ∧ oe.data = .fields vs := by
  have x : ObjOk P w H h a (.ext fun h => ∃ (oe : Obj) (vs : Array Value), h.get? a = some oe ∧ Zc cls d oe ∧ oe.data = .fields vs) := hok a _ he
  exact x.1
section
variable {X : Cx} {pins : List (Addr × Obj)} {σ : L2.St} {H : Hp} {s sI : Shared} {a : Addr} {o : HO}
/-- what was not there ahead becomes tracked -/
theorem track (J : Inv X pins σ H sI) (I : Inv X pins σ H s) (n : sI.heap.get? a = none) (na : H a = none) (ob : ObjOk X.prog X.w (upd H a o) s.heap a o) : Inv X pins σ (upd H a o) s := by
  have nb : ∀ {b : Addr} {o' : Obj}, sI.heap.get? b = some o' → b ≠ a := fun {b o'} e z => by rw [z, n] at e; cases e
  have nH : ∀ {b : Addr} {o' : HO}, H b = some o' → b ≠ a := fun {b o'} e z => by rw [z, na] at e; cases e
  refine ⟨I.ok, I.os, I.bare, ⟨I.base.keep, I.base.slot, fun b o' e n' hx => ?_, I.base.there, fun b xs e => ?_, fun b o' u e => ?_, fun b ps e => ?_⟩, I.loc, I.cell, ?_, fun y c e => ?_, fun p hp => ?_, fun b o' e => ?_, I.len⟩
  · obtain ⟨o2, e2⟩ := J.base.there b o' e hx
    rw [upd_ne (nb e2)]
    exact I.base.free b o' e n' hx
  · have q := I.base.tups b xs e
    rw [upd_ne (nH q)]; exact q
  · have q := I.base.frzs b o' u e
    rw [upd_ne (nH q)]; exact q
  · obtain ⟨more, q⟩ := I.base.tbls b ps e
    exact ⟨more, by rw [upd_ne (nH q)]; exact q⟩
  · obtain ⟨m, ⟨oL, _, _, hoL, _⟩, _⟩ := id J.loc
    rw [upd_ne (nb hoL)]; exact I.free
  · obtain ⟨v, hv⟩ := J.cell y c e
    obtain ⟨oc, hoc, _⟩ := hv
    rw [upd_ne (nb hoc)]; exact I.freeC y c e
  · obtain ⟨q1, q2, q3⟩ := I.pin p hp
    obtain ⟨z1, _⟩ := J.pin p hp
    exact ⟨q1, by rw [upd_ne (nb z1)]; exact q2, q3⟩
  · by_cases hb : b = a
    · subst hb
      rw [upd_same] at e
      cases e
      exact ob
    · rw [upd_ne hb] at e
      exact (I.hok b o' e).stay (fun _ _ _ q => q) (fun c hc => by rw [upd_ne (nH hc)]; exact hc) (fun c xs hc => by rw [upd_ne (nH hc)]; exact hc)
theorem suiteT (I : Inv X pins σ H s) (a : Addr) : Inv (X.suite a (X.pn ++ pins)) [] σ H s :=
  ⟨I.ok.suite _ _, I.os, I.bare, I.base, I.loc, I.cell, I.free, I.freeC, fun p hp => I.pin p (by rw [List.append_nil] at hp; exact hp), I.hok, I.len⟩
theorem unsuiteT {pn' : List (Addr × Obj)} (I : Inv (X.suite a (X.pn ++ pins)) pn' σ H s) (ok : X.Ok) : Inv X pins σ H s :=
  ⟨ok, I.os, I.bare, I.base, I.loc, I.cell, I.free, I.freeC, fun p hp => I.pin p (List.mem_append_left _ hp), I.hok, I.len⟩
end
/-- what the clause 'except x as n' wishes of an exception of the body: the error is tracked from there on -/
def wX (K : PySem.W.Frag) (c : Value) (i : Nat) (ts : TS) (Wout : WX) (D : Ends) : WX := fun cls d σ H =>
  ∃ b, PySem.W.exmOne K cls c = some b ∧ (b = true → ∀ a, H a = none → ts { nx := fun σ' H' => D.nx (σ'.set i none) H', rt := D.rt, bk := fun σ' H' => D.bk (σ'.set i none) H', ct := fun σ' H' => D.ct (σ'.set i none) H' } (σ.set i (some (.ref a))) (upd H a (xco a cls d))) ∧
    (b = false → Wout cls d σ H)
def tTryX (K : PySem.W.Frag) (c : Value) (i : Nat) (ts : TS) (Wout : WX) (tb : WX → TS) : TS := fun D σ H => tb (wX K c i ts Wout D) D σ H
section
variable {X : Cx} {x n : Str} {c : Value} {i : Nat} {body suite : List Stmt} {b₀ : Stmt} {np pos pos' : Pos} {tb : WX → TS} {ts : TS} {Wout : WX}
theorem ps_tryX (hs : X.stack = X.env :: X.outer) (hf : X.env.frame = some X.env.locals) (hN : X.N.Nodup) (hi : X.N[i]? = some n) (hln : X.env.kindOf n = some .local) (hc : Names X x c) (tk : Takes X Wout)
    (hb : ∀ (W : WX) (pn : List (Addr × Obj)) (xe : Value → Shared → Prop), Takes (X.tr pn xe) W → PassesOwn (model X.prog X.w) X.A X.env xe → PSs (X.tr pn xe) body (tb W))
    (hsu : ∀ (a : Addr) (pn : List (Addr × Obj)), PSs (X.suite a pn) (b₀ :: suite) ts) :
    PS X (.Try body [.ExceptHandler (some (.Name x np)) (some n) (b₀ :: suite) pos'] [] [] pos) (tTryX X.K c i ts Wout tb) := by
  refine ⟨fun pins s σ H D I h => ?_⟩
  have ok := I.ok
  have hfr : X.A.frames = some (X.env :: X.outer) := by rw [ok.frames, hs]
  have hloc : Loc X.env.scope n := .inl hln
  refine wpAny_Try_except ?_
  refine wpAny_mono ((hb (wX X.K c i ts Wout D) (X.pn ++ pins) (fun e s₁ => wpAny (model X.prog X.w) X.A (noteFrame e X.env) (fun _ s₂ => wpAny (model X.prog X.w) X.A (setFlight e none) (fun _ s₃ =>
    wpAny (model X.prog X.w) X.A (handleBy e X.env [.ExceptHandler (some (.Name x np)) (some n) (b₀ :: suite) pos']) (SP X pins D) X.xe s₃) X.xe s₂) X.xe s₁) (fun u s' xx => ?_) PassesOwn.looking).run [] s σ H D (I.toTry _) h) (fun f s1 hsp => ?_) (fun e s1 he => he)
  · -- the catch
    obtain ⟨a, B, sI, pins', σ', H', cls, d, rfl, J', nb, up, sky, na, os, ag, b, hb1, hyes, hno⟩ := xx
    have J : Inv X pins σ' H' sI := J'.ofTry ok
    have sky' : Sky B (X.env :: X.outer) a (Zc cls d) X.env.locals s'.heap := by rw [← hs]; exact sky
    show wpAny (model X.prog X.w) X.A (noteFrame (.ref a) X.env) _ _ _
    refine Sky.land Zc.steady hfr hf sky' fun h3 fl3 up3 => ?_
    have J3 : Inv X pins σ' H' { s' with heap := h3 } := J.landed nb fl3.1 (up.trans up3) os ag
    obtain ⟨oe3, vs3, he3, hz3, hd3⟩ := fl3.there
    have notFr : ∀ {h : Heap} {o : Obj} {vs : Array Value}, h.FunFrames B (X.env :: X.outer) → h.get? a = some o → o.data = .fields vs → a ∉ frs (X.env :: X.outer) := fun {h o vs} ff e dd hm => by
      obtain ⟨_, o', e', hnf⟩ := ff.mem hm
      rw [e] at e'; cases e'
      exact hnf _ dd
    have nfr := notFr fl3.2.2.1 he3 hd3
    have nL : a ≠ X.env.locals := fun z => nfr (List.mem_filterMap.mpr ⟨X.env, List.mem_cons_self, by rw [hf, z]⟩)
    have nF : a ∉ X.fs := fun hm => by
      obtain ⟨e, he, q⟩ := List.mem_filterMap.mp hm
      exact nfr (List.mem_filterMap.mpr ⟨e, List.mem_cons_of_mem _ he, q⟩)
    have nI : sI.heap.get? a = none := by
      cases e : sI.heap.get? a with
      | none => rfl
      | some o =>
        have q := nb a o e (by rw [hs]; exact nfr)
        rw [fl3.2.1] at q; cases q
    have S3 := J3.suite he3 hd3 na nL nF
    refine wpAny_handleBy_cons (codeAny_handlers_test ?_) (by intro q; cases q)
    have LT : PySem.W.Looks (model X.prog X.w) h3 (typeOf (.ref a)) cls := fun A Q E s k q => wpAny_typeOf_ref (k _ _ he3) (by rw [hz3.1]; exact q)
    have LM := PySem.W.exm_one (M := model X.prog X.w) (J3.kIn) LT hb1
    have test : ∀ {Q : Value → Shared → Prop} {E : Value → Shared → Prop}, Q c { s' with heap := h3 } → wpAny (model X.prog X.w) (X.A.mark (some (.ref a))) (eval (.Name x np) X.env) Q E { s' with heap := h3 } := fun {Q E} q => by
      obtain ⟨hg, hdbg, hm | ⟨hm, hv, hnn⟩⟩ := hc
      · exact ld_glob (X := X.suite a ((a, oe3) :: (X.pn ++ pins))) S3 hg hm q hdbg
      · exact ld_blt (X := X.suite a ((a, oe3) :: (X.pn ++ pins))) S3 hg hm hv q hnn hdbg
    refine test (LM.here ?_)
    cases b with
    | true =>
      refine codeAny_handlers_suite_as ?_
      refine HandSPX.lands_againZ fl3 fun h4 fl4 up4 => ?_
      have J4 : Inv X pins σ' H' { s' with heap := h4 } := J.landed nb fl4.1 ((up.trans up3).trans up4) os ag
      obtain ⟨oe4, vs4, he4, hz4, hd4⟩ := fl4.there
      have S4 : Inv (X.suite a (X.pn ++ pins)) [] σ' (upd H' a (xco a cls d)) { s' with heap := h4 } := suiteT (track J J4 nI na (xco_ok he4 hz4 hd4)) a
      refine store_ok (X := X.suite a (X.pn ++ pins)) (v := .ref a) S4 hN hi hloc rfl (fun s5 S5 => ?_) (.inr hln)
      refine wpAny_mono ((hsu a (X.pn ++ pins)).run [] s5 _ _ _ S5 (hyes rfl a na)) (fun f s6 hsp => ?_) (fun _ _ z => False.elim z)
      have end_ : ∀ {σ6 : L2.St} {H6 : Hp} {Q : Shared → Prop}, Inv (X.suite a (X.pn ++ pins)) [] σ6 H6 s6 → (∀ s7, Inv X pins (σ6.set i none) H6 s7 → Q s7) →
          wpAny (model X.prog X.w) X.A (do bindName X.env n .none; unbindBehindTheSuite X.env n pos') (fun _ s7 => Q s7) X.xe s6 := fun {σ6 H6 Q} S6 hq => gone_ok (unsuiteT S6 ok) hN hi hln hq
      cases f with
      | next =>
        obtain ⟨σ6, H6, S6, q6⟩ := hsp
        exact end_ S6 fun s7 J7 => ⟨_, _, J7, q6⟩
      | brk =>
        obtain ⟨σ6, H6, S6, q6⟩ := hsp
        exact end_ S6 fun s7 J7 => ⟨_, _, J7, q6⟩
      | cont =>
        obtain ⟨σ6, H6, S6, q6⟩ := hsp
        exact end_ S6 fun s7 J7 => ⟨_, _, J7, q6⟩
      | ret u =>
        obtain ⟨v6, σ6, H6, S6, r6, q6⟩ := hsp
        exact end_ S6 fun s7 J7 => ⟨_, _, _, J7, r6, q6⟩
    | false =>
      show wpAny _ X.A (handleBy (.ref a) X.env []) _ _ _
      refine wpAny_handleBy_nil ?_
      obtain ⟨k1, k2, k3, oe, vs, T, oT, ts', he, hz, hd, h1, hr⟩ := id fl3
      unfold PySem.passOn
      refine wpAny_bind (wpAny_field he hd h1 ?_)
      rw [if_neg (show ¬ ((Value.ref T == Value.none) = true) from by simp)]
      have fin : wpAny (model X.prog X.w) X.A (setFlight (.ref a) X.env.frame) (fun _ s4 => wpAny (model X.prog X.w) X.A (throw (.ref a) : Sem Flow) (SP X pins D) X.xe s4) X.xe { s' with heap := h3 } := by
        rw [hf]
        refine HandSPX.setFlight_upZ fl3 fun h4 hh4 up4 => wpAny_throw (tk _ _ ?_)
        exact ⟨a, B, sI, pins, σ', H', cls, d, rfl, J, nb, (up.trans up3).trans up4, .inr (.inr (by rw [hs]; exact hh4)), na, os, ag, hno rfl⟩
      first
        | exact wpAny_bind (wpAny_pure (wpAny_bind fin))
        | exact wpAny_bind fin
  · cases f with
    | next =>
      obtain ⟨σ', H', J', q⟩ := hsp
      exact wpAny_execs_nil ⟨σ', H', J'.ofTry ok, q⟩
    | brk =>
      obtain ⟨σ', H', J', q⟩ := hsp
      exact ⟨σ', H', J'.ofTry ok, q⟩
    | cont =>
      obtain ⟨σ', H', J', q⟩ := hsp
      exact ⟨σ', H', J'.ofTry ok, q⟩
    | ret u =>
      obtain ⟨v, σ', H', J', r, q⟩ := hsp
      exact ⟨v, σ', H', J'.ofTry ok, r, q⟩
end
section
variable {K : PySem.W.Frag} {c : Value} {i : Nat} {tb : WX → TS} {ts : TS} {Wout : WX} {D : Ends} {σ : L2.St} {H : Hp} {cls : Value} {d : Option Addr}
theorem go_tryX (h : tb (wX K c i ts Wout D) D σ H) : tTryX K c i ts Wout tb D σ H := h
/-- it is caught -/
theorem go_wX (e : PySem.W.exmOne K cls c = some true) (h : ∀ a H2, H a = none → Ed [] H H2 → H2 a = some (xco a cls d) → ts { nx := fun σ' H' => D.nx (σ'.set i none) H', rt := D.rt, bk := fun σ' H' => D.bk (σ'.set i none) H', ct := fun σ' H' => D.ct (σ'.set i none) H' } (σ.set i (some (.ref a))) H2) : wX K c i ts Wout D cls d σ H :=
  ⟨true, e, fun _ a na => h a _ na (Ed.new na) upd_same, fun q => nomatch q⟩
end
/-! ### isinstance of a tracked error, its fields -/
/-- what the heap tells of the error at a: its class at C, its dict with the fields fs -/
structure ErrAt (H : Hp) (a C : Addr) (fs : List (Str × V)) : Prop where
  ex : ∃ dd, H a = some (xco a (.ref C) (some dd)) ∧ H dd = some (.xd fs)
theorem ErrAt.ed {H H' : Hp} {a C : Addr} {fs : List (Str × V)} {S : List Addr} (e : Ed S H H') (hS : ∀ b ∈ S, ∃ o, H b = some o ∧ (∀ cls d, o ≠ xco a cls d) ∧ ∀ fs, o ≠ .xd fs) (h : ErrAt H a C fs) : ErrAt H' a C fs := by
  obtain ⟨dd, h1, h2⟩ := h
  refine ⟨dd, e.keep _ _ (fun z => ?_) h1, e.keep _ _ (fun z => ?_) h2⟩
  · obtain ⟨o, q, n, _⟩ := hS _ z
    rw [h1] at q; cases q; exact n _ _ rfl
  · obtain ⟨o, q, _, n⟩ := hS _ z
    rw [h2] at q; cases q; exact n _ rfl
theorem ErrAt.ed0 {H H' : Hp} {a C : Addr} {fs : List (Str × V)} (e : Ed [] H H') (h : ErrAt H a C fs) : ErrAt H' a C fs := h.ed e fun _ z => nomatch z
theorem ErrAt.of {H0 H : Hp} {a C dd : Addr} {fs : List (Str × V)} (h1 : H a = some (xco a (.ref C) (some dd))) (e : Ed [] H0 H) (h2 : H0 dd = some (.xd fs)) : ErrAt H a C fs := ⟨dd, h1, e.at0 h2⟩
theorem err_inst {X : Cx} {pins : List (Addr × Obj)} {σ : L2.St} {H : Hp} {s : Shared} {a C : Addr} {fs : List (Str × V)} (I : Inv X pins σ H s) (h : ErrAt H a C fs) : ∃ ox od, PySem.W.InstAt s.heap a ox C (some od) ∧ ∀ f, ∃ mf, PySem.W.lookIn f od = some mf ∧ RelO (fs.lookup f) mf := by
  obtain ⟨dd, h1, h2⟩ := h
  obtain ⟨oe, vs, ho, hz, hd⟩ := xco_at I.hok h1
  have hx : ObjOk X.prog X.w H s.heap dd (.xd fs) := I.hok dd _ h2
  obtain ⟨mA, hns, hr⟩ := hx
  obtain ⟨od, hod, hl⟩ := lookIn_ns hns
  exact ⟨oe, od, ⟨ho, hz.1, by unfold PySem.W.notCls; rw [hd] <;> rfl, by rw [hz.2]; exact hod⟩, fun f => ⟨mA f, hl f, hr f⟩⟩
/-- isinstance(e, C), e a tracked error -/
def rIsT (K : PySem.W.Frag) : List V → Hp → VK → Prop := fun xs H Q => ∃ (a D : Addr) (fs : List (Str × V)) (c : V) (cv : Value) (b : Bool), ErrAt H a D fs ∧ ExcC K D ∧ xs = [.ref a, c] ∧ (∀ u, RelV c u → u = cv) ∧ PySem.W.kitOne K (.ref D) cv = some b ∧ Q (.bl b) H
theorem err_clsIn {K : PySem.W.Frag} {D : Addr} (C : ExcC K D) : (PySem.W.clsIn K D).isSome = true := by obtain ⟨cd, hc, _⟩ := PySem.W.any_some C.hd; rw [hc]; rfl
theorem call_isT {X : Cx} : CallR X (.builtin "isinstance") (rIsT X.K) := by
  intro pins s σ H xs us Q I r h
  obtain ⟨a, D, fs, c, cv, b, hE, C, rfl, hcv, e, q⟩ := h
  cases r with
  | cons rx rr =>
    cases rr with
    | cons rt rr =>
      cases rr
      cases rx
      have ec := hcv _ rt
      subst ec
      obtain ⟨ox, od, J, _⟩ := err_inst I hE
      exact PySem.W.kia_one (PySem.W.kitx_exc (err_clsIn C) C.hg C.hk C.hs C.ha C.hn C.ht C.hm) I.kIn J e (fun z => nomatch z) fun tk => ⟨.bl b, H, I.tok tk, rfl, q⟩
/-- isinstance(e, (C1, C2, ..)) -/
def rIsTT (K : PySem.W.Frag) : List V → Hp → VK → Prop := fun xs H Q => ∃ (a D tp : Addr) (fs : List (Str × V)) (cs : List V) (ws : List Value) (b : Bool), ErrAt H a D fs ∧ ExcC K D ∧ xs = [.ref a, .ref tp] ∧ H tp = some (.tup cs) ∧ (∀ us, Vals cs us → us = ws) ∧ PySem.W.kitAny K (.ref D) ws = some b ∧ Q (.bl b) H
theorem call_isTT {X : Cx} : CallR X (.builtin "isinstance") (rIsTT X.K) := by
  intro pins s σ H xs us Q I r h
  obtain ⟨a, D, tp, fs, cs, ws, b, hE, C, rfl, hT, hcv, e, q⟩ := h
  cases r with
  | cons rx rr =>
    cases rr with
    | cons rt rr =>
      cases rr
      cases rx
      cases rt
      obtain ⟨ox, od, J, _⟩ := err_inst I hE
      obtain ⟨_, its, rv, o, h1, h2, n, h3⟩ := (show ObjOk X.prog X.w H s.heap tp (.tup cs) from I.hok tp _ hT)
      have e3 := hcv _ rv
      subst e3
      obtain ⟨oc, od', dt, sl⟩ := o
      simp only at h2 h3
      subst h2 h3
      exact PySem.W.kia_tup (PySem.W.kitx_exc (err_clsIn C) C.hg C.hk C.hs C.ha C.hn C.ht C.hm) I.kIn J h1 e (fun z => nomatch z) fun tk => ⟨.bl b, H, I.tok tk, rfl, q⟩
/-- e.f -/
def tXfT (K : PySem.W.Frag) (f : Str) (te : TE) : TE := fun σ H Q => te σ H fun x H1 => ∃ (a C : Addr) (fs : List (Str × V)) (v : V), x = .ref a ∧ ErrAt H1 a C fs ∧ XfC K C ∧ PySem.W.findIn K (.ref C) f = some none ∧ fs.lookup f = some v ∧ Q v H1
theorem pe_xfT {X : Cx} {e : Expr} {te : TE} {pos : Pos} {n : Str} (he : PE X e te) (hb : attributeBase e n X.env (eval e X.env) = eval e X.env := by rfl) : PE X (.Attribute e n pos) (tXfT X.K n te) := by
  refine ⟨fun pins s σ H Q I h => ?_⟩
  refine attr_of hb (thn (he.run pins s σ H _ I h) fun u s1 hh => ?_)
  obtain ⟨x, H1, I1, rx, a, C, fs, v, ex, hE, T, hno, l, q⟩ := hh
  subst ex
  obtain rfl : u = Value.ref a := rx
  obtain ⟨ox, od, J, hl⟩ := err_inst I1 hE
  obtain ⟨mf, hm, hr⟩ := hl n
  obtain ⟨u, hu, ru⟩ := RelO.some_of (v := v) (o := mf) (by rw [← l]; exact hr)
  exact HandSPX.exc_get I1.kIn J T.ga T.gg T.exC (PySem.W.findObj_own T.hdC hno rfl (by rw [hm, hu])) (handed_of ru) ⟨v, H1, I1.tok _, ru, q⟩
section
variable {K : PySem.W.Frag} {a D : Addr} {fs : List (Str × V)} {H : Hp} {Q : VK} {b : Bool}
theorem go_isTC {c : Addr} (hE : ErrAt H a D fs) (C : ExcC K D) (hk : PySem.W.kitOne K (.ref D) (.ref c) = some b) (q : Q (.bl b) H) : rIsT K [.ref a, .ref c] H Q :=
  ⟨a, D, fs, .ref c, .ref c, b, hE, C, rfl, fun _ r => r, hk, q⟩
theorem go_isTT {t : String} (hE : ErrAt H a D fs) (C : ExcC K D) (hk : PySem.W.kitOne K (.ref D) (.type t) = some b) (q : Q (.bl b) H) : rIsT K [.ref a, .ty t] H Q :=
  ⟨a, D, fs, .ty t, .type t, b, hE, C, rfl, fun _ r => r, hk, q⟩
theorem go_xfT {f : Str} {te : TE} {σ : L2.St} (h : te σ H fun x H1 => ∃ (a C : Addr) (fs : List (Str × V)) (v : V), x = .ref a ∧ ErrAt H1 a C fs ∧ XfC K C ∧ PySem.W.findIn K (.ref C) f = some none ∧ fs.lookup f = some v ∧ Q v H1) : tXfT K f te σ H Q := h
theorem go_xfTV {f : Str} {v : V} {R : V → Prop} (hE : ErrAt H a D fs) (T : XfC K D) (no : PySem.W.findIn K (.ref D) f = some none) (l : fs.lookup f = some v) (h : R v) :
    ∃ (a' C : Addr) (fs : List (Str × V)) (v : V), V.ref a = .ref a' ∧ ErrAt H a' C fs ∧ XfC K C ∧ PySem.W.findIn K (.ref C) f = some none ∧ fs.lookup f = some v ∧ R v := ⟨a, D, fs, v, rfl, hE, T, no, l, h⟩
end
/-! ### defs that are also called while an error is being handled (they raise nothing) -/
structure FnHt (P : Program) (w : World) (K : PySem.W.Frag) (mg : Str → Option Value) (base : Heap) (k : Nat) (f : Addr) (fd : FuncData) (ps : List Str) (sp : Sp) : Prop where
  len : ∀ vs H Q E, sp vs H Q E → vs.length = ps.length
  run : ∀ (A : Around) (outer : List Env) (s : Shared) (H : Hp) (args : Args) (us : List Value) (vs : List V) (Q : VK) (E : XK), L2H.RoomH k A → Env0 P w K mg base A outer s H → BindsTo s fd args (ps.zip us) → Vals vs us → sp vs H Q E →
    codeAny (model P w) A (.call (.ref f) args) (CR CX0 outer P w H s Q E) s
theorem FnHt.ok {P : Program} {w : World} {K : PySem.W.Frag} {mg : Str → Option Value} {base : Heap} {k : Nat} {f : Addr} {fd : FuncData} {ps : List Str} {sp : Sp} (F : FnHt P w K mg base k f fd ps sp) : FnOk P w K mg base CX0 k f fd ps sp :=
  ⟨F.len, fun A outer s H args us vs Q E hr => F.run A outer s H args us vs Q E (L2H.roomH_of hr)⟩
/-- the context of such a def's body -/
def cxT (P : Program) (w : World) (K : PySem.W.Frag) (mg : Str → Option Value) (base : Heap) (N : List Str) (qual : Str) (scope : Scope) (f : Addr) (cd : Value) (A : Around) (outer : List Env) (s : Shared) (H : Hp) (E : XK) : Cx :=
  { cxOf CX0 P w K mg base N qual scope f cd A outer s H E with calm := false }
theorem inv_startT {P : Program} {w : World} {K : PySem.W.Frag} {mg : Str → Option Value} {base : Heap} {N ps : List Str} {qual : Str} {scope : Scope} {f : Addr} {cd : Value} {A : Around} {outer : List Env} {s s1 : Shared} {H : Hp} {E : XK} {us : List Value} {vs : List V}
    (S : FnScope N ps scope) (e0 : Env0 P w K mg base A outer s H) (hl : vs.length = ps.length) (r : Vals vs us)
    (x : InCallC s s.heap.objs.size (bindL (envOfC qual scope s.heap.objs.size f cd).kindOf (ps.zip us) fun _ => none) (cellsFrom (s.heap.objs.size + 1) scope.names []) (bindC (envOfC qual scope s.heap.objs.size f cd).kindOf (ps.zip us) fun _ => none) s1) :
    Inv (cxT P w K mg base N qual scope f cd A outer s H E) [] (L2.start N vs) H s1 := by
  have hpl : ps.length ≤ N.length := by have := congrArg List.length S.pre; rw [List.length_take] at this; omega
  obtain ⟨h1, tk, rfl, hk⟩ := x.done
  have noA : ∀ b : Addr, b ∉ (cxT P w K mg base N qual scope f cd A outer s H E).ex := fun b z => absurd (show b ∈ ([] : List Addr) from z) (by simp)
  refine ⟨⟨e0.mod, S.kind, rfl, rfl, Nat.le_refl _, fun y z c h1 h2 => ?_, fun y hy => ?_, fun y c _ h => ?_, (fun z => Bool.noConfusion (show false = true from z)), Around.frames_deeper e0.frames, .inr ⟨rfl, rfl⟩, fun b z => absurd z (noA b), e0.bs, e0.bsz, fun b _ _ => noA b, fun b z => absurd z (noA b), e0.funs, e0.frf⟩,
    rfl, e0.bare, Un.kept hk, ⟨_, x.toInCall.ns, fun i y v h1 h2 h3 => ?_⟩, fun y c h => ⟨_, x.cell y c h⟩, e0.hok.fresh (Nat.le_refl _), fun y c h => ?_, fun q hq => ?_, e0.hok.kept hk, ?_⟩
  · exact name_of_addr x.apart (PySem.mem_of_lookup h1) (PySem.mem_of_lookup h2)
  · have hy : scope.names.lookup y = some .cell ∨ scope.names.lookup y = some .free := hy
    rcases hy with hy | hy
    · exact cell_has hy
    · exact absurd rfl (S.nofree _ (PySem.mem_of_lookup hy))
  · exact Nat.le_of_lt (x.above y c (PySem.mem_of_lookup h))
  · have hi : i < vs.length := by
      unfold L2.start at h2
      by_cases hi : i < vs.length
      · exact hi
      · rw [List.getElem?_append_right (by simpa using hi)] at h2
        rw [List.getElem?_replicate] at h2
        split at h2 <;> cases h2
    have ha : vs[i]? = some v := by
      unfold L2.start at h2
      rw [List.getElem?_append_left (by simpa using hi), List.getElem?_map] at h2
      cases e : vs[i]? with
      | none => rw [e] at h2; cases h2
      | some a => rw [e] at h2; cases h2; rfl
    obtain ⟨u, hu, rv⟩ := r.get ha
    have hp : ps[i]? = some y := by
      rw [← S.pre, List.getElem?_take_of_lt (by omega)]; exact h1
    have ndP : ps.Nodup := by rw [← S.pre]; exact S.nd.sublist (List.take_sublist _ _)
    refine ⟨u, rv, ?_⟩
    rcases S.par y (List.mem_of_getElem? hp) with k | k
    · exact .inl ⟨k, bindL_get ndP hp hu k⟩
    · obtain ⟨c, e⟩ := cell_has (n := s.heap.objs.size + 1) k
      refine .inr ⟨.inl k, c, e, ?_⟩
      have q := x.cell y c e
      rw [bindC_get ndP hp hu (by show scope.names.lookup y ≠ _; rw [k]; decide)] at q
      exact q
  · exact e0.hok.fresh (Nat.le_of_lt (x.above y c (PySem.mem_of_lookup h)))
  · exact absurd (show q ∈ ([] : List (Addr × Obj)) from hq) (by simp)
  · unfold L2.start
    show _ = N.length
    rw [List.length_append, List.length_map, List.length_replicate]
    omega
theorem Fun.okH {P : Program} {w : World} {K : PySem.W.Frag} {mg : Str → Option Value} {base : Heap} {x qual : Str} {st : Stmt} {f : Addr} {fd : FuncData} {N ps : List Str} {k : Nat} {sp : Sp} (F : Fun K x qual st f fd) (S : FnScope N ps (defScope st)) (len : ∀ vs H Q E, sp vs H Q E → vs.length = ps.length)
    (hbody : ∀ (cdv : Value) (A : Around) (outer : List Env) (s : Shared) (H : Hp) (vs : List V) (Q : VK) (E : XK), L2H.RoomH k (A.deeper (envOfC qual (defScope st) s.heap.objs.size f cdv)) → sp vs H Q E →
      ∃ t, PSs (cxT P w K mg base N qual (defScope st) f cdv A outer s H E).nox (defBody st) t ∧ t { nx := fun _ H' => Q .non H', rt := Q } (L2.start N vs) H) : FnHt P w K mg base (k + 1) f fd ps sp := by
  obtain ⟨oc, od, kV, doc, pm, an, cdv, ct, osl, rfl, lk, hcd⟩ := F.ex
  refine ⟨len, fun A outer s H args us vs Q E hr e0 hb r hsp => ?_⟩
  have hl := len _ _ _ _ hsp
  have KX : K.In s.heap := e0.mod.kin.keeps fun b o e => (e0.bs b o e).1
  have lim : s.heap.NoLimit := e0.mod.nolimit.keeps fun b o e => (e0.bs b o e).1
  have hkind : ∀ y ∈ ps.zip us, (defScope st).names.lookup y.1 = some .local ∨ ((defScope st).names.lookup y.1 = some .cell ∧ ((cellsFrom (s.heap.objs.size + 1) (defScope st).names []).lookup y.1).isSome = true) := fun ⟨n, v⟩ hy => by
    rcases S.par n (List.of_mem_zip hy).1 with q | q
    · exact .inl q
    · exact .inr ⟨q, PySem.W.cellsFrom_some _ _ _ (.inl q)⟩
  refine codeAny_call_function hr.depth (KX _ _ lk) rfl S.co S.gen rfl (PySem.W.codeRec_of KX hcd) (hb _ _ _ _ ?_)
  refine wpAny_newFunctionEnv_cells S.kind hkind fun env he s1 x => ?_
  subst he
  refine ⟨lim.keeps x.toInCall.keep, codeAny_func ?_⟩
  obtain ⟨t, ht0, hq⟩ := hbody cdv A outer s H vs Q E (hr.deeper _) hsp
  have ht := ht0.nox
  have I : Inv (cxT P w K mg base N qual (defScope st) f cdv A outer s H E) [] (L2.start N vs) H s1 := inv_startT S e0 hl r x
  refine wpAny_mono (ht.run [] s1 (L2.start N vs) H _ I hq) (fun fl s' hs => ?_) fun e s' hs => hs
  have fin : ∀ {σ' : L2.St} {H' : Hp} {v : V} {u : Value}, Inv (cxT P w K mg base N qual (defScope st) f cdv A outer s H E) [] σ' H' s' → RelV v u → Q v H' → CE outer P w H s Q u s' :=
    fun {σ' H' v u} J rv q => ⟨v, H', J.os, J.bare, J.base, J.hok, rv, q⟩
  cases fl with
  | ret u =>
    obtain ⟨v, σ', H', J, rv, q⟩ := hs
    exact fin J rv q
  | next =>
    obtain ⟨σ', H', J, q⟩ := hs
    exact fin (v := V.non) (u := Value.none) J rfl q
  | brk =>
    obtain ⟨_, _, _, q⟩ := hs
    exact False.elim q
  | cont =>
    obtain ⟨_, _, _, q⟩ := hs
    exact False.elim q
section
variable {X : Cx} {k : Nat} {f : Addr} {fd : FuncData} {ps : List Str} {sp : Sp} {x : Str} {q pos : Pos} {e : Expr} {es : List Expr} {t : TA}
/-- f(e, ..), also while an error is being handled -/
theorem pe_callT (F : FnHt X.prog X.w X.K X.mg X.base k f fd ps sp) (hr : L2H.RoomH k X.A) (hg : Gl X x) (hm : X.mg x = some (.ref f)) (hk : PySem.W.keepIn X.K (.ref f) = true) (hb : Binds X.K fd ps [])
    (ha : PA X (e :: es) t) (hdb : (x == ("__debug__" : Str)) = false := by decide) (he : starEach (e :: es) X.env = (false, eval e X.env) :: starEach es X.env := by rfl) (hpl : (backTo pos (starEach es X.env)).any (·.1) = false := by rfl) :
    PE X (.Call (.Name x q) (e :: es) [] pos) (tCall sp [] E0 t) := by
  refine ⟨fun pins s σ H Q I h => ?_⟩
  refine wpAny_Call_Name_kw (ld_glob I hg hm ?_ hdb)
  refine PySem.W.callWith_K (h₀ := X.base) I.ok.mod.kin hk (thn (ha.run pos pins s σ H _ I h) fun us s1 ⟨vs, H1, I1, r, q⟩ => ⟨I1.kIn, ?_⟩) he hpl
  have q : sp (vs ++ []) H1 Q E0 := q
  rw [List.append_nil] at q
  have hl : us.length = ps.length := by rw [← r.length]; exact F.len _ _ _ _ q
  have b := hb s1 us I1.kIn (by rw [List.append_nil]; exact hl)
  rw [List.append_nil] at b
  refine wpAny_call (codeAny_mono (F.run X.A X.stack s1 H1 ⟨us, []⟩ us vs Q E0 hr I1.env0 b r q) fun r s' hq => ?_)
  cases r with
  | error e => exact hq.elim
  | ok fl =>
    cases fl with
    | ret u => exact I1.after hq
    | next => exact False.elim hq
    | brk => exact False.elim hq
    | cont => exact False.elim hq
end
theorem roomH_mark {k : Nat} {A : Around} {v : Option Value} (r : L2H.RoomH k A) : L2H.RoomH k (A.mark v) := ⟨r.dp, r.un⟩
/-- the same, the written part named (in an except suite the reading may not name the suite's own place) -/
theorem call_isTK {X : Cx} {K : PySem.W.Frag} (h : X.K = K) : CallR X (.builtin "isinstance") (rIsT K) := h ▸ call_isT
theorem pe_xfTK {X : Cx} {K : PySem.W.Frag} {e : Expr} {te : TE} {pos : Pos} {n : Str} (h : X.K = K) (he : PE X e te) (hb : attributeBase e n X.env (eval e X.env) = eval e X.env := by rfl) : PE X (.Attribute e n pos) (tXfT K n te) := h ▸ pe_xfT he hb
end Vc

/-! Xo: operators of own classes: ==, a property stored (my own; ways of HandS.OwnEq and HandS.Property). -/
namespace Vc
open PySem PySem.Spec PyProof.Rows L2
/-! ### a == b by a's own __eq__ -/
structure EqM (K : PySem.W.Frag) (C g : Addr) : Prop where
  at_ : PySem.W.findIn K (.ref C) "__eq__" = some (some (.ref g))
  fn : PySem.W.isFn K (.ref g) = true
def rEqO (K : PySem.W.Frag) (C : Addr) (sp : Sp) : R2 := fun x y H Q => ∃ (a dx : Addr) (fs : List (Str × V)) (t : Value), x = .ref a ∧ H a = some (.ins C dx fs) ∧ TyX K H y t ∧ PySem.W.notFirst K C t = true ∧ sp [x, y] H (fun v H' => ∃ b, v = .bl b ∧ Q (.bl b) H') E0
theorem op_eqO {X : Cx} {C g : Addr} {fd : FuncData} {ps : List Str} {sp : Sp} {n : Nat} (F : FnOk X.prog X.w X.K X.mg X.base CX0 n g fd ps sp) (hr : Room n X.A) (m : EqM X.K C g) (hb : Binds X.K fd ps []) : OpR X (compareOp .Eq) (rEqO X.K C sp) := by
  intro pins s σ H x y v u Q I rx ry hq
  obtain ⟨a, dx, fs, t, rfl, ha, ty, nf, q⟩ := hq
  cases rx
  show wpAny (model X.prog X.w) X.A (richCompare .Eq (.ref a) u) (EP X pins σ Q) X.xe s
  obtain ⟨mA, J, _⟩ := ins_get I.hok ha
  obtain ⟨od, J, _⟩ := J.look
  obtain ⟨_, Z, p, _⟩ := kit_of I ry ty
  obtain ⟨mm, hF⟩ := I.fr
  refine PySem.W.cmp_K (op := .Eq) (tb := t) hr.units0 hF I.ok.mod.kin J (Z.ty _ _ I.kIn p) nf m.at_ m.fn ?_
  have hl := F.len _ _ _ _ q
  have r2 : Vals [V.ref a, y] [Value.ref a, u] := .cons rfl (.cons ry .nil)
  have hb' := hb s [.ref a, u] I.kIn (by simpa using hl)
  rw [List.append_nil] at hb'
  refine wpAny_call (codeAny_mono (F.run X.A X.stack s H ⟨[.ref a, u], []⟩ [.ref a, u] [.ref a, y] _ E0 hr I.env0 hb' r2 q) fun r s' hq => ?_)
  cases r with
  | error e => exact hq.elim
  | ok fl =>
    cases fl with
    | ret w =>
      obtain ⟨z, H', I', rz, b, ez, qz⟩ := I.after hq
      subst ez
      cases rz
      exact ⟨.bl b, H', I', rfl, qz⟩
    | next => exact False.elim hq
    | brk => exact False.elim hq
    | cont => exact False.elim hq
/-! ### o.f = e, f a property with a setter -/
structure PropSet (K : PySem.W.Frag) (C : Addr) (f : Str) (p g : Addr) : Prop where
  tk : PySem.W.takerIn K C f = some (some (.ref p))
  ty : PySem.W.typeIn K (.ref p) = some (.type "property")
  rec_ : ∃ a rest, PySem.W.recIn K p "property" = some (a :: .ref g :: rest)
def tSetP (C : Addr) (sp : Sp) (E : L2.St → XK) (to te : TE) : TS := fun D σ H => te σ H fun y H1 => to σ H1 fun x H2 => ∃ (a dx : Addr) (fs : List (Str × V)), x = .ref a ∧ H2 a = some (.ins C dx fs) ∧ sp [.ref a, y] H2 (fun _ H3 => D.nx σ H3) (E σ)
theorem ps_fldP {X : Cx} {CX : CXT} {C p g : Addr} {f : Str} {fd : FuncData} {ps : List Str} {sp : Sp} {n : Nat} {E : L2.St → XK} {o e : Expr} {to te : TE} {p' pos : Pos} (c : Cls X.K C) (m : PropSet X.K C f p g) (F : FnOk X.prog X.w X.K X.mg X.base CX n g fd ps sp) (hr : Room (n + 2) X.A) (hb : Binds X.K fd ps []) (hx : ∀ σ, PassesAt CX X σ (E σ))
    (ho : PE X o to) (he : PE X e te) (hs : swapsWith e (some (.Attribute o f p')) pos.line X.env = pure false := by rfl) : PS X (.Assign [.Attribute o f p'] e pos) (tSetP C sp E to te) := by
  refine ⟨fun pins s σ H D I h => ?_⟩
  refine plainObj_wpAny_Assign_Attribute (thn (he.run pins s σ H _ I h) fun v s1 ⟨y, H1, I1, r1, q1⟩ => thn (ho.run pins s1 σ H1 _ I1 q1) fun u s2 ⟨x, H2, I2, r2, a, dx, fs, ex, ea, q⟩ => ?_) hs
  subst ex
  obtain rfl : u = Value.ref a := r2
  obtain ⟨mA, J, _⟩ := ins_get I2.hok ea
  obtain ⟨od, J, _⟩ := J.look
  obtain ⟨mm, hF⟩ := I2.fr
  obtain ⟨b, rest, hrec⟩ := m.rec_
  have I3 := I2.tok (s2.toks + 1)
  have hl := F.len _ _ _ _ q
  have hb' := hb { s2 with toks := s2.toks + 1 } [.ref a, v] I3.kIn (by simpa using hl)
  rw [List.append_nil] at hb'
  refine PySem.W.set_prop hF I.ok.mod.kin J c.sa c.po m.tk m.ty hrec ?_
  refine codeAny_mono (F.run X.A.in1.in1 X.stack { s2 with toks := s2.toks + 1 } H2 ⟨[.ref a, v], []⟩ [.ref a, v] [.ref a, y] _ (E σ) hr.in1.in1 I3.env0.in1.in1 hb' (.cons rfl (.cons r1 .nil)) q) fun r s' hq => ?_
  cases r with
  | error er => exact hx σ pins H2 { s2 with toks := s2.toks + 1 } er s' I3 hq
  | ok fl =>
    cases fl with
    | ret w =>
      obtain ⟨z, H', I', rz, qz⟩ := I3.after hq
      exact ⟨σ, H', I', qz⟩
    | next => exact False.elim hq
    | brk => exact False.elim hq
    | cont => exact False.elim hq
section
variable {K : PySem.W.Frag} {H : Hp} {Q : VK} {a C dx : Addr} {fs : List (Str × V)} {y : V} {t : Value} {sp : Sp}
theorem go_eqO (ha : H a = some (.ins C dx fs)) (ty : TyX K H y t) (nf : PySem.W.notFirst K C t = true) (h : sp [.ref a, y] H (fun v H' => ∃ b, v = .bl b ∧ Q (.bl b) H') E0) : rEqO K C sp (.ref a) y H Q := ⟨a, dx, fs, t, rfl, ha, ty, nf, h⟩
theorem go_setP {E : L2.St → XK} {to te : TE} {D : Ends} {σ : L2.St} (h : te σ H fun y H1 => to σ H1 fun x H2 => ∃ (a dx : Addr) (fs : List (Str × V)), x = .ref a ∧ H2 a = some (.ins C dx fs) ∧ sp [.ref a, y] H2 (fun _ H3 => D.nx σ H3) (E σ)) : tSetP C sp E to te D σ H := h
theorem go_setPV {R : Addr → Prop} (ha : H a = some (.ins C dx fs)) (h : R a) : ∃ (a' dx : Addr) (fs : List (Str × V)), V.ref a = .ref a' ∧ H a' = some (.ins C dx fs) ∧ R a' := ⟨a, dx, fs, rfl, ha, h⟩
theorem ty_ins (ha : H a = some (.ins C dx fs)) (c : C8.InsC K C) : TyX K H (.ref a) (.ref C) := .base (.ins ha c.cl c.ha c.hn c.htk c.hm)
theorem go_isiC {x : V} {c : Addr} {b : Bool} (ht : TyX K H x t) (hk : PySem.W.kitOne K t (.ref c) = some b) (h : Q (.bl b) H) : rIsi K [x, .ref c] H Q := ⟨x, .ref c, t, .ref c, b, rfl, .own c, ht, hk, h⟩
end
/-! ### defaults -/
section
variable {K : PySem.W.Frag} {x qual : Str} {params : Arguments} {body : List Stmt} {scope : Scope} {dvs : List V} {kws : List (Str × V)} {f : Addr} {fd : FuncData} {ps ks : List Str}
theorem bindsAll (F : FunD K x qual params body scope dvs kws f fd) (hd : dvs ≠ [])
    (h : ∀ (T : Addr) (kV doc pm : Value) (an : Option Addr) (cdv ct : Value) (us its : List Value), us.length = ps.length → its.length = dvs.length →
      ∃ k, bindArgs (PySem.W.fnOf x qual params body scope (.ref T) kV doc pm an cdv ct) ⟨us, []⟩ = seqItems? (.ref T) >>= k ∧ k (some its.toArray) = pure (ps.zip us)) : Binds K fd ps [] := by
  obtain ⟨ds, r, b⟩ := F.binds1 (ps := ps) ps.length dvs.length hd (by rw [Nat.sub_self, Nat.add_zero]) (fun T kV doc pm an cdv ct us its l1 l2 => by
    obtain ⟨k, e1, e2⟩ := h T kV doc pm an cdv ct us its l1 l2
    exact ⟨k, e1, by rw [List.drop_of_length_le (Nat.le_of_eq l2), List.append_nil]; exact e2⟩)
  rw [List.drop_of_length_le (Nat.le_refl _)] at r
  cases r
  exact b
theorem kbindsD (F : FunD K x qual params body scope dvs kws f fd) (hd : dvs ≠ []) (g : {α : Type} → List α → List α → List α → List α)
    (hrel : ∀ {vs ds zs : List V} {us its ws : List Value}, Vals ds its → Vals vs us → Vals zs ws → Vals (g ds vs zs) (g its us ws))
    (h : ∀ (T : Addr) (kV doc pm : Value) (an : Option Addr) (cdv ct : Value) (us its ws : List Value), its.length = dvs.length → (g its us ws).length = ps.length →
      ∃ k, bindArgs (PySem.W.fnOf x qual params body scope (.ref T) kV doc pm an cdv ct) ⟨us, ks.zip ws⟩ = seqItems? (.ref T) >>= k ∧ k (some its.toArray) = pure (ps.zip (g its us ws))) :
    ∃ its : List Value, KBinds K fd ps ks (g its) (g dvs) := by
  obtain ⟨oc, od, dV, kV, doc, pm, an, cdv, ct, osl, rfl, lk, hcd, hD, hK⟩ := F.ex
  rcases hD with ⟨e, _⟩ | ⟨_, T, o, its, m, rfl, lT, oT, rT⟩
  · exact absurd e hd
  · refine ⟨its, ⟨fun s us ws X hl => ?_, fun r1 r2 => hrel rT r1 r2⟩⟩
    obtain ⟨k, e1, e2⟩ := h T kV doc pm an cdv ct us its ws rT.length.symm hl
    refine BindsTo.of_looks fun M => ?_
    rw [e1]
    exact looks_items X lT oT (.of_pure e2)
end
/-! ### C(k = v, ..) -/
def tMakeK (C : Addr) (sp : Sp) (gV : List V → List V → List V) (E : XK) (tk : TA) : TE := fun σ H Q => tk σ H fun zs H2 => ∀ x dx, H2 x = none → H2 dx = none → dx ≠ x → sp (gV [.ref x] zs) (upd (upd H2 dx (.own x)) x (.ins C dx [])) (fun v H3 => v = .non ∧ Q (.ref x) H3) E
section
variable {X : Cx} {CX : CXT} {k : Nat} {f C : Addr} {fd : FuncData} {ps ks : List Str} {sp : Sp} {E : XK} {x : Str} {p pos : Pos} {kws : List Keyword} {tk : TA} {g : List Value → List Value → List Value} {gV : List V → List V → List V}
theorem pe_makeK0 (M : Mk X.K C f) (F : FnOk X.prog X.w X.K X.mg X.base CX k f fd ps sp) (hr : Room (k + 1) X.A) (hg : Gl X x) (hm : X.mg x = some (.ref C)) (hb : KBinds X.K fd ps ks g gV) (hx : Passes CX X E)
    (hkw : PK X kws tk) (hall : (backToKw pos (keywordEach kws X.env)).all (·.1.isSome) = true := by rfl) (hks : (backToKw pos (keywordEach kws X.env)).filterMap (·.1) = ks := by rfl)
    (hdb : (x == ("__debug__" : Str)) = false := by decide)
    (hpl : ((backTo pos (starEach [] X.env)).any (·.1) || (backToKw pos (keywordEach kws X.env)).any (·.1.isNone)) = false := by rfl) :
    PE X (.Call (.Name x p) [] kws pos) (tMakeK C sp gV E tk) := by
  refine ⟨fun pins s σ H Q I h => ?_⟩
  refine wpAny_Call_Name_kw (ld_glob I hg hm ?_ hdb)
  refine PySem.W.callWith_KW0 (h₀ := X.base) I.ok.mod.kin M.kp hall (thn (hkw.run pos pins s σ H _ I h) fun ws s2 ⟨zs, H2, I2, rz, q2⟩ => ⟨I2.kIn, ?_⟩) hpl
  rw [hks]
  show wpAny _ _ (call (.ref C) [] (ks.zip ws)) _ _ _
  have hq := q2 (s2.heap.objs.size + 1) s2.heap.objs.size (I2.hok.fresh (Nat.le_succ _)) (I2.hok.fresh (Nat.le_refl _)) (Nat.ne_of_lt (Nat.lt_succ_self _))
  have I3 := Inv.made (C := C) I2
  have r1 : Vals [V.ref (s2.heap.objs.size + 1)] [Value.ref (s2.heap.objs.size + 1)] := .cons rfl .nil
  have r2 := hb.rel r1 rz
  have hl : (g [Value.ref (s2.heap.objs.size + 1)] ws).length = ps.length := by rw [← r2.length]; exact F.len _ _ _ _ hq
  refine wpAny_call (make_map (f := f) I2.kIn M.makes M.init (beq_iff_eq.mp M.fn) (codeAny_mono (F.run _ X.stack _ _ ⟨[Value.ref (s2.heap.objs.size + 1)], ks.zip ws⟩ (g [Value.ref (s2.heap.objs.size + 1)] ws) _ _ E (hr.make C [] (ks.zip ws))
    (I3.env0.make C [] (ks.zip ws)) (hb.to _ [Value.ref (s2.heap.objs.size + 1)] ws I3.kIn hl) r2 hq) fun r s' hq' => ?_))
  cases r with
  | error e => exact hx pins σ _ _ e s' I3 hq'
  | ok fl =>
    cases fl with
    | ret u =>
      obtain ⟨v, H', I4, rv, ev, q3⟩ := I3.after hq'
      subst ev
      exact ⟨rv, ⟨V.ref (s2.heap.objs.size + 1), H', I4, rfl, q3⟩⟩
    | next => exact False.elim hq'
    | brk => exact False.elim hq'
    | cont => exact False.elim hq'
end
theorem go_makeK {C : Addr} {sp : Sp} {gV : List V → List V → List V} {E : XK} {tk : TA} {σ : L2.St} {H : Hp} {Q : VK} (h : tk σ H fun zs H2 => ∀ x dx, H2 x = none → H2 dx = none → dx ≠ x → sp (gV [.ref x] zs) (upd (upd H2 dx (.own x)) x (.ins C dx [])) (fun v H3 => v = .non ∧ Q (.ref x) H3) E) : tMakeK C sp gV E tk σ H Q := h
theorem go_make0 {C : Addr} {sp : Sp} {dvs : List V} {E : XK} {σ : L2.St} {H : Hp} {Q : VK} (h : ∀ x dx, H x = none → H dx = none → dx ≠ x → sp (.ref x :: dvs) (upd (upd H dx (.own x)) x (.ins C dx [])) (fun v H2 => v = .non ∧ Q (.ref x) H2) E) : tMake C sp dvs E tNil σ H Q := h
end Vc

/-! Xq: own classes asked by built-in ways: len(x), y in x (my own; over the library's len_K, in_K). -/
namespace Vc
open PySem PySem.Spec PyProof.Rows L2
section
variable {X : Cx} {C g : Addr} {fd : FuncData} {ps : List Str} {sp : Sp} {n : Nat}
/-- an own special method that promises no error, run -/
theorem runO {A : Around} {pins : List (Addr × Obj)} {σ : L2.St} {s : Shared} {H : Hp} {us : List Value} {vs : List V} {Q : VK} {EE : Value → Shared → Prop} (F : FnOk X.prog X.w X.K X.mg X.base CX0 n g fd ps sp) (hr : Room n A) (hb : Binds X.K fd ps [])
    (I : Inv X pins σ H s) (env0 : Env0 X.prog X.w X.K X.mg X.base A X.stack s H) (r2 : Vals vs us) (q : sp vs H Q E0) :
    wpAny (model X.prog X.w) A (call (.ref g) us) (fun u s' => ∃ z H', Inv X pins σ H' s' ∧ RelV z u ∧ Q z H') EE s := by
  have hl := F.len _ _ _ _ q
  have hb' := hb s us I.kIn (by rw [List.append_nil, ← r2.length]; exact hl)
  rw [List.append_nil] at hb'
  refine wpAny_call (codeAny_mono (F.run A X.stack s H ⟨us, []⟩ us vs _ E0 hr env0 hb' r2 q) fun r s' hq => ?_)
  cases r with
  | error e => exact hq.elim
  | ok fl =>
    cases fl with
    | ret w =>
      obtain ⟨z, H', I', rz, qz⟩ := I.after hq
      exact ⟨z, H', I', rz, qz⟩
    | next => exact False.elim hq
    | brk => exact False.elim hq
    | cont => exact False.elim hq
/-- a class's own special method -/
structure SpM (K : PySem.W.Frag) (C g : Addr) (x : Str) : Prop where
  at_ : PySem.W.findIn K (.ref C) x = some (some (.ref g))
  fn : PySem.W.isFn K (.ref g) = true
/-- len(x) by x's own __len__ -/
def rLenO (C : Addr) (sp : Sp) : List V → Hp → VK → Prop := fun xs H Q => ∃ (a dx : Addr) (fs : List (Str × V)), xs = [.ref a] ∧ H a = some (.ins C dx fs) ∧ sp [.ref a] H (fun v H' => ∃ k : Int, v = .int k ∧ 0 ≤ k ∧ k < 2 ^ 63 ∧ Q (.int k) H') E0
theorem call_lenO (F : FnOk X.prog X.w X.K X.mg X.base CX0 n g fd ps sp) (hr : Room (n + 1) X.A) (m : SpM X.K C g "__len__") (hb : Binds X.K fd ps []) : CallR X (.builtin "len") (rLenO C sp) := by
  intro pins s σ H xs us Q I r h
  obtain ⟨a, dx, fs, rfl, ha, q⟩ := h
  rw [Vals.ref1 r]
  obtain ⟨mA, J, _⟩ := ins_get I.hok ha
  obtain ⟨od, J, _⟩ := J.look
  obtain ⟨mm, hF⟩ := I.fr
  refine PySem.W.len_K hF I.ok.mod.kin J m.at_ m.fn ?_
  refine wpAny_mono (runO (vs := [.ref a]) F hr.in1 hb I I.env0.in1 (.cons rfl .nil) q) (fun u s' hq => ?_) (fun _ _ e => e)
  obtain ⟨z, H', I', rz, k, rfl, k0, k1, qz⟩ := hq
  obtain ⟨t, rfl⟩ := rz
  exact ⟨⟨k0, k1⟩, .int k, H', I'.tok _, ⟨_, rfl⟩, qz⟩
/-- y in x by x's own __contains__ -/
def rInO (C : Addr) (sp : Sp) (b0 : Bool) : R2 := fun y x H Q => ∃ (a dx : Addr) (fs : List (Str × V)), x = .ref a ∧ H a = some (.ins C dx fs) ∧ sp [.ref a, y] H (fun v H' => ∃ b, v = .bl b ∧ Q (.bl (xor b0 b)) H') E0
theorem op_inO (F : FnOk X.prog X.w X.K X.mg X.base CX0 n g fd ps sp) (hr : Room n X.A) (m : SpM X.K C g "__contains__") (hb : Binds X.K fd ps []) : OpR X (compareOp .In) (rInO C sp false) := by
  intro pins s σ H y x v u Q I ry rx h
  obtain ⟨a, dx, fs, rfl, ha, q⟩ := h
  cases rx
  obtain ⟨mA, J, _⟩ := ins_get I.hok ha
  obtain ⟨od, J, _⟩ := J.look
  obtain ⟨mm, hF⟩ := I.fr
  refine PySem.W.in_K hF I.ok.mod.kin J m.at_ m.fn ?_
  refine wpAny_mono (runO (vs := [.ref a, y]) F hr hb I I.env0 (.cons rfl (.cons ry .nil)) q) (fun w' s' hq => ?_) (fun _ _ e => e)
  obtain ⟨z, H', I', rz, b, rfl, qz⟩ := hq
  cases rz
  rw [Bool.false_xor] at qz
  exact wpAny_truthy_bool ⟨.bl b, H', I', rfl, qz⟩
theorem op_notinO (F : FnOk X.prog X.w X.K X.mg X.base CX0 n g fd ps sp) (hr : Room n X.A) (m : SpM X.K C g "__contains__") (hb : Binds X.K fd ps []) : OpR X (compareOp .NotIn) (rInO C sp true) := by
  intro pins s σ H y x v u Q I ry rx h
  obtain ⟨a, dx, fs, rfl, ha, q⟩ := h
  cases rx
  obtain ⟨mA, J, _⟩ := ins_get I.hok ha
  obtain ⟨od, J, _⟩ := J.look
  obtain ⟨mm, hF⟩ := I.fr
  refine PySem.W.notIn_K hF I.ok.mod.kin J m.at_ m.fn ?_
  refine wpAny_mono (runO (vs := [.ref a, y]) F hr hb I I.env0 (.cons rfl (.cons ry .nil)) q) (fun w' s' hq => ?_) (fun _ _ e => e)
  obtain ⟨z, H', I', rz, b, rfl, qz⟩ := hq
  cases rz
  rw [Bool.true_xor] at qz
  exact wpAny_truthy_bool ⟨.bl (!b), H', I', rfl, qz⟩
/-- an own special method whose error is wished for at the caller's slots, run -/
theorem runOS {CX : CXT} {E : XK} {A : Around} {pins : List (Addr × Obj)} {σ : L2.St} {s : Shared} {H : Hp} {us : List Value} {vs : List V} {Q : VK} (F : FnOk X.prog X.w X.K X.mg X.base CX n g fd ps sp) (hr : Room n A) (hb : Binds X.K fd ps [])
    (hx : PassesAt CX X σ E) (I : Inv X pins σ H s) (env0 : Env0 X.prog X.w X.K X.mg X.base A X.stack s H) (r2 : Vals vs us) (q : sp vs H Q E) :
    wpAny (model X.prog X.w) A (call (.ref g) us) (EP X pins σ Q) X.xe s := by
  have hl := F.len _ _ _ _ q
  have hb' := hb s us I.kIn (by rw [List.append_nil, ← r2.length]; exact hl)
  rw [List.append_nil] at hb'
  refine wpAny_call (codeAny_mono (F.run A X.stack s H ⟨us, []⟩ us vs _ E hr env0 hb' r2 q) fun r s' hq => ?_)
  cases r with
  | error e => exact hx pins _ _ e s' I hq
  | ok fl =>
    cases fl with
    | ret w => exact I.after hq
    | next => exact False.elim hq
    | brk => exact False.elim hq
    | cont => exact False.elim hq
/-- x[y] by x's own __getitem__ -/
def tIxO (C : Addr) (sp : Sp) (E : L2.St → XK) (ta tb : TE) : TE := fun σ H Q => ta σ H fun x H1 => tb σ H1 fun y H2 => ∃ (a dx : Addr) (fs : List (Str × V)), x = .ref a ∧ H2 a = some (.ins C dx fs) ∧ sp [.ref a, y] H2 Q (E σ)
theorem pe_ixO {CX : CXT} {E : L2.St → XK} {a b : Expr} {ta tb : TE} {pos : Pos} (ha : PE X a ta) (hb0 : PE X b tb) (m : SpM X.K C g "__getitem__") (mf : PySem.W.fnIn X.K g = true) (F : FnOk X.prog X.w X.K X.mg X.base CX n g fd ps sp) (hr : Room (n + 1) X.A)
    (hb : Binds X.K fd ps []) (hx : ∀ σ, PassesAt CX X σ (E σ)) (hsl : ∀ o i, subscripted b true o i = runValue (.builtin "lifetime.subscript" ⟨[o, i], []⟩) := by intro _ _; with_unfolding_all rfl) : PE X (.Subscript a b pos) (tIxO C sp E ta tb) := by
  refine ⟨fun pins s σ H Q I h => ?_⟩
  refine Subscript_ (binT (R := fun x y H2 => ∃ (a dx : Addr) (fs : List (Str × V)), x = .ref a ∧ H2 a = some (.ins C dx fs) ∧ sp [.ref a, y] H2 Q (E σ)) ha hb0 I h fun v u s2 x y H2 I2 rx ry q => ?_)
  obtain ⟨p, dx, fs, rfl, hp, q⟩ := q
  cases rx
  obtain ⟨mA, J, _⟩ := ins_get I2.hok hp
  obtain ⟨od, J, _⟩ := J.look
  obtain ⟨mm, hF⟩ := I2.fr
  exact PySem.W.sub_K hF I2.ok.mod.kin J m.at_ mf m.fn (runOS (vs := [.ref p, y]) F hr.in1 hb (hx σ) I2 I2.env0.in1 (.cons rfl (.cons ry .nil)) q) (hsl _ _)
section
variable {ta tb : TE} {σ : L2.St} {H : Hp} {Q : VK} {E : L2.St → XK}
theorem go_ixO (h : ta σ H fun x H1 => tb σ H1 fun y H2 => ∃ (a dx : Addr) (fs : List (Str × V)), x = .ref a ∧ H2 a = some (.ins C dx fs) ∧ sp [.ref a, y] H2 Q (E σ)) : tIxO C sp E ta tb σ H Q := h
theorem go_insF {a dx : Addr} {fs : List (Str × V)} {R : Addr → Prop} (ha : H a = some (.ins C dx fs)) (h : R a) : ∃ (a' dx : Addr) (fs : List (Str × V)), V.ref a = .ref a' ∧ H a' = some (.ins C dx fs) ∧ R a' := ⟨a, dx, fs, rfl, ha, h⟩
theorem go_lenO {a dx : Addr} {fs : List (Str × V)} (ha : H a = some (.ins C dx fs)) (h : sp [.ref a] H (fun v H' => ∃ k : Int, v = .int k ∧ 0 ≤ k ∧ k < 2 ^ 63 ∧ Q (.int k) H') E0) : rLenO C sp [.ref a] H Q := ⟨a, dx, fs, rfl, ha, h⟩
theorem go_inO {a dx : Addr} {fs : List (Str × V)} {y : V} {b0 : Bool} (ha : H a = some (.ins C dx fs)) (h : sp [.ref a, y] H (fun v H' => ∃ b, v = .bl b ∧ Q (.bl (xor b0 b)) H') E0) : rInO C sp b0 y (.ref a) H Q := ⟨a, dx, fs, rfl, ha, h⟩
end
end
end Vc

/-! Xz: str(x) by x's own __str__; staticmethods called on their class (my own). -/
namespace Vc
open PySem PySem.Spec PyProof.Rows L2
section
open PySem.W PySem.Calls Builtin Builtin.Str
variable {prog : Program} {w : World} {A : Around} {E : Value → Shared → Prop} {s : Shared} {K : Frag} {x C L f : Addr} {h₀ : Heap} {m : Str → Option Value} {ox : Obj} {od : Option Obj}
theorem strOf_own {Q : Value → Shared → Prop} (hu : A.units < cLine) (X : K.In s.heap) (I : InstAt s.heap x ox C od) (hs : findIn K (.ref C) "__str__" = some (some (.ref f))) (hf : isFn K (.ref f) = true)
    (h : wpAny (model prog w) A (call (.ref f) [.ref x]) (StrBack Q) E s) : wpAny (model prog w) A (Builtin.Str.strOf (.ref x)) Q E s := by
  unfold Builtin.Str.strOf
  rw [if_neg (show ¬ isExactStr (Value.ref x) = true from by intro z; cases z)]
  refine wpAny_bind (wpAny_cRoomFor hu ?_)
  refine wpAny_bind (m := callSpecial? (.ref x) (Str.ofString "__str__")) (special_fn X I hs (beq_iff_eq.mp hf) (wpAny_mono h (fun r s' hr => ?_) fun _ _ y => y))
  cases r <;> first | exact hr.elim | skip
  repeat (first | wp_step)
  exact hr
theorem str_own {Q : Value → Shared → Prop} (hu : A.units + 2 < cLine) (X : K.In s.heap) (I : InstAt s.heap x ox C od) (hs : findIn K (.ref C) "__str__" = some (some (.ref f))) (hf : isFn K (.ref f) = true)
    (h : wpAny (model prog w) A.in1.in1 (call (.ref f) [.ref x]) (StrBack Q) E s) : wpAny (model prog w) A (call (.type "str") [.ref x]) Q E s :=
  callType_newIn F.called_str (by decide) (F.typeCall_str_1 _) (F.newCall_str_1 _) (fun obj => F.args_object_init_2 obj _) F.entry_str_new
    (S := fun A' R s' => A'.units + 1 < cLine ∧ K.In s'.heap ∧ InstAt s'.heap x ox C od ∧ wpAny (model prog w) A'.in1 (call (.ref f) [.ref x]) (StrBack fun r s1 => R (.ok (.ret r)) s1) (fun e s1 => R (.error e) s1) s')
    (.of_wp fun A' R s' hq => by
      rw [str_new_tree (.ref x)]
      refine wpAny_bind (wpAny_pure ?_)
      refine wpAny_bind (wpAny_of_eq isSubtype_str_str ?_)
      exact wpAny_bind (wpAny_mono (strOf_own (A := A'.in1) (Q := fun r s1 => R (.ok (.ret r)) s1) hq.1 hq.2.1 hq.2.2.1 hs hf hq.2.2.2) (fun r s1 h1 => wpAny_pure ⟨_, rfl, h1⟩) fun _ _ e => e))
    ⟨hu, X, I, wpAny_mono h (fun r s1 h1 => by
      cases r <;> first | exact h1.elim | skip
      exact ⟨typeIs_str _ _ _, h1⟩) fun _ _ e => e⟩
end
section
variable {X : Cx} {C g : Addr} {fd : FuncData} {ps : List Str} {sp : Sp} {n : Nat}
/-- str(x) by x's own __str__ -/
def rStrO (C : Addr) (sp : Sp) : List V → Hp → VK → Prop := fun xs H Q => ∃ (a dx : Addr) (fs : List (Str × V)), xs = [.ref a] ∧ H a = some (.ins C dx fs) ∧ sp [.ref a] H (fun v H' => ∃ z, v = .str z ∧ Q (.str z) H') E0
theorem call_strO (F : FnOk X.prog X.w X.K X.mg X.base CX0 n g fd ps sp) (hr : Room (n + 2) X.A) (m : SpM X.K C g "__str__") (hb : Binds X.K fd ps []) : CallR X (.type "str") (rStrO C sp) := by
  intro pins s σ H xs us Q I r h
  obtain ⟨a, dx, fs, rfl, ha, q⟩ := h
  rw [Vals.ref1 r]
  obtain ⟨mA, J, _⟩ := ins_get I.hok ha
  obtain ⟨od, J, _⟩ := J.look
  refine str_own (by have := hr.un; omega) I.kIn J m.at_ m.fn ?_
  refine wpAny_mono (runO (vs := [.ref a]) F hr.in1.in1 hb I I.env0.in1.in1 (.cons rfl .nil) q) (fun u s' hq => ?_) (fun _ _ e => e)
  obtain ⟨z, H', I', rz, k, rfl, qz⟩ := hq
  obtain ⟨t, rfl⟩ := rz
  exact ⟨.str k, H', I', ⟨_, rfl⟩, qz⟩
/-! ### C.m(..), m a staticmethod -/
structure SMet (K : PySem.W.Frag) (C : Addr) (mc : Value) (m : Str) (p g : Addr) : Prop where
  at_ : PySem.W.findCls K (.ref C) mc m = some (.get (.builtin "staticmethod.__get__") (.ref p) .none (.ref C))
  rc : ∃ rest, PySem.W.recIn K p "staticmethod" = some (.ref g :: rest)
  kp : PySem.W.keepIn K (.ref g) = true
theorem getsm_ok {pins : List (Addr × Obj)} {σ : L2.St} {H : Hp} {s : Shared} {A : Around} {E : Value → Shared → Prop} {mc : Value} {m : Str} {p : Addr} {pl : Sem Bool} {Q : Value × List Value → Shared → Prop} (I : Inv X pins σ H s) (r : ClX.CRead X.K C mc) (k : SMet X.K C mc m p g)
    (h : ∀ s', Inv X pins σ H s' → Q (.ref g, []) s') : wpAny (model X.prog X.w) A (getMethod (.ref C) m pl) Q E s := by
  obtain ⟨rest, hp⟩ := k.rc
  refine PySem.W.method_cls I.kIn r.ga ?_
  refine PySem.W.cls_bind I.kIn r.rd k.at_ ?_
  exact wpAny_call (PySem.W.sm_get (s := { s with toks := s.toks + 1 }) I.kIn hp (PySem.W.handed_on rfl (h _ (I.tok _))))
def tSMeth (C : Addr) (sp : Sp) (E : XK) (ta : TE) (t : TA) : TE := fun σ H Q => ta σ H fun x H1 => x = .ref C ∧ t σ H1 fun vs H2 => sp vs H2 Q E
theorem pe_smeth {CX : CXT} {E : XK} {o e : Expr} {es : List Expr} {m : Str} {pos apos : Pos} {ta : TE} {t : TA} {pl : Sem Bool} {mc : Value} {p : Addr} (he : PE X o ta) (r : ClX.CRead X.K C mc) (c : SMet X.K C mc m p g) (F : FnOk X.prog X.w X.K X.mg X.base CX n g fd ps sp) (hr : Room n X.A) (hb : Binds X.K fd ps []) (hx : Passes CX X E) (ha : PA X (e :: es) t)
    (hst : starEach (e :: es) X.env = (false, eval e X.env) :: starEach es X.env := by rfl) (hpl : (backTo pos (starEach es X.env)).any (·.1) = false := by rfl)
    (ht : eval (.Call (.Attribute o m apos) (e :: es) [] pos) X.env = (do
      let ov ← eval o X.env
      standAt apos.atName
      let (f, first) ← holding [ov] (getMethod ov m pl)
      callWith pos f first (backTo pos (starEach (e :: es) X.env)) (backToKw pos (keywordEach [] X.env))) := by rfl) :
    PE X (.Call (.Attribute o m apos) (e :: es) [] pos) (tSMeth C sp E ta t) := by
  refine ⟨fun pins s σ H Q I h => ?_⟩
  refine PySem.W.methodCall_KW (pl := pl) (thn (he.run pins s σ H _ I h) fun u s1 ⟨x, H1, I1, rx, ex, q⟩ => ?_) ht
  subst ex
  obtain rfl : u = Value.ref C := rx
  refine getsm_ok I1 r c fun s2 I2 => ?_
  refine PySem.W.callWith_K (first := []) (h₀ := X.base) I.ok.mod.kin c.kp (thn (ha.run pos pins s2 σ H1 _ I2 q) fun us s3 ⟨vs, H2, I3, r3, q2⟩ => ⟨I3.kIn, ?_⟩) hst hpl
  exact run_fn F hr hb .nil hx I3 r3 (by rw [List.append_nil]; exact q2)
theorem pe_smeth0 {CX : CXT} {E : XK} {o : Expr} {m : Str} {pos apos : Pos} {ta : TE} {pl : Sem Bool} {mc : Value} {p : Addr} (he : PE X o ta) (r : ClX.CRead X.K C mc) (c : SMet X.K C mc m p g) (F : FnOk X.prog X.w X.K X.mg X.base CX n g fd ps sp) (hr : Room n X.A) (hb : Binds X.K fd ps []) (hx : Passes CX X E)
    (ht : eval (.Call (.Attribute o m apos) [] [] pos) X.env = (do
      let ov ← eval o X.env
      standAt apos.atName
      let (f, first) ← holding [ov] (getMethod ov m pl)
      callWith pos f first (backTo pos (starEach [] X.env)) (backToKw pos (keywordEach [] X.env))) := by rfl) :
    PE X (.Call (.Attribute o m apos) [] [] pos) (tSMeth C sp E ta tNil) := by
  refine ⟨fun pins s σ H Q I h => ?_⟩
  refine PySem.W.methodCall_KW (pl := pl) (thn (he.run pins s σ H _ I h) fun u s1 ⟨x, H1, I1, rx, ex, q⟩ => ?_) ht
  subst ex
  obtain rfl : u = Value.ref C := rx
  refine getsm_ok I1 r c fun s2 I2 => ?_
  exact PySem.W.callWith_K0 I2.kIn c.kp (run_fn (us := []) F hr hb .nil hx I2 .nil (by rw [List.append_nil]; exact q))
section
variable {K : PySem.W.Frag} {σ : L2.St} {H : Hp} {Q : VK} {ta : TE} {t : TA} {E : XK}
theorem go_strO {a dx : Addr} {fs : List (Str × V)} (ha : H a = some (.ins C dx fs)) (h : sp [.ref a] H (fun v H' => ∃ z, v = .str z ∧ Q (.str z) H') E0) : rStrO C sp [.ref a] H Q := ⟨a, dx, fs, rfl, ha, h⟩
theorem go_smeth (h : ta σ H fun x H1 => x = .ref C ∧ t σ H1 fun vs H2 => sp vs H2 Q E) : tSMeth C sp E ta t σ H Q := h
theorem go_refC {P : Prop} (h : P) : V.ref C = V.ref C ∧ P := ⟨rfl, h⟩
end
end
/-! ### dicts whose values are data, compared: equal ones -/
theorem hits_dp {X : Cx} {pins : List (Addr × Obj)} {σ : L2.St} {H : Hp} {s : Shared} (I : Inv X pins σ H s) {A : Around} (hu : A.in1.units + 64 < cLine) {ls : List (Key × V)} {vb : List (Key × Value)} (rb : KV ls vb) {ks : List (Key × V)} {va : List (Key × Value)}
    (ra : KV ks va) : (∀ p ∈ ks, ∃ u d, valV ls p.1 = some u ∧ Dp X.K H p.2 d ∧ Dp X.K H u d ∧ SeqAt.shaped d = true) → PySem.W.KeqHits A.in1 s vb va true := by
  unfold KV at ra
  induction ra with
  | nil => intro _; exact .nil
  | @cons p q ps qs h t k =>
    intro hp
    obtain ⟨h1, h2⟩ := h
    obtain ⟨u, d, e, d1, d2, sd⟩ := hp p List.mem_cons_self
    have rr : RelO (some u) (valueAt vb p.1) := by rw [← e]; exact rb.val p.1
    obtain ⟨y, hy, ry⟩ := rr.some_of
    obtain ⟨key, v⟩ := q
    have h1' : p.1 = key := h1
    rw [h1'] at hy
    obtain ⟨as, r1⟩ := Dp.reads I d _ _ d1 h2
    obtain ⟨bs, r2⟩ := Dp.reads I d _ _ d2 ry
    have eq := PySem.W.keq_at (A := A) r1 r2 sd sd hu
    rw [SeqAt.eqv_refl d (SeqAt.canLay_of_shaped sd)] at eq
    show PySem.W.KeqHits A.in1 s vb ((key, v) :: qs) (true && true)
    exact .hit hy eq (k fun p' hm => hp p' (List.mem_cons_of_mem _ hm))
def rDD (K : PySem.W.Frag) (b : Bool) : R2 := fun x y H Q => ∃ a c ks ls, x = .ref a ∧ y = .ref c ∧ H a = some (.dK ks) ∧ H c = some (.dK ls) ∧ ks.length = ls.length ∧ (∀ p ∈ ks, ∃ u d, valV ls p.1 = some u ∧ Dp K H p.2 d ∧ Dp K H u d ∧ SeqAt.shaped d = true) ∧ Q (.bl b) H
theorem op_eqDD {X : Cx} (hu : X.A.units + 66 < cLine) : OpR X (compareOp .Eq) (rDD X.K true) := by
  intro pins s σ H x y v u Q I rx ry h
  obtain ⟨a, b, ks, ls, rfl, rfl, ea, eb, hlen, hp, q⟩ := h
  obtain rfl : v = Value.ref a := rx
  obtain rfl : u = Value.ref b := ry
  obtain ⟨_, ya, va, ra, da⟩ := (show ObjOk X.prog X.w H s.heap a (.dK ks) from I.hok a _ ea)
  obtain ⟨_, yb, vb, rb, db⟩ := (show ObjOk X.prog X.w H s.heap b (.dK ls) from I.hok b _ eb)
  have hl : va.length = vb.length := by rw [← ra.length, ← rb.length]; exact hlen
  exact PySem.W.keq_eq (knd := mixKind X.prog X.w) (r := true) ya yb da db (by omega) (fun _ => hits_dp I (by show X.A.units + 1 + 64 < cLine; omega) rb ra hp) (fin_bl I q (by simp [hl]))
theorem op_neDD {X : Cx} (hu : X.A.units + 66 < cLine) : OpR X (compareOp .NotEq) (rDD X.K false) := by
  intro pins s σ H x y v u Q I rx ry h
  obtain ⟨a, b, ks, ls, rfl, rfl, ea, eb, hlen, hp, q⟩ := h
  obtain rfl : v = Value.ref a := rx
  obtain rfl : u = Value.ref b := ry
  obtain ⟨_, ya, va, ra, da⟩ := (show ObjOk X.prog X.w H s.heap a (.dK ks) from I.hok a _ ea)
  obtain ⟨_, yb, vb, rb, db⟩ := (show ObjOk X.prog X.w H s.heap b (.dK ls) from I.hok b _ eb)
  have hl : va.length = vb.length := by rw [← ra.length, ← rb.length]; exact hlen
  exact PySem.W.keq_ne (knd := mixKind X.prog X.w) (r := true) ya yb da db (by omega) (fun _ => hits_dp I (by show X.A.units + 1 + 64 < cLine; omega) rb ra hp) (fin_bl I q (by simp [hl]))
theorem room66 {k : Nat} {A : Around} (r : Room k A) : A.units + 66 < cLine := by have := r.un; omega
/-! ### d.pop(k), there -/
def rDPop : V → List V → Hp → VK → Prop := fun x xs H Q => ∃ (a : Addr) (kvs : List (Key × V)) (k : Key) (v : V), x = .ref a ∧ xs = [kV k] ∧ H a = some (.dK kvs) ∧ valV kvs k = some v ∧ Q v (upd H a (.dK (dropK kvs k)))
theorem mt_dpop {X : Cx} : MtR X "dict.pop" rDPop := by
  intro pins s σ H x xs v us Q I rx rxs h
  obtain ⟨a, kvs, k, v', rfl, rfl, e, l, q⟩ := h
  cases rx
  obtain ⟨u, rfl, ru⟩ := rxs.one
  exact d_pop I e ru l (.inl rfl) fun w' s' I' r' => ⟨v', _, I', r', q⟩
section
variable {K : PySem.W.Frag} {H : Hp} {Q : VK} {σ : L2.St} {te : TE} {ts : List TE} {acc : Str}
theorem go_dpopI {a : Addr} {kvs : List (Key × V)} {k : Int} {v : V} (e : H a = some (.dK kvs)) (l : valV kvs (.inl k) = some v) (h : Q v (upd H a (.dK (dropK kvs (.inl k))))) : rDPop (.ref a) [.int k] H Q := ⟨a, kvs, .inl k, v, rfl, rfl, e, l, h⟩
theorem go_tyD {a : Addr} {kvs : List (Key × V)} {P : Prop} (e : H a = some (.dK kvs)) (h : P) : tyV K "dict" (.ref a) H ∧ P := ⟨.inr (.inr (.inl ⟨rfl, .inl ⟨kvs, e⟩⟩)), h⟩
theorem go_dclear {a : Addr} {kvs : List (Key × V)} (e : H a = some (.dK kvs)) (h : Q .non (upd H a (.dK []))) : rDClear (.ref a) [] H Q := ⟨a, kvs, rfl, rfl, e, h⟩
theorem go_lclear {a : Addr} {xs : List V} (e : H a = some (.lst xs)) (h : Q .non (upd H a (.lst []))) : rClear (.ref a) [] H Q := ⟨a, xs, rfl, rfl, e, h⟩
theorem go_revL (h : te σ H fun x H1 => ∃ a xs, x = .ref a ∧ SqL K H1 a xs ∧ ∀ p, H1 p = none → Q (.ref p) (upd H1 p (.lst xs.reverse))) : tRevL K te σ H Q := h
theorem go_revLV {a : Addr} {xs : List V} {R : List V → Prop} (e : SqL K H a xs) (h : R xs) : ∃ a' ys, V.ref a = .ref a' ∧ SqL K H a' ys ∧ R ys := ⟨a, xs, rfl, e, h⟩
theorem go_js0 {R : Str → Hp → Prop} (h : R acc H) : tJs [] acc σ H R := h
theorem go_jsS {y : Str} {R : Str → Hp → Prop} (l : (acc ++ y).length ≤ 1000) (h : tJs ts (acc ++ y) σ H R) : tJs (tC (.str y) :: ts) acc σ H R := ⟨y, rfl, Nat.le_of_lt (small1000 l), h⟩
theorem go_js {R : Str → Hp → Prop} (h : te σ H fun x H1 => ∃ y : Str, x = .str y ∧ (acc ++ y).length ≤ sizeLine ∧ tJs ts (acc ++ y) σ H1 R) : tJs (te :: ts) acc σ H R := h
theorem go_jsV {y : Str} {P : Str → Prop} (l : (acc ++ y).length ≤ 1000) (h : P y) : ∃ z : Str, V.str y = .str z ∧ (acc ++ z).length ≤ sizeLine ∧ P z := ⟨y, rfl, Nat.le_of_lt (small1000 l), h⟩
theorem go_szS {y : Str} {P : Prop} (l : y.length ≤ 1000) (h : P) : y.length ≤ sizeLine ∧ P := ⟨Nat.le_of_lt (small1000 l), h⟩
theorem go_fmt (h : te σ H fun x H1 => (∃ y : Str, x = .str y ∧ y.length ≤ sizeLine ∧ Q (.str y) H1) ∨ ∃ i : Int, x = .int i ∧ i.natAbs.log2 < 1920 ∧ Q (.str (toString i)) H1) : tFmt te σ H Q := h
theorem go_fmtS {y : Str} {P : Str → Prop} {P' : Int → Prop} (l : y.length ≤ 1000) (h : P y) : (∃ z : Str, V.str y = .str z ∧ z.length ≤ sizeLine ∧ P z) ∨ ∃ i : Int, V.str y = .int i ∧ i.natAbs.log2 < 1920 ∧ P' i := .inl ⟨y, rfl, Nat.le_of_lt (small1000 l), h⟩
theorem go_fmtI {i : Int} {P : Str → Prop} {P' : Int → Prop} (l : i.natAbs.log2 < 1920) (h : P' i) : (∃ z : Str, V.int i = .str z ∧ z.length ≤ sizeLine ∧ P z) ∨ ∃ j : Int, V.int i = .int j ∧ j.natAbs.log2 < 1920 ∧ P' j := .inr ⟨i, rfl, l, h⟩
theorem go_strI {i : Int} {P : Int → Prop} (l : i.natAbs.log2 < 1920) (h : P i) : ∃ j, [V.int i] = [.int j] ∧ j.natAbs.log2 < 1920 ∧ P j := ⟨i, rfl, l, h⟩
end
end Vc

/-! Xi: list(x), x of an own class whose __iter__ gives a list's iterator (and that has its own __len__). -/
namespace Vc
open PySem PySem.Spec PyProof.Rows L2
section
variable {prog : Program} {w : World} {A : Around} {E : Value → Shared → Prop} {s : Shared} {it l : Addr} {i : Nat} {items : Array Value}
theorem py_item {x : Value} {Q : Option Value → Shared → Prop} (ho : s.heap.get? it = some (GNX.itObj l i)) (hl : s.heap.IsList l items) (hx : items[i]? = some x)
    (hQ : ∀ h', h'.get? it = some (GNX.itObj l (i + 1)) → Heap.SameBut it s.heap h' → Q (some x) { s with heap := h' }) : wpAny (model prog w) A (pyNext (.ref it)) Q E s := by
  have hit : s.heap.IsListIter it l i := ⟨_, ho, rfl, rfl⟩
  unfold pyNext
  refine wpAny_bind (wpAny_attempt (wpAny_callSpecial?_slot (name := Str.ofString "__next__") hit.typeIs slot_listiter_next
    (wpAny_call_entry slot_listiter_next hit.typeIs entry_listiter_next ?_ (args_listiter_next _))))
  exact GNX.next_item ho hl hx fun h' e' sb => wpAny_pure (hQ h' e' sb)
theorem py_end {Q : Option Value → Shared → Prop} (hh : A.handled = none) (ho : s.heap.get? it = some (GNX.itObj l i)) (hl : s.heap.IsList l items) (hx : items[i]? = none)
    (hQ : ∀ h1 h' e vs, h1.get? it = some (GNX.itEnd i) → Heap.SameBut it s.heap h1 → (∀ b o, h1.get? b = some o → h'.get? b = some o) → h1.get? e = none →
      h'.get? e = some { cls := .type "StopIteration", data := .fields vs } → vs[1]? = some .none → Q none { s with heap := h' }) : wpAny (model prog w) A (pyNext (.ref it)) Q E s := by
  have hit : s.heap.IsListIter it l i := ⟨_, ho, rfl, rfl⟩
  unfold pyNext
  refine wpAny_bind (wpAny_attempt (wpAny_callSpecial?_slot (name := Str.ofString "__next__") hit.typeIs slot_listiter_next
    (wpAny_call_entry slot_listiter_next hit.typeIs entry_listiter_next ?_ (args_listiter_next _))))
  refine GNX.next_end hh ho hl hx fun h1 h' e vs e1 sb k ne he hv => ?_
  refine wpAny_bind (wpAny_isInstance (T := "StopIteration") (b := true) ⟨_, he, rfl⟩ isSubtype_stop ?_)
  exact wpAny_pure (hQ h1 h' e vs e1 sb k ne he hv)
end
section
variable {X : Cx} {pins : List (Addr × Obj)} {σ : L2.St}
theorem li_loop {q it l : Addr} {zs : List V} {H0 : Hp} {A1 : Around} {Rs : Result → Shared → Prop} (hh : A1.in1.handled = none) (hlq : l ≠ q) (hli : l ≠ it) (hiq : it ≠ q) (zl : zs.length ≤ 1000)
    (hdone : ∀ H s, Inv X pins σ H s → H q = some (.lst zs) → Ed [q, it] H0 H → Rs (.ok (.ret .none)) s) :
    ∀ (n i : Nat) (H : Hp) (s : Shared), n + i = zs.length → Inv X pins σ H s → H it = some (ItO l it i) → SqL X.K H l zs → H q = some (.lst (zs.take i)) → Ed [q, it] H0 H →
      codeAny (model X.prog X.w) A1 (.builtin "list.extend.loop" ⟨[.ref q, .ref it, .none], []⟩) Rs s := by
  intro n
  induction n with
  | zero =>
    intro i H s hn I hit hl hq e
    refine codeAny_builtin PySem.F.entry_extend_loop ?_
    rw [Around.under_plainId PySem.F.plain_extend_loop _]
    show wpAny _ A1.in1 (pyNext (.ref it) >>= _) _ _ s
    obtain ⟨its, rv, pl, hz⟩ := I.list hl
    have mu : Mut (H it) := by rw [hit]; exact True.intro
    refine wpAny_bind (py_end hh (itO_get I hit) pl.isList (by rw [List.getElem?_toArray]; exact rv.none_of (by rw [List.getElem?_eq_none]; omega)) fun h1 h' e' vs e1 sb k ne he hv => ?_)
    have I2 : Inv X pins σ (upd H it (ItE it i)) { s with heap := h1 } := I.write (x := it) (e := it) (t' := s.toks) mu (.inl rfl) (fun b o nb z => (sb.2 b nb).trans z) ⟨_, e1⟩ (itE_ok e1)
    generalize hu : upd H it (ItE it i) = H2 at I2
    obtain ⟨e2, h2⟩ := chg hu hit
    have I3 : Inv X pins σ H2 { s with heap := h' } := L2.Inv.turnedL (s := { s with heap := h1 }) I2 (t' := s.toks) (ch := []) (h' := h') (fun b o _ e => k b o e) (fun b hb => by cases hb)
    refine wpAny_pure (hdone H2 _ I3 ?_ (e.one e2 (.inl (by simp))))
    rw [e2.at1 hiq.symm hq, List.take_of_length_le (by omega)]
  | succ n ih =>
    intro i H s hn I hit hl hq e
    refine codeAny_builtin PySem.F.entry_extend_loop ?_
    rw [Around.under_plainId PySem.F.plain_extend_loop _]
    show wpAny _ A1.in1 (pyNext (.ref it) >>= _) _ _ s
    obtain ⟨its, rv, pl, hz⟩ := I.list hl
    have mu : Mut (H it) := by rw [hit]; exact True.intro
    obtain ⟨v, hv⟩ : ∃ v, zs[i]? = some v := ⟨_, List.getElem?_eq_getElem (by omega)⟩
    obtain ⟨u, hu, ru⟩ := rv.get hv
    refine wpAny_bind (py_item (itO_get I hit) pl.isList (x := u) (by rw [List.getElem?_toArray]; exact hu) fun h' e' sb => ?_)
    have I2 : Inv X pins σ (upd H it (ItO l it (i + 1))) { s with heap := h' } := I.write (x := it) (e := it) (t' := s.toks) mu (.inl rfl) (fun b o nb z => (sb.2 b nb).trans z) ⟨_, e'⟩ (itO_ok e')
    generalize hg : upd H it (ItO l it (i + 1)) = H2 at I2
    obtain ⟨e2, h2⟩ := chg hg hit
    have hq2 := e2.at1 hiq.symm hq
    show wpAny _ A1.in1 (updateSeq q (·.push u) >>= _) _ _ _
    obtain ⟨z, its2, k, r2, hl2, e3⟩ := I2.lstM hq2
    refine wpAny_bind (wpAny_updateSeq e3 rfl (wpAny_pure ⟨plainId_quiet PySem.F.plain_extend_loop _, ?_⟩) (by rw [List.size_toArray]; omega) (by show (its2.toArray.push u).size ≤ sizeLine + 1; rw [Array.size_push, List.size_toArray]; omega))
    have I3 := I2.lset (f := (·.push u)) (its' := its2 ++ [u]) (t' := s.toks) hq2 e3 (by simp) (r2.append (.cons ru .nil)) (by have := small1000 zl; rw [List.length_append, List.length_take]; show _ + 1 ≤ _; omega)
    generalize hw : upd H2 q _ = H3 at I3
    obtain ⟨e4, h4⟩ := chg hw hq2
    refine ih (i + 1) H3 _ (by omega) I3 (e4.at1 hiq h2) ?_ ?_ ?_
    · exact e4.sql1 hlq (e2.sql1 hli hl)
    · rw [h4, List.take_add_one, hv]; rfl
    · exact (e.one e2 (.inl (by simp))).one e4 (.inl (by simp))
/-- x's own __len__, asked for a hint -/
theorem li_hint {H : Hp} {s : Shared} {C g a : Addr} {dx : Addr} {fs : List (Str × V)} {fd : FuncData} {ps : List Str} {sp : Sp} {n : Nat} {A1 : Around} {EE : Value → Shared → Prop} {Q : Bool → Shared → Prop}
    (F : FnOk X.prog X.w X.K X.mg X.base CX0 n g fd ps sp) (hr : Room n A1.in1) (m : SpM X.K C g "__len__") (hb : Binds X.K fd ps []) (I : Inv X pins σ H s) (env0 : Env0 X.prog X.w X.K X.mg X.base A1.in1 X.stack s H) (ha : H a = some (.ins C dx fs))
    {G : VK} (q : sp [.ref a] H G E0) (kk : ∀ v H', G v H' → ∃ k : Int, v = .int k ∧ 0 ≤ k ∧ k ≤ 1000 ∧ ∀ s', Inv X pins σ H' s' → ∀ b, Q b s') : wpAny (model X.prog X.w) A1 (Builtin.List.listLengthHint (.ref a)) Q EE s := by
  obtain ⟨mA, J, _⟩ := ins_get I.hok ha
  obtain ⟨od, J, _⟩ := J.look
  obtain ⟨mm, hF⟩ := I.fr
  unfold Builtin.List.listLengthHint
  refine wpAny_bind (wpAny_bind (J.type.here ((PySem.W.looks_findIn I.kIn m.at_).here ?_)))
  refine PySem.W.KFB.if_not rfl ?_
  refine wpAny_bind (m := rule "list.length-hint.len") (wpAny_rule ?_)
  refine wpAny_bind (wpAny_attempt ?_)
  refine PySem.W.len_K hF I.ok.mod.kin J m.at_ m.fn ?_
  refine wpAny_mono (runO (vs := [.ref a]) (EE := fun _ _ => False) F hr hb I env0 (.cons rfl .nil) q) (fun u s' hq => ?_) (fun _ _ e => e.elim)
  obtain ⟨z, H', I', rz, hg⟩ := hq
  obtain ⟨k, rfl, k0, k1, qz⟩ := kk _ _ hg
  obtain ⟨t, rfl⟩ := rz
  refine ⟨⟨k0, by omega⟩, ?_⟩
  have tl : Builtin.List.listTooLong k.toNat = false := notLongL (Nat.le_of_lt (small1000 (by omega)))
  refine wpAny_bind (m := asInt? (.int k _)) (wpAny_of_eq (a := some k) rfl ?_)
  show wpAny _ _ (if Builtin.List.listTooLong k.toNat = true then _ else _) _ _ _
  rw [tl, if_neg (by decide)]
  exact wpAny_pure (qz _ (I'.tok _) _)
/-- what x's own __iter__ and __len__ do: a list's iterator, a number -/
def LiRun (K : PySem.W.Frag) (spI spL : Sp) (a q : Addr) (zs : List V) (H : Hp) (R : Hp → Prop) : Prop :=
  spI [.ref a] H (fun v H1 => ∃ l it, v = .ref it ∧ Ed [] H H1 ∧ H it = none ∧ H1 it = some (ItO l it 0) ∧ SqL K H1 l zs ∧ l ≠ q ∧ l ≠ it ∧
    spL [.ref a] H1 (fun w H2 => ∃ k : Int, w = .int k ∧ 0 ≤ k ∧ k ≤ 1000 ∧ Ed [] H1 H2 ∧ R H2) E0) E0
theorem li_extend {H : Hp} {s : Shared} {C gi gl a q dx : Addr} {fs : List (Str × V)} {fdI fdL : FuncData} {psI psL : List Str} {spI spL : Sp} {n : Nat} {A1 : Around} {zs : List V} {Rs : Result → Shared → Prop}
    (FI : FnOk X.prog X.w X.K X.mg X.base CX0 n gi fdI psI spI) (mI : SpM X.K C gi "__iter__") (bI : Binds X.K fdI psI []) (FL : FnOk X.prog X.w X.K X.mg X.base CX0 n gl fdL psL spL) (mL : SpM X.K C gl "__len__") (bL : Binds X.K fdL psL [])
    (sb : Sub X n A1.in1.in1) (sb1 : Sub X n A1.in1) (hh : A1.in1.handled = none) (I : Inv X pins σ H s) (ha : H a = some (.ins C dx fs)) (hq : H q = some (.lst [])) (zl : zs.length ≤ 1000)
    (hrun : LiRun X.K spI spL a q zs H fun _ => True) (hdone : ∀ H' s', Inv X pins σ H' s' → Ed [q] H H' → H' q = some (.lst zs) → Rs (.ok (.ret .none)) s') :
    wpAny (model X.prog X.w) A1.in1 (Builtin.List.listExtendWith (.ref q) (.ref a) .none)
      (fun fin s' => match fin with | .done f => Rs (.ok f) s' | .again c' => c'.quiet = true ∧ codeAny (model X.prog X.w) A1 c' Rs s') (fun e s' => Rs (.error e) s') s := by
  have hne : q ≠ a := ne_of hq ha (fun z => nomatch z)
  obtain ⟨mA, J, _⟩ := ins_get I.hok ha
  obtain ⟨od, J, _⟩ := J.look
  obtain ⟨m0, hF⟩ := I.fr
  unfold Builtin.List.listExtendWith
  refine wpAny_bind (J.type.here ?_)
  have h1 : Builtin.List.listSameRef (.ref q) (.ref a) = false := by simp [Builtin.List.listSameRef, hne]
  have h2 : (Value.ref C == Value.type "list") = false := rfl
  have h3 : (Value.ref C == Value.type "tuple") = false := rfl
  simp only [h1, h2, h3, Bool.or_false, Bool.false_eq_true, if_false]
  refine wpAny_bind (PySem.W.owit_iter hF I.ok.mod.kin J mI.at_ mI.fn ?_)
  have env : ∀ {A' : Around} {s' : Shared} {H' : Hp}, Sub X n A' → Inv X pins σ H' s' → Env0 X.prog X.w X.K X.mg X.base A' X.stack s' H' := fun sb I => by
    have e := I.env0
    exact ⟨by rw [sb.fr]; exact e.frames, e.mod, e.bs, e.bsz, e.funs, e.frf, e.hok, e.bare⟩
  refine wpAny_mono (runO (vs := [.ref a]) (EE := fun _ _ => False) FI sb1.room bI I (env sb1 I) (.cons rfl .nil) hrun) (fun u s' hq' => ?_) (fun _ _ e => e.elim)
  obtain ⟨z, H1, I1, rz, l, it, rfl, e1, nit, hit, hl, hlq, hli, hL⟩ := hq'
  cases rz
  have hT : s'.TypeIs (.ref it) "list_iterator" := ⟨_, itO_get I1 hit, rfl⟩
  unfold PySem.W.OwitIt
  refine wpAny_specialOf (name := Str.ofString "__next__") hT slot_listiter_next.lookup ?_
  have ha1 := e1.at0 ha
  have hq1 := e1.at0 hq
  have hiq : it ≠ q := fun z => by rw [z, hq] at nit; cases nit
  refine wpAny_bind (wpAny_holding (li_hint FL sb.room mL bL I1 (env sb I1) ha1 hL fun v H2 hg => ?_))
  obtain ⟨k, ek, k0, k1, e2, _⟩ := hg
  refine ⟨k, ek, k0, k1, fun s2 I2 b => ?_⟩
  have hq2 := e2.at0 hq1
  have hit2 : H2 it = some (ItO l it 0) := e2.keep _ _ (fun z => nomatch z) hit
  have hl2 := e2.sql0 hl
  have e12 : Ed [] H H2 := e1.ex e2
  have loop : ∀ s3, Inv X pins σ H2 s3 → codeAny (model X.prog X.w) A1 (.builtin "list.extend.loop" ⟨[.ref q, .ref it, .none], []⟩) Rs s3 := fun s3 I3 =>
    li_loop hh hlq hli hiq zl (H0 := H2) (fun H' s' I' hq' e' => hdone H' s' I' (Ed.two' e' (Ed.refl.ex e12) (.inl (by simp)) (.inr nit)) hq') zs.length 0 H2 s3 (by omega) I3 hit2 hl2 (by rw [hq2]; rfl) .refl
  obtain ⟨z, its, kk, r3, hl3, e3⟩ := I2.lstM hq2
  cases r3
  refine wpAny_ite_split (fun _ => ?_) (fun _ => wpAny_pure ⟨plainId_quiet PySem.F.plain_extend_loop _, loop _ I2⟩)
  refine wpAny_bind (wpAny_rule ?_)
  refine wpAny_bind ?_
  show wpAny _ _ (updateSeq q (·.push .none) >>= fun _ => updateSeq q (·.pop)) _ _ _
  refine wpAny_bind (wpAny_updateSeq e3 rfl ?_)
  have I3 := I2.lset (f := (·.push Value.none)) (its' := [Value.none]) (ys := [.non]) (t' := s2.toks) hq2 e3 (by simp) (.cons rfl .nil) (by rw [List.length_singleton, sizeLine_eq]; decide)
  obtain ⟨z4, its4, k4, r4, hl4, e4⟩ := I3.lstM upd_same
  obtain ⟨u4, rfl, ru4⟩ := r4.one
  refine wpAny_updateSeq e4 rfl ?_ (by show 1 ≤ sizeLine; rw [sizeLine_eq]; decide) (by show 0 ≤ sizeLine + 1; exact Nat.zero_le _)
  refine wpAny_pure ⟨plainId_quiet PySem.F.plain_extend_loop _, loop _ ?_⟩
  have I4 := I3.lset (f := (·.pop)) (its := [u4]) (its' := []) (ys := []) (t' := s2.toks) upd_same e4 (by rfl) .nil (Nat.zero_le _)
  rw [upd_upd] at I4
  have hH : upd H2 q (.lst []) = H2 := by
    funext b
    by_cases hb : b = q
    · rw [hb, upd_same, hq2]
    · rw [upd_ne hb]
  rw [hH] at I4
  exact I4
/-- list(x) -/
def rListLi (K : PySem.W.Frag) (C : Addr) (spI spL : Sp) : List V → Hp → VK → Prop := fun xs H Q => ∃ a dx fs zs, xs = [.ref a] ∧ H a = some (.ins C dx fs) ∧ zs.length ≤ 1000 ∧
  (∀ q H1, H q = none → Ed [] H H1 → LiRun K spI spL a q zs H1 fun _ => True) ∧ ∀ q H', H q = none → Ed [] H H' → H' q = some (.lst zs) → Q (.ref q) H'
theorem call_listLi {C gi gl : Addr} {fdI fdL : FuncData} {psI psL : List Str} {spI spL : Sp} {n : Nat} (hc : X.calm = true)
    (FI : FnOk X.prog X.w X.K X.mg X.base CX0 n gi fdI psI spI) (mI : SpM X.K C gi "__iter__") (bI : Binds X.K fdI psI []) (FL : FnOk X.prog X.w X.K X.mg X.base CX0 n gl fdL psL spL) (mL : SpM X.K C gl "__len__") (bL : Binds X.K fdL psL [])
    (hr : Room (n + 3) X.A) : CallR X (.type "list") (rListLi X.K C spI spL) := by
  intro pins s σ H xs us Q I rv h
  obtain ⟨a, dx, fs, zs, rfl, ha, zl, hrun, hq⟩ := h
  obtain ⟨u, rfl, ru⟩ := rv.one
  cases ru
  have sb3 : Sub X (n + 1) X.A.in1.in1 := (Sub.in1 (Sub.in1 (⟨hr, rfl⟩ : Sub X (n + 3) X.A)))
  refine callType_codes (Q₁ := fun obj s₁ => obj = .ref s.heap.objs.size ∧ s₁ = { s with heap := s.heap.push { cls := .type "list", data := .seq #[] } }) PySem.F.called_list (PySem.F.typeCall_list_1 _) PySem.F.entry_list_init
    (code_list_new _ ⟨rfl, rfl⟩) fun obj s₁ h₁ => ?_
  obtain ⟨rfl, rfl⟩ := h₁
  have hS : (s.heap.push { cls := .type "list", data := .seq #[] }).get? s.heap.objs.size = some { cls := .type "list", data := .seq #[] } := Heap.get?_push_size _ rfl
  refine ⟨⟨_, hS, rfl⟩, PySem.F.args_list_init_2 _ _, ?_⟩
  have fr : H s.heap.objs.size = none := I.hok.fresh (Nat.le_refl _)
  have I1 : Inv X pins σ (upd H s.heap.objs.size (.lst [])) { s with heap := s.heap.push { cls := .type "list", data := .seq #[] } } := I.lnew (its := []) (t' := s.toks) .nil (Nat.zero_le _)
  show wpAny _ _ (do let old ← Builtin.List.listItems (.ref s.heap.objs.size); Builtin.List.listUpdate (.ref s.heap.objs.size) (fun _ => #[]); letGo old.toList.reverse; Builtin.List.listExtendWith (.ref s.heap.objs.size) (.ref a) .none) _ _ _
  refine wpAny_bind ?_
  unfold Builtin.List.listItems
  refine wpAny_bind (wpAny_seqItems hS rfl (wpAny_pure ?_))
  show wpAny _ _ (updateSeq s.heap.objs.size (fun _ => #[]) >>= fun _ => letGo (#[] : Array Value).toList.reverse >>= fun _ => Builtin.List.listExtendWith (.ref s.heap.objs.size) (.ref a) .none) _ _ _
  refine wpAny_bind (wpAny_updateSeq hS rfl ?_)
  have I2 := I1.lset (f := fun _ => #[]) (its := []) (its' := []) (ys := []) (t' := s.toks) upd_same hS rfl .nil (Nat.zero_le _)
  rw [upd_upd] at I2
  refine wpAny_bind (wpAny_letGo ?_)
  have ha2 : upd H s.heap.objs.size (.lst []) a = some (.ins C dx fs) := by rw [upd_ne (ne_of_none ha fr)]; exact ha
  have e0 : Ed [] H (upd H s.heap.objs.size (.lst [])) := Ed.new fr
  exact li_extend (A1 := X.A.in1) (Rs := wants (fun r s₂ => r = .none ∧ EP X pins σ Q (.ref s.heap.objs.size) s₂) X.xe) FI mI bI FL mL bL (sb3.in1) (sb3.mono (Nat.le_succ _)) (I.ok.hd hc) I2 ha2 upd_same zl (hrun _ _ fr e0)
    (fun H' s' I' e' hz => ⟨rfl, .ref s.heap.objs.size, H', I', rfl, hq _ H' fr (e0.one e' (.inr fr)) hz⟩)
/-- either way of a call -/
theorem call_or {g : Value} {r r' : List V → Hp → VK → Prop} (a : CallR X g r) (b : CallR X g r') : CallR X g (fun xs H Q => r xs H Q ∨ r' xs H Q) := by
  intro pins s σ H xs us Q I rv h
  rcases h with h | h
  · exact a pins s σ H xs us Q I rv h
  · exact b pins s σ H xs us Q I rv h
end
end Vc

/-! Xv: defs with a star parameter: the promise, the instance made. -/
namespace Vc
open PySem PySem.Spec PyProof.Rows L2
/-- a def with a star parameter behind its others: what binding does -/
structure BindV (fd : FuncData) (ps : List Str) (pv : Str) : Prop where
  b : ∀ us rest : List Value, us.length = ps.length → bindArgs fd ⟨us ++ rest, []⟩ = (newTuple rest >>= fun t => pure (ps.zip us ++ [(pv, t)]))
theorem bind_star3 {B : List Value → Sem (List (Str × Value))} {p1 p2 p3 pv : Str} (h0 : ∀ a b c, B [a, b, c] = (newTuple [] >>= fun t => pure [(p1, a), (p2, b), (p3, c), (pv, t)])) (h1 : ∀ a b c r rs, B (a :: b :: c :: r :: rs) = (newTuple (r :: rs) >>= fun t => pure [(p1, a), (p2, b), (p3, c), (pv, t)])) :
    ∀ us rest : List Value, us.length = [p1, p2, p3].length → B (us ++ rest) = (newTuple rest >>= fun t => pure ([p1, p2, p3].zip us ++ [(pv, t)]))
  | [a, b, c], [], _ => h0 a b c
  | [a, b, c], r :: rs, _ => h1 a b c r rs
/-- a call's promise by the def's own: what is left over is a new tuple -/
def spV (n : Nat) (sp : Sp) : Sp := fun vs H Q E => ∃ ws rest, vs = ws ++ rest ∧ ws.length = n ∧ rest.length ≤ sizeLine ∧ ∀ p, H p = none → sp (ws ++ [V.ref p]) (upd H p (.tup rest)) Q E
section
variable {w : World} {P : Program} {K : PySem.W.Frag} {mg : Str → Option Value} {base : Heap}
theorem Fun.bindsV {x qual pv : Str} {st : Stmt} {f : Addr} {fd : FuncData} {ps : List Str} (F : Fun K x qual st f fd)
    (h : ∀ (kV doc pm : Value) (an : Option Addr) (cdv ct : Value) (us rest : List Value), us.length = ps.length → bindArgs (PySem.W.fnOf x qual (defArgs st) (defBody st) (defScope st) .none kV doc pm an cdv ct) ⟨us ++ rest, []⟩ = (newTuple rest >>= fun t => pure (ps.zip us ++ [(pv, t)]))) : BindV fd ps pv := by
  obtain ⟨oc, od, kV, doc, pm, an, cdv, ct, osl, rfl, lk, hcd⟩ := F.ex
  exact ⟨h kV doc pm an cdv ct⟩
theorem Fun.okV {x qual pv : Str} {st : Stmt} {f : Addr} {fd : FuncData} {N ps : List Str} {k : Nat} {sp : Sp} (F : Fun K x qual st f fd) (B : BindV fd ps pv) (S : FnScope N (ps ++ [pv]) (defScope st))
    (hbody : ∀ (cdv : Value) (A : Around) (outer : List Env) (s : Shared) (H : Hp) (vs : List V) (Q : VK) (E : XK), Room k (A.deeper (envOfC qual (defScope st) s.heap.objs.size f cdv)) → sp vs H Q E →
      ∃ t, PSs (cxOf (L2.CX P w) P w K mg base N qual (defScope st) f cdv A outer s H E) (defBody st) t ∧ t { nx := fun _ H' => Q .non H', rt := Q } (start N vs) H) : FnR P w K mg base (L2.CX P w) (k + 1) f (spV ps.length sp) := by
  obtain ⟨oc, od, kV, doc, pm, an, cdv, ct, osl, rfl, lk, hcd⟩ := F.ex
  exact StX.fn_star lk hcd S StX.cxUp B.b fun A outer s H vs Q E hr hsp => hbody cdv A outer s H vs Q E hr hsp
end
section
variable {X : Cx} {CX : CXT} {k : Nat} {f C : Addr} {sp : Sp} {E : L2.St → XK} {x : Str} {e : Expr} {es : List Expr} {t : TA} {p pos : Pos}
theorem run_makeV {pins : List (Addr × Obj)} {σ : L2.St} {H : Hp} {s : Shared} {Q : VK} {us : List Value} {vs : List V} (M : Mk X.K C f) (F : FnR X.prog X.w X.K X.mg X.base CX k f sp) (hr : Room (k + 1) X.A)
    (hx : PassesAt CX X σ (E σ)) (I : Inv X pins σ H s) (r : Vals vs us)
    (h : ∀ x dx, H x = none → H dx = none → dx ≠ x → sp (.ref x :: vs) (upd (upd H dx (.own x)) x (.ins C dx [])) (fun v H2 => v = .non ∧ Q (.ref x) H2) (E σ)) :
    wpAny (model X.prog X.w) X.A (call (.ref C) us) (EP X pins σ Q) X.xe s := by
  have hq := h (s.heap.objs.size + 1) s.heap.objs.size (I.hok.fresh (Nat.le_succ _)) (I.hok.fresh (Nat.le_refl _)) (Nat.ne_of_lt (Nat.lt_succ_self _))
  have I2 := Inv.made (C := C) I
  have r2 : Vals (V.ref (s.heap.objs.size + 1) :: vs) (Value.ref (s.heap.objs.size + 1) :: us) := .cons rfl r
  refine wpAny_call (make_map (f := f) I.kIn M.makes M.init (beq_iff_eq.mp M.fn) (codeAny_mono (F _ X.stack _ _ (Value.ref (s.heap.objs.size + 1) :: us) _ _ (E σ) (hr.make C us []) (I2.env0.make C us []) r2 hq) fun r s' hq' => ?_))
  cases r with
  | error e => exact hx pins _ _ e s' I2 hq'
  | ok fl =>
    cases fl with
    | ret u =>
      obtain ⟨v, H', I3, rv, ev, q3⟩ := I2.after hq'
      subst ev
      exact ⟨rv, ⟨V.ref (s.heap.objs.size + 1), H', I3, rfl, q3⟩⟩
    | next => exact False.elim hq'
    | brk => exact False.elim hq'
    | cont => exact False.elim hq'
/-- C(a, .., b), the class's __init__ with a star parameter -/
theorem pe_makeV (M : Mk X.K C f) (F : FnR X.prog X.w X.K X.mg X.base CX k f sp) (hr : Room (k + 1) X.A) (hg : Gl X x) (hm : X.mg x = some (.ref C)) (hx : ∀ σ, PassesAt CX X σ (E σ))
    (ha : PA X (e :: es) t) (hdb : (x == ("__debug__" : Str)) = false := by decide) (he : starEach (e :: es) X.env = (false, eval e X.env) :: starEach es X.env := by rfl) (hpl : (backTo pos (starEach es X.env)).any (·.1) = false := by rfl) :
    PE X (.Call (.Name x p) (e :: es) [] pos) (tMakeS C sp E t) := by
  refine ⟨fun pins s σ H Q I h => ?_⟩
  refine wpAny_Call_Name_kw (ld_glob I hg hm ?_ hdb)
  refine PySem.W.callWith_K (h₀ := X.base) I.ok.mod.kin M.kp (thn (ha.run pos pins s σ H _ I h) fun us s1 ⟨vs, H1, I1, r, q⟩ => ⟨I1.kIn, ?_⟩) he hpl
  exact run_makeV M F hr (hx σ) I1 r q
end
end Vc

/-! Xj: an except suite (as n) that raises another error from the caught one; star calls that make an instance (my own; ways of HandS.SuiteRaise, HandS.RaiseFrom, HandS.ExcInitHot). -/
namespace Vc
open PySem PySem.Spec PyProof.Rows L2 HotX L2H
/-! ### errors whose context is None leave a def -/
theorem cxUpN {P : Program} {w : World} : StX.CXUp (L2N.CX P w) := by
  rintro outer s H s2 H2 E e s' un kp ho ⟨a, B, H', cls, d, ea, fl, hok, ub, na, os, ag, he⟩
  refine ⟨a, B, H', cls, d, ea, fl, hok, ⟨fun b o q n hb => ub.keep b o (kp b o q) (un.free b o q n (by simp)) hb, fun b o q hb => ub.slot b o (kp b o q) hb, fun b o q n => ub.free b o (kp b o q) (un.free b o q n (by simp)),
    fun b o q hb => ub.there b o (kp b o q) hb, fun b xs q => ub.tups b xs (un.tups b xs q), fun b o xs q => ub.frzs b o xs (un.frzs b o xs q), fun b ps q => ?_⟩, na, os.trans ho, ag, he⟩
  obtain ⟨m1, e1⟩ := un.tbls b ps q
  obtain ⟨m2, e2⟩ := ub.tbls b _ e1
  exact ⟨m1 ++ m2, by rw [e2, Array.append_assoc]⟩
theorem cx_weak {P : Program} {w : World} {outer : List Env} {H : Hp} {s : Shared} {E : XK} {u : Value} {s' : Shared} (h : L2N.CX P w outer H s E u s') : L2.CX P w outer H s E u s' := by
  obtain ⟨a, B, H', cls, d, ea, fl, r⟩ := h
  exact ⟨a, B, H', cls, d, ea, flyingZ_imp (fun o z => z.zc) fl, r⟩
theorem fnr_weak {P : Program} {w : World} {K : PySem.W.Frag} {mg : Str → Option Value} {base : Heap} {k : Nat} {f : Addr} {sp : Sp} (F : FnR P w K mg base (L2N.CX P w) k f sp) : FnR P w K mg base (L2.CX P w) k f sp :=
  fun A outer s H us vs Q E hr e0 r h => codeAny_mono (F A outer s H us vs Q E hr e0 r h) fun r s' hq => by
    cases r with
    | error e => exact cx_weak hq
    | ok fl => cases fl <;> exact hq
section
variable {w : World} {P : Program} {K : PySem.W.Frag} {mg : Str → Option Value} {base : Heap}
theorem Fun.okVN {x qual pv : Str} {st : Stmt} {f : Addr} {fd : FuncData} {N ps : List Str} {k : Nat} {sp : Sp} (F : Fun K x qual st f fd) (B : BindV fd ps pv) (S : FnScope N (ps ++ [pv]) (defScope st))
    (hbody : ∀ (cdv : Value) (A : Around) (outer : List Env) (s : Shared) (H : Hp) (vs : List V) (Q : VK) (E : XK), Room k (A.deeper (envOfC qual (defScope st) s.heap.objs.size f cdv)) → sp vs H Q E →
      ∃ t, PSs (cxOf (L2N.CX P w) P w K mg base N qual (defScope st) f cdv A outer s H E) (defBody st) t ∧ t { nx := fun _ H' => Q .non H', rt := Q } (start N vs) H) : FnR P w K mg base (L2N.CX P w) (k + 1) f (spV ps.length sp) := by
  obtain ⟨oc, od, kV, doc, pm, an, cdv, ct, osl, rfl, lk, hcd⟩ := F.ex
  exact StX.fn_star lk hcd S cxUpN B.b fun A outer s H vs Q E hr hsp => hbody cdv A outer s H vs Q E hr hsp
end
/-- X(..), X's own __init__ walked; where nothing is handled -/
theorem pmk_oexN {X : Cx} {CX : CXT} {x : Str} {e : Expr} {es : List Expr} {ta : TA} {p pos : Pos} {C fI : Addr} {k : Nat} {fd : FuncData} {ps : List Str} {sp : Sp} (T : OexC X.K C) (iC : PySem.W.findIn X.K (.ref C) "__init__" = some (some (.ref fI))) (tI : PySem.W.typeIn X.K (.ref fI) = some (.type "function"))
    (F1 : FnOk X.prog X.w X.K X.mg X.base CX k fI fd ps sp) (hr : Room (k + 1) X.A) (hb : Binds X.K fd ps []) (hx : Passes CX X (fun _ _ _ => False)) (hg : Gl X x) (hm : X.mg x = some (.ref C)) (ha : PA X (e :: es) ta)
    (hdb : (x == ("__debug__" : Str)) = false := by decide) (he : starEach (e :: es) X.env = (false, eval e X.env) :: starEach es X.env := by rfl) (hpl : (backTo pos (starEach es X.env)).any (·.1) = false := by rfl) :
    L2N.PMk X (.Call (.Name x p) (e :: es) [] pos) (tMkO C sp [] ta) := by
  intro pins s σ H Q I h
  obtain ⟨nm, q, N, bs, bm, sn, sub, ab, col, dd, k0, k1, k2, k3, k5, hC, hbm⟩ := T.cls
  refine wpAny_Call_Name_kw (ld_glob I hg hm ?_ hdb)
  refine PySem.W.callWith_K (h₀ := X.base) I.ok.mod.kin T.kC (thn (ha.run pos pins s σ H _ I h) fun us s1 ⟨vs, H1, I1, r1, hz, q1⟩ => ⟨I1.kIn, ?_⟩) he hpl
  show wpAny _ _ (call (.ref C) us) _ _ _
  obtain ⟨hp, g, dr, tk, os⟩ := s1
  have hsz : hp.objs.size ≤ hp.objs.size + 1 := Nat.le_succ _
  have hn : H1 (hp.objs.size + 1) = none := I1.hok.fresh hsz
  have hq := q1 (hp.objs.size + 1) hn
  rw [List.append_nil] at hq
  have kk : ∀ b o, hp.get? b = some o → ((hp.push (PySem.W.kdv_tup us)).push (PySem.HandSPX.excO C hp.objs.size)).get? b = some o := fun b o e => Heap.get?_push_of_some _ (Heap.get?_push_of_some _ e)
  have hget : ((hp.push (PySem.W.kdv_tup us)).push (PySem.HandSPX.excO C hp.objs.size)).get? (hp.objs.size + 1) = some (PySem.HandSPX.excO C hp.objs.size) := by heap_get
  have I2 : Inv X pins σ (upd H1 (hp.objs.size + 1) (exo (hp.objs.size + 1) C none)) ⟨(hp.push (PySem.W.kdv_tup us)).push (PySem.HandSPX.excO C hp.objs.size), g, dr, tk, os⟩ :=
    I1.laid (t' := tk) (a := hp.objs.size + 1) (o := exo (hp.objs.size + 1) C none) (h' := (hp.push (PySem.W.kdv_tup us)).push (PySem.HandSPX.excO C hp.objs.size)) kk hsz (exo_ok hget)
  have r2 : Vals (V.ref (hp.objs.size + 1) :: vs) (Value.ref (hp.objs.size + 1) :: us) := .cons rfl r1
  have hl : (Value.ref (hp.objs.size + 1) :: us ++ []).length = ps.length := by
    have e := r2.length
    rw [F1.len _ _ _ _ hq] at e
    rw [List.append_nil]
    exact e.symm
  have hus : us.length ≤ sizeLine := by
    rw [← Paired.length r1, sizeLine_eq]
    omega
  have b2 := hb _ (Value.ref (hp.objs.size + 1) :: us) I2.kIn hl
  rw [List.append_nil] at b2
  refine wpAny_call (PySem.HandSPX.call_own F.excBase_ValueError (fun Y => PySem.HandSPX.refsVE_contains Y bm hbm) (I1.kIn _ _ hC) (PySem.W.looks_findIn I1.kIn iC) (fun self => PySem.W.bind_fn I1.kIn self tI) hus
    (codeAny_mono (F1.run _ X.stack _ _ ⟨Value.ref (hp.objs.size + 1) :: us, []⟩ (Value.ref (hp.objs.size + 1) :: us) _ _ (fun _ _ _ => False) (hr.make C us []) (I2.env0.make C us []) b2 r2 hq) fun r s' hq' => ?_))
  cases r with
  | error er => exact hx pins σ _ _ er s' I2 hq'
  | ok fl =>
    cases fl with
    | ret u =>
      obtain ⟨v, H2, os2, bare2, un2, hok2, rv, ev, d, fs, ea, ed, hd1, q2⟩ := hq'
      subst ev
      obtain ⟨h2, g2, d2, t2, os'⟩ := s'
      obtain ⟨t0, G, J, kG, ge, hoe, na⟩ := mk_end0 (d2 := d2) (t2 := t2) I1 hsz kk un2 hok2 os2 bare2 ea ed hd1
      refine ⟨rv, ⟨hp.objs.size + 1, _, _, ⟨G, g2, d2, t2, os'⟩, _, .ref C, some d, rfl, J, kG, ge, hoe, ⟨rfl, rfl, fun vs hv => ?_⟩, rfl, rfl, na, rfl, bare2, raises_own T.exC T.tyC, q2⟩⟩
      cases hv
      rfl
    | next => exact False.elim hq'
    | brk => exact False.elim hq'
    | cont => exact False.elim hq'
theorem ps_raiseN {X : Cx} {W : WX} {e : Expr} {t : L2.St → Hp → XK → Prop} {pos : Pos} (hc : X.calm = true) (tk : L2N.Takes X W) (he : L2N.PMk X e t) : PS X (.Raise (some e) none pos) (tRaise W t) := L2N.ps_raise hc tk he
/-! ### an error's __init__ also where one is handled -/
theorem FnHt.toH {P : Program} {w : World} {K : PySem.W.Frag} {mg : Str → Option Value} {base : Heap} {k : Nat} {f : Addr} {fd : FuncData} {ps : List Str} {sp : Sp} (F : FnHt P w K mg base k f fd ps sp) : FnH P w K mg base CX0 k f fd ps sp :=
  ⟨F.len, fun A outer s H args us vs Q E p hr _ _ e0 b r h => F.run A outer s H args us vs Q E hr e0 b r h⟩
theorem FunS.okT {P : Program} {w : World} {K : PySem.W.Frag} {mg : Str → Option Value} {base : Heap} {x qual : Str} {st : Stmt} {rest : List Stmt} {f C : Addr} {fd : FuncData} {sv : Str} {N ps : List Str} {k : Nat} {sp : Sp} {e : Expr} {z : Str} {p0 p1 ap pos spos : Pos} {pl : Sem Bool}
    (F : FunS P K mg x qual st f fd C sv) (S : SupScope N ps (defScope st)) (T : OexC K C) (hb : defBody st = .Expr (.Call (.Attribute (.Call (.Name "super" p0) [] [] p1) "__init__" ap) [e] [] pos) spos :: rest) (hN : N[0]? = some sv) (hself : (defScope st).names.lookup sv = some .local)
    (len : ∀ vs H Q E, sp vs H Q E → vs.length = ps.length)
    (hE : ∀ (X : Cx), PE X e (tC (.str z)))
    (hi : ∀ L cd cc, interactive (PySem.W.ksEnv qual (defScope st) L f cd cc) = false)
    (hs : ∀ L cd cc, swapsWith (.Call (.Attribute (.Call (.Name "super" p0) [] [] p1) "__init__" ap) [e] [] pos) none spos.line (PySem.W.ksEnv qual (defScope st) L f cd cc) = pure false)
    (hst : ∀ L cd cc, starEach [e] (PySem.W.ksEnv qual (defScope st) L f cd cc) = (false, eval e (PySem.W.ksEnv qual (defScope st) L f cd cc)) :: starEach [] (PySem.W.ksEnv qual (defScope st) L f cd cc))
    (ht : ∀ L cd cc, eval (.Call (.Attribute (.Call (.Name "super" p0) [] [] p1) "__init__" ap) [e] [] pos) (PySem.W.ksEnv qual (defScope st) L f cd cc) = (do
      let ov ← attributeBase (.Call (.Name "super" p0) [] [] p1) "__init__" (PySem.W.ksEnv qual (defScope st) L f cd cc) (eval (.Call (.Name "super" p0) [] [] p1) (PySem.W.ksEnv qual (defScope st) L f cd cc))
      standAt ap.atName
      let (fm, first) ← holding [ov] (getMethod ov "__init__" pl)
      callWith pos fm first (backTo pos (starEach [e] (PySem.W.ksEnv qual (defScope st) L f cd cc))) (backToKw pos (keywordEach [] (PySem.W.ksEnv qual (defScope st) L f cd cc)))))
    (hbody : ∀ (cda cc : Addr) (A : Around) (outer : List Env) (s : Shared) (H : Hp) (vs : List V) (Q : VK) (E : XK), sp vs H Q E →
      ∃ a, vs[0]? = some (.ref a) ∧ H a = some (exo a C none) ∧ ∃ t, PSs (cxS false CX0 P w K mg base N qual (defScope st) f (.ref cda) cc A outer s H E) rest t ∧ t { nx := fun _ H' => Q .non H', rt := Q } (start N vs) H) :
    FnHt P w K mg base (k + 1) f fd ps sp :=
  ⟨len, fun A outer s H args us vs Q E hr e0 hbd r hsp => FunS.code false F S T hb hN hself len hE hi hs hst ht hbody A outer s H args us vs Q E hr.depth (fun z => nomatch z) e0 hbd r hsp⟩
/-! ### raise X(..) from n, in an except suite -/
def refFrom (b : Addr) (h : Heap) (a : Addr) : Heap := (h.update a (Obj.mapFields (·.setIfInBounds 3 (.ref b)))).update a (Obj.mapFields (·.setIfInBounds 4 (.bool true)))
theorem refFrom_at {b : Addr} {h : Heap} {a : Addr} {oe : Obj} {vs : Array Value} (ha : h.get? a = some oe) (hd : oe.data = .fields vs) :
    (refFrom b h a).get? a = some ((oe.mapFields (·.setIfInBounds 3 (.ref b))).mapFields (·.setIfInBounds 4 (.bool true))) ∧ ((oe.mapFields (·.setIfInBounds 3 (.ref b))).mapFields (·.setIfInBounds 4 (.bool true))).data = .fields ((vs.setIfInBounds 3 (.ref b)).setIfInBounds 4 (.bool true)) := by
  have hd3 := Obj.data_mapFields hd (·.setIfInBounds 3 (.ref b))
  have ha3 := Heap.get?_update_self (Obj.mapFields (·.setIfInBounds 3 (.ref b))) ha (Obj.isFreed_of_fields hd3)
  have hd4 := Obj.data_mapFields hd3 (·.setIfInBounds 4 (.bool true))
  exact ⟨Heap.get?_update_self (Obj.mapFields (·.setIfInBounds 4 (.bool true))) ha3 (Obj.isFreed_of_fields hd4), hd4⟩
theorem refFrom_other {c : Addr} {h : Heap} {a b : Addr} (hne : a ≠ b) : (refFrom c h a).get? b = h.get? b := by
  unfold refFrom
  rw [Heap.get?_update_other _ _ hne, Heap.get?_update_other _ _ hne]
theorem raise_made_hotF {prog : Program} {w : World} {A : Around} {E : Value → Shared → Prop} {env : Env} {s : Shared} {x c : Sem Value} {Q : Flow → Shared → Prop} {x1 b : Addr}
    (h : wpAny (model prog w) A x (fun v s₁ => ∃ a oe vs cls ob vb, v = .ref a ∧ s₁.heap.get? a = some oe ∧ oe.cls = cls ∧ oe.data = .fields vs ∧ vs[1]? = some .none ∧ 4 < vs.size ∧ x1 ≠ a ∧ HotAt A x1 s₁.heap ∧
      (∀ Q' : Value → Shared → Prop, Q' (.ref b) s₁ → wpAny (model prog w) A c Q' E s₁) ∧ s₁.heap.get? b = some ob ∧ ob.data = .fields vb ∧ PySem.W.Looks (model prog w) s₁.heap (isSubtype ob.cls (.type "BaseException")) true ∧
      PySem.W.Looks (model prog w) s₁.heap (isSubtype cls (.type "BaseException")) true ∧ PySem.W.Looks (model prog w) (refFrom b s₁.heap a) (typeOf cls) (.type "type") ∧
      E (.ref a) { s₁ with heap := (refFrom b s₁.heap a).update a (Obj.mapFields (·.setIfInBounds 2 (.ref x1))) }) E s) :
    wpAny (model prog w) A (raiseStmt env (some x) (some c)) Q E s := by
  unfold raiseStmt
  dsimp only
  refine wpAny_bind (wpAny_mono h (fun v s₁ h₁ => ?_) fun _ _ x => x)
  obtain ⟨a, oe, vs, cls, ob, vb, rfl, ha, hcls, hd, h1, hi, hne, hot, hcs, hbo, hbd, LB, L1, L3, hE⟩ := h₁
  have LT : PySem.W.Looks (model prog w) s₁.heap (typeOf (.ref a)) cls := fun A Q E s k q => wpAny_typeOf_ref (k _ _ ha) (by rw [hcls]; exact q)
  have LI : PySem.W.Looks (model prog w) s₁.heap (isInstance (.ref a) (.type "BaseException")) true := LT.andThen L1
  have LTb : PySem.W.Looks (model prog w) s₁.heap (typeOf (.ref b)) ob.cls := fun A Q E s k q => wpAny_typeOf_ref (k _ _ hbo) q
  have LIb : PySem.W.Looks (model prog w) s₁.heap (isInstance (.ref b) (.type "BaseException")) true := LTb.andThen LB
  have hnt : ∀ {Q' : Bool → Shared → Prop}, Q' false s₁ → wpAny (model prog w) A (isType (.ref a)) Q' E s₁ := by
    intro Q' hq
    simp only [isType, loadHead]
    refine wpAny_bind (wpAny_loadPart ha ?_)
    rw [hd]; exact wpAny_pure hq
  have hntb : ∀ {Q' : Bool → Shared → Prop}, Q' false s₁ → wpAny (model prog w) A (isType (.ref b)) Q' E s₁ := by
    intro Q' hq
    simp only [isType, loadHead]
    refine wpAny_bind (wpAny_loadPart hbo ?_)
    rw [hbd]; exact wpAny_pure hq
  have hd3 := Obj.data_mapFields hd (·.setIfInBounds 3 (.ref b))
  have ha3 := Heap.get?_update_self (Obj.mapFields (·.setIfInBounds 3 (.ref b))) ha (Obj.isFreed_of_fields hd3)
  obtain ⟨ha4, hd4⟩ := refFrom_at (b := b) ha hd
  have s3 : 3 < vs.size := by omega
  have s4 : 4 < (vs.setIfInBounds 3 (Value.ref b)).size := by rw [set_size]; exact hi
  have s2 : 2 < ((vs.setIfInBounds 3 (Value.ref b)).setIfInBounds 4 (Value.bool true)).size := by rw [set_size, set_size]; omega
  have h14 : ((vs.setIfInBounds 3 (Value.ref b)).setIfInBounds 4 (Value.bool true))[1]? = some Value.none := set_other (by decide) (set_other (by decide) h1)
  have hcls4 : ((oe.mapFields (·.setIfInBounds 3 (.ref b))).mapFields (·.setIfInBounds 4 (.bool true))).cls = cls := by rw [Obj.cls_mapFields, Obj.cls_mapFields]; exact hcls
  have LT4 : PySem.W.Looks (model prog w) (refFrom b s₁.heap a) (typeOf (.ref a)) cls := fun A Q E s k q => wpAny_typeOf_ref (k _ _ ha4) (by rw [hcls4]; exact q)
  have hnt4 : ∀ {Q' : Bool → Shared → Prop}, Q' false { s₁ with heap := refFrom b s₁.heap a } → wpAny (model prog w) A (isType (.ref a)) Q' E { s₁ with heap := refFrom b s₁.heap a } := by
    intro Q' hq
    simp only [isType, loadHead]
    refine wpAny_bind (wpAny_loadPart ha4 ?_)
    rw [hd4]; exact wpAny_pure hq
  have hot4 : HotAt A x1 (refFrom b s₁.heap a) := by
    obtain ⟨q1, o, vs', q2, q3, q4⟩ := hot
    exact ⟨q1, o, vs', by rw [refFrom_other (Ne.symm hne)]; exact q2, q3, q4⟩
  have rest : wpAny (model prog w) A (do
      let b ← isType (.ref a)
      if b = true then do
        let e ← holding [.ref a] (raisedFor (.ref a) (.ref a))
        setFlight e none
        raiseNew e
      else do
        let e ← raisedInstance (.ref a)
        setFlight e none
        raiseNew e : Sem Flow) Q E { s₁ with heap := refFrom b s₁.heap a } := by
    refine wpAny_bind (hnt4 ?_)
    simp only [Bool.false_eq_true, if_false]
    unfold raisedInstance
    refine wpAny_bind (wpAny_bind (LT4.here (wpAny_bind (L3.here ?_))))
    rw [if_pos (beq_self_eq_true _)]
    refine wpAny_pure ?_
    unfold setFlight
    refine wpAny_bind (wpAny_bind (wpAny_field ha4 hd4 h14 ?_))
    rw [if_neg (by decide)]
    refine wpAny_pure ?_
    exact raiseNew_hot hot4 hne ha4 hd4 s2 hE
  refine wpAny_bind (wpAny_holding (hcs _ (wpAny_bind (wpAny_pure ?_))))
  dsimp only
  refine wpAny_bind (wpAny_holding ?_)
  unfold excFromValue isExcClass
  refine wpAny_bind (wpAny_bind (hnt ?_))
  simp only [Bool.false_eq_true, if_false]
  refine wpAny_pure ?_
  simp only [Bool.false_eq_true, if_false]
  refine wpAny_bind (LI.here ?_)
  simp only [if_true]
  refine wpAny_pure ?_
  rw [if_neg (show ¬ ((Value.ref b == Value.none) = true) from by simp)]
  refine wpAny_bind (wpAny_holding ?_)
  refine wpAny_bind (wpAny_bind (hntb ?_))
  simp only [Bool.false_eq_true, if_false]
  refine wpAny_pure ?_
  simp only [Bool.false_eq_true, if_false]
  refine wpAny_bind (LIb.here ?_)
  simp only [if_true]
  refine wpAny_pure ?_
  refine wpAny_bind (wpAny_setField ha hd s3 (wpAny_bind (wpAny_setField ha3 hd3 s4 ?_)))
  exact rest
/-- raise X(..) from n, n the caught error -/
def tRaiseF (K : PySem.W.Frag) (b : Addr) (cls : Value) (i : Nat) (W : WX) (t : L2.St → Hp → XK → Prop) : TS := fun _ σ H => σ[i]? = some (some (.ref b)) ∧ (∃ C, cls = .ref C ∧ PySem.W.subIn K (.ref C) (.type "BaseException") = some true) ∧ t σ H fun cls d H' => W cls d σ H'
theorem ps_raiseHF {X : Cx} {W : WX} {e : Expr} {t : L2.St → Hp → XK → Prop} {i : Nat} {n : Str} {b : Addr} {ob : Obj} {cls : Value} {d : Option Addr} {np pos : Pos} (hp : (b, ob) ∈ X.pn) (hz : Zc cls d ob) (hf : ∃ vs, ob.data = .fields vs) (hc : HotC X) (tk : L2.Takes X W) (he : PMk5 X e t)
    (hi : X.N[i]? = some n) (hl : X.env.kindOf n = some .local) (hdb : (n == ("__debug__" : Str)) = false := by decide) :
    PS X (.Raise (some e) (some (.Name n np)) pos) (tRaiseF X.K b cls i W t) := by
  refine ⟨fun pins s σ H D I h => ?_⟩
  obtain ⟨hσ, ⟨C, rfl, hsub⟩, h⟩ := h
  obtain ⟨p, ⟨hh, v1, e1, c1⟩, hpn⟩ := hc
  obtain ⟨vb, hvb⟩ := hf
  show wpAny _ _ (do standAt pos; raiseStmt X.env (some (do let v ← eval e X.env; standAt pos; pure v)) (some (do let v ← eval (.Name n np) X.env; standAt pos; pure v))) _ _ _
  refine wpAny_bind (wpAny_standAt (raise_made_hotF (x1 := p.1) (b := b) (wpAny_bind (wpAny_mono (he pins s σ H _ I h) (fun u s1 hu => wpAny_bind (wpAny_standAt (wpAny_pure ?_))) fun _ _ x => x))))
  obtain ⟨⟨a, oe, vs, sI, H', cls, d', rfl, J, k, hne, ha, hz', hd, h1, na, os, ag, r, q⟩, h5⟩ := hu
  have hi5 : 4 < vs.size := h5 a oe vs rfl ha hd
  have k4 : ∀ c u, sI.heap.get? c = some u → (refFrom b s1.heap a).get? c = some u := fun c u z => by
    have nab : a ≠ c := fun y => by
      rw [← y, hne] at z
      cases z
    rw [refFrom_other nab]
    exact k c u z
  obtain ⟨r1, _⟩ := r (model X.prog X.w) s1.heap (J.kIn.keeps k)
  obtain ⟨_, r2⟩ := r (model X.prog X.w) (refFrom b s1.heap a) (J.kIn.keeps k4)
  have P1 := (J.pin p (List.mem_append_left _ hpn)).1
  have P2 := k _ _ (J.pin (b, ob) (List.mem_append_left _ hp)).1
  have nap : p.1 ≠ a := fun z => by
    rw [z, hne] at P1
    cases P1
  obtain ⟨ha4, hd4⟩ := refFrom_at (b := b) ha hd
  have h12 : (((vs.setIfInBounds 3 (Value.ref b)).setIfInBounds 4 (Value.bool true)).setIfInBounds 2 (Value.ref p.1))[1]? = some Value.none := set_other (by decide) (set_other (by decide) (set_other (by decide) h1))
  have cause : ∀ Q' : Value → Shared → Prop, Q' (.ref b) s1 → wpAny (model X.prog X.w) X.A (do let v ← eval (.Name n np) X.env; standAt pos; pure v) Q' X.xe s1 := fun Q' q' => by
    obtain ⟨m, hn, hlk⟩ := id J.loc
    obtain ⟨u, ru, lu⟩ := hlk i n _ hi hσ (.inl hl)
    obtain rfl : u = Value.ref b := ru
    have hm : m n = some (.ref b) := by
      rcases lu with ⟨_, e⟩ | ⟨z, _⟩
      · exact e
      · rcases z with z | z
        · have z : X.env.scope.names.lookup n = some .cell := z
          rw [show X.env.scope.names.lookup n = some .local from hl] at z; cases z
        · have z : X.env.scope.names.lookup n = some .free := z
          rw [show X.env.scope.names.lookup n = some .local from hl] at z; cases z
    exact wpAny_bind (wpAny_Name (wpAny_loadName_local J.ok.kind hl (hn.keeps k) hm (wpAny_bind (wpAny_standAt (wpAny_pure q')))) hdb)
  refine ⟨a, oe, vs, cls, ob, vb, rfl, ha, hz'.1, hd, h1, hi5, nap, ⟨hh, p.2, v1, k _ _ P1, e1, c1⟩, cause, P2, hvb, by rw [hz.1]; exact PySem.W.looks_subIn (J.kIn.keeps k) hsub, r1, r2, tk _ _ (XE.new J (fun c u z => ?_) hne (Heap.get?_update_self _ ha4 (Obj.isFreed_of_fields (Obj.data_mapFields hd4 _)))
    ⟨by rw [Obj.cls_mapFields, Obj.cls_mapFields, Obj.cls_mapFields]; exact hz'.1, by rw [HandSPX.dict_mapFields, HandSPX.dict_mapFields, HandSPX.dict_mapFields]; exact hz'.2.1⟩ (Obj.data_mapFields hd4 _) h12 na os ag q)⟩
  have nac : a ≠ c := fun y => by
    rw [← y, hne] at z
    cases z
  show ((refFrom b s1.heap a).update a (Obj.mapFields (·.setIfInBounds 2 (.ref p.1)))).get? c = some u
  rw [Heap.get?_update_other _ _ nac]
  exact k4 c u z
/-- the caught error's field, where it is pinned -/
theorem pe_xfP {X : Cx} {a : Addr} {oe : Obj} {cls : Value} {d : Option Addr} {e : Expr} {te : TE} {pos : Pos} {n : Str} (hp : (a, oe) ∈ X.pn) (hz : Zc cls d oe) (hf : ∃ vs, oe.data = .fields vs) (he : PE X e te) (hb : attributeBase e n X.env (eval e X.env) = eval e X.env := by rfl) :
    PE X (.Attribute e n pos) (tXfX X.K a cls d n te) := by
  refine ⟨fun pins s σ H Q I h => ?_⟩
  refine attr_of hb (thn (he.run pins s σ H _ I h) fun u s1 hh => ?_)
  obtain ⟨x, H1, I1, rx, ex, C, ec, T, hno, dd, fs, v, ed, ea, l, q⟩ := hh
  subst ex
  obtain rfl : u = Value.ref a := rx
  subst ec
  subst ed
  obtain ⟨ha, _⟩ := I1.pin (a, oe) (List.mem_append_left _ hp)
  obtain ⟨vs, hd⟩ := hf
  have hx : ObjOk X.prog X.w H1 s1.heap dd (.xd fs) := I1.hok dd _ ea
  obtain ⟨mA, hns, hr⟩ := hx
  obtain ⟨od, ho, hl⟩ := lookIn_ns hns
  obtain ⟨u, hu, ru⟩ := RelO.some_of (v := v) (o := mA n) (by rw [← l]; exact hr n)
  have J : PySem.W.InstAt s1.heap a oe C (some od) := ⟨ha, hz.1, by unfold PySem.W.notCls; rw [hd] <;> rfl, by rw [hz.2]; exact ho⟩
  exact HandSPX.exc_get I1.kIn J T.ga T.gg T.exC (PySem.W.findObj_own T.hdC hno rfl (by rw [hl, hu])) (handed_of ru) ⟨v, H1, I1.tok _, ru, q⟩
/-! ### try: .. except x as n: a suite that raises -/
/-- the context of such a suite -/
abbrev suiteY (X : Cx) (a : Addr) (pn : List (Addr × Obj)) (xe : Value → Shared → Prop) : Cx := (suiteX X a pn).wish xe
section
variable {X : Cx} {pins : List (Addr × Obj)} {σ : L2.St} {H : Hp} {s : Shared} {i : Nat} {n : Str}
/-- the name n is gone: the state, where all else stays -/
theorem inv_gone {G : Heap} {v0 : Option Value} {m : Str → Option Value} (I : Inv X pins σ H s) (hN : X.N.Nodup) (hi : X.N[i]? = some n) (hlk : ∀ (j : Nat) (y : Str) (v : V), X.N[j]? = some y → σ[j]? = some (some v) → Vis X.env.scope y → ∃ u, RelV v u ∧ Look X.env s.heap m y u)
    (hn' : G.Ns X.env.locals (fun x => if x = n then v0 else m x)) (hs : Heap.SameBut X.env.locals s.heap G) : Inv X pins (σ.set i none) H { s with heap := G } := by
  have neL : ∀ b o, X.s_0.heap.get? b = some o → b ≠ X.env.locals := fun b o e => Nat.ne_of_lt (Nat.lt_of_lt_of_le (Heap.lt_size e) I.ok.above)
  refine ⟨I.ok, I.os, I.bare, ⟨fun b o e n hb hx => ?_, fun b o e n hb hx => ?_, I.base.free, fun b o e hx => ?_, I.base.tups, I.base.frzs, I.base.tbls⟩, ⟨_, hn', fun j y v' e1 e2 e3 => ?_⟩, fun y c e => ?_, I.free, I.freeC, fun p hp => ?_, fun b ob e => ?_, by simpa using I.len⟩
  · exact (hs.2 b (neL b o e)).trans (I.base.keep b o e n hb hx)
  · obtain ⟨sl, e1⟩ := I.base.slot b o e n hb hx
    exact ⟨sl, (hs.2 b (neL b o e)).trans e1⟩
  · obtain ⟨o', e1⟩ := I.base.there b o e hx
    exact ⟨o', (hs.2 b (neL b o e)).trans e1⟩
  · by_cases hj : j = i
    · subst hj
      by_cases hlt : j < σ.length
      · rw [List.getElem?_set_self hlt] at e2; cases e2
      · rw [List.getElem?_eq_none (by simpa using hlt)] at e2; cases e2
    · rw [List.getElem?_set_ne (Ne.symm hj)] at e2
      obtain ⟨u', r', q⟩ := hlk j y v' e1 e2 e3
      refine ⟨u', r', ?_⟩
      rcases q with ⟨k, e⟩ | ⟨k, c, e, z⟩
      · have ny : y ≠ n := fun e => hj (nodup_ix hN e1 (e ▸ hi))
        exact .inl ⟨k, (if_neg ny).trans e⟩
      · exact .inr ⟨k, c, e, z.sameBut hs (I.cne y c e)⟩
  · obtain ⟨w', z⟩ := I.cell y c e
    exact ⟨w', z.sameBut hs (I.cne y c e)⟩
  · obtain ⟨e, n, ne, nf, d⟩ := I.pin p hp
    exact ⟨(hs.2 p.1 ne).trans e, n, ne, nf, d⟩
  · refine (I.hok b ob e).stay (fun c w' hc q => (hs.2 c ?_).trans q) (fun _ q => q) fun _ _ q => q
    intro z
    subst z
    rcases hc with hc | hc
    · rw [← hc, I.free] at e; cases e
    · rw [I.free] at hc; cases hc
end
theorem funFrames_sameBut {h1 h2 B : Heap} {L : Addr} {o2 : Obj} (hs : Heap.SameBut L h1 h2) (e2 : h2.get? L = some o2) (hd : ∀ vs, o2.data ≠ .fields vs) : ∀ {l : List Env}, h1.FunFrames B l → h2.FunFrames B l
  | [], _ => trivial
  | env :: rest, hl => by
    obtain ⟨k, ⟨L', o, f1, f2, f3, f4⟩, r⟩ := hl
    refine ⟨k, ⟨L', ?_⟩, funFrames_sameBut hs e2 hd r⟩
    by_cases z : L' = L
    · subst z
      exact ⟨o2, f1, f2, e2, hd⟩
    · exact ⟨o, f1, f2, (hs.2 L' z).trans f3, f4⟩
theorem gone_raise {X : Cx} {W : WX} {i : Nat} {n : Str} {A : Around} {Ex Ey Ez : Value → Shared → Prop} {pos : Pos} {what : String} {u : Value} {s : Shared}
    (hs : X.stack = X.env :: X.outer) (hf : X.env.frame = some X.env.locals) (hN : X.N.Nodup) (hi : X.N[i]? = some n) (hl : X.env.kindOf n = some .local) (hA : A.frames = some (X.env :: X.outer)) (x : L2.XE X W u s)
    (K : ∀ s', L2.XE X (fun cls d σ H => ∃ σ0 : L2.St, σ = σ0.set i none ∧ W cls d σ0 H) u s' → Ex u s') :
    wpAny (model X.prog X.w) A (noteFrame u X.env) (fun _ s1 => wpAny (model X.prog X.w) A (do bindName X.env n .none; unbindBehindTheSuite X.env n pos) (fun _ s2 => wpAny (model X.prog X.w) A (passOn what u X.env : Sem Flow) (fun _ _ => False) Ex s2) Ey s1) Ez s := by
  obtain ⟨a, B, sI, pins, σ, H, cls, d, rfl, I, nb, up, sky, na, os, ag, w⟩ := x
  rw [hs] at sky
  have fin : ∀ h1, HandSPX.HeldZ B (X.env :: X.outer) a (Zc cls d) X.env.locals h1 → s.heap.UpToSlots h1 → wpAny (model X.prog X.w) A (do bindName X.env n .none; unbindBehindTheSuite X.env n pos) (fun _ s2 => wpAny (model X.prog X.w) A (passOn what (.ref a) X.env : Sem Flow) (fun _ _ => False) Ex s2) Ey { s with heap := h1 } := by
    intro h1 hh up1
    obtain ⟨m, hn, hlk⟩ := id I.loc
    obtain ⟨oL, es, ep, hoL, hdL, hkL, hmL⟩ := id hn
    have nfL : ∀ vs, oL.data ≠ .fields vs := fun vs z => by rw [hdL] at z; cases z
    obtain ⟨sl, e1⟩ := (up.trans up1) _ _ hoL nfL
    have hn1 : h1.Ns X.env.locals m := ⟨_, es, ep, e1, hdL, hkL, hmL⟩
    have hcls : (X.env.scope.kind == .class || (X.env.scope.kind == .module && X.env.locals != X.env.globals)) = false := by rw [I.ok.kind]; rfl
    refine wpAny_nameGoes_keeps (s := { s with heap := h1 }) hl hn1 hcls fun h2 v hn2 hs2 => ?_
    obtain ⟨o2, es2, ep2, ho2, hd2, r2⟩ := id hn2
    have nf2 : ∀ vs, o2.data ≠ .fields vs := fun vs z => by rw [hd2] at z; cases z
    have gs : Heap.SameBut X.env.locals sI.heap (sI.heap.update X.env.locals fun _ => o2) := Heap.SameBut.update ..
    have gL : (sI.heap.update X.env.locals fun _ => o2).get? X.env.locals = some o2 := Heap.get?_update_self (fun _ => o2) hoL (Obj.isFreed_of_dict hd2)
    have I2 := inv_gone I hN hi hlk (G := sI.heap.update X.env.locals fun _ => o2) (v0 := v) ⟨o2, es2, ep2, gL, hd2, r2⟩ gs
    obtain ⟨k1, k2, k3, oe, vs, T, oT, ts, he, hz, hd, hv1, hnT, hTe, hT, hdT, h3⟩ := hh
    have naL : a ≠ X.env.locals := fun z => by rw [z, e1] at he; injection he with he; rw [← he] at hd; exact nfL vs hd
    have nTL : T ≠ X.env.locals := fun z => by rw [z, e1] at hT; injection hT with hT; rw [← hT] at hdT; exact nfL ts hdT
    have BL : B.get? X.env.locals = none := by
      obtain ⟨_, ⟨L', o, f1, f2, _, _⟩, _⟩ := id k3
      rw [hf] at f1; injection f1 with f1; rw [f1]; exact f2
    have b1 : B.StaysIn h2 := fun b o e => (hs2.2 b fun z => by rw [z, BL] at e; cases e).trans (k1 b o e)
    have b3 := funFrames_sameBut hs2 ho2 nf2 k3
    have b4 : HandSPX.TracedZ h2 B a (Zc cls d) (rawInt X.env.locals) := ⟨oe, vs, T, oT, ts, (hs2.2 a naL).trans he, hz, hd, hv1, hnT, hTe, (hs2.2 T nTL).trans hT, hdT, h3⟩
    unfold PySem.passOn
    refine wpAny_bind (wpAny_field ((hs2.2 a naL).trans he) hd hv1 ?_)
    rw [if_neg (show ¬ ((Value.ref T == Value.none) = true) from by simp)]
    have nbG : ∀ b o, (sI.heap.update X.env.locals fun _ => o2).get? b = some o → b ∉ frs X.stack → B.get? b = some o := fun b o e hb => by
      refine nb b o ?_ hb
      rw [← gs.2 b fun z => hb (by rw [z, hs]; exact List.mem_filterMap.mpr ⟨X.env, List.mem_cons_self, hf⟩)]
      exact e
    have upG : ∀ h4, h2.UpToSlots h4 → (sI.heap.update X.env.locals fun _ => o2).UpToSlots h4 := fun h4 u4 b o e nfo => by
      by_cases z : b = X.env.locals
      · rw [z, gL] at e
        injection e with e
        subst e
        rw [z]
        exact u4 _ _ ho2 nf2
      · rw [gs.2 b z] at e
        obtain ⟨sl5, e5⟩ := (up.trans up1) b o e nfo
        obtain ⟨sl6, e6⟩ := u4 b _ ((hs2.2 b z).trans e5) nfo
        exact ⟨sl6, e6⟩
    have fin2 : wpAny (model X.prog X.w) A (setFlight (.ref a) X.env.frame) (fun _ s4 => wpAny (model X.prog X.w) A (throw (.ref a) : Sem Flow) (fun _ _ => False) Ex s4) Ex { s with heap := h2, toks := s.toks + 1 } := by
      rw [hf]
      refine HandSPX.setFlight_anyZ (s := { s with heap := h2, toks := s.toks + 1 }) b1 b3 b4 fun h4 c1 c2 c3 c4 => wpAny_throw (K _ ?_)
      exact ⟨a, B, { sI with heap := sI.heap.update X.env.locals fun _ => o2 }, pins, σ.set i none, H, cls, d, rfl, I2, nbG, upG h4 c4, .inr (.inr (by rw [hs]; exact ⟨c1, k2, c2, c3⟩)), na, os, ag, σ, rfl, w⟩
    first
      | exact wpAny_bind (wpAny_pure (wpAny_bind fin2))
      | exact wpAny_bind fin2
  rcases sky with ⟨hB, hn, hl', oe, vs, he, hz, hd, h1⟩ | fl | hh
  · exact HandSPX.look_newZ Zc.steady hA hl' hf he hB hn hd h1 hz fin
  · exact HandSPX.looks_onZ Zc.steady hA hf fl fin
  · exact HandSPX.againZ hf hh.2.2.2 (fin s.heap hh (Heap.UpToSlots.refl _))
def tTryR (K : PySem.W.Frag) (c : Value) (i : Nat) (ts : Addr → Value → Option Addr → TS) (Wout : WX) (tb : WX → TS) : TS := fun D σ H => tb (wAs K c i ts Wout D) D σ H
section
variable {X : Cx} {x n : Str} {c : Value} {i : Nat} {body suite : List Stmt} {b₀ : Stmt} {np pos pos' : Pos} {tb : WX → TS} {ts : Addr → Value → Option Addr → TS} {Wout : WX}
theorem ps_tryR (hs : X.stack = X.env :: X.outer) (hf : X.env.frame = some X.env.locals) (hN : X.N.Nodup) (hi : X.N[i]? = some n) (hln : X.env.kindOf n = some .local) (hc : Names X x c) (hpa : ∀ hd : Option Value, PassesOwnAt (model X.prog X.w) (X.A.mark hd) X.A X.env X.xe) (tk : L2.Takes X Wout)
    (hb : ∀ (W : WX) (pn : List (Addr × Obj)) (xe : Value → Shared → Prop), L2N.Takes (X.tr pn xe) W → PassesOwn (model X.prog X.w) X.A X.env xe → PSs (X.tr pn xe) body (tb W))
    (hsu : ∀ (a : Addr) (oe : Obj) (cls : Value) (d : Option Addr) (pn : List (Addr × Obj)) (xe : Value → Shared → Prop), L2N.Zn cls d oe → (∃ vs, oe.data = .fields vs) → L2.Takes (suiteY X a ((a, oe) :: pn) xe) (fun cls d σ H => Wout cls d (σ.set i none) H) → HotC (suiteY X a ((a, oe) :: pn) xe) →
      PSs (suiteY X a ((a, oe) :: pn) xe) (b₀ :: suite) (ts a cls d)) :
    PS X (.Try body [.ExceptHandler (some (.Name x np)) (some n) (b₀ :: suite) pos'] [] [] pos) (tTryR X.K c i ts Wout tb) := by
  refine ⟨fun pins s σ H D I h => ?_⟩
  have ok := I.ok
  have hfr : X.A.frames = some (X.env :: X.outer) := by rw [ok.frames, hs]
  have hloc : Loc X.env.scope n := .inl hln
  refine wpAny_Try_except ?_
  refine wpAny_mono ((hb (wAs X.K c i ts Wout D) (X.pn ++ pins) (fun e s₁ => wpAny (model X.prog X.w) X.A (noteFrame e X.env) (fun _ s₂ => wpAny (model X.prog X.w) X.A (setFlight e none) (fun _ s₃ =>
    wpAny (model X.prog X.w) X.A (handleBy e X.env [.ExceptHandler (some (.Name x np)) (some n) (b₀ :: suite) pos']) (SP X pins D) X.xe s₃) X.xe s₂) X.xe s₁) (fun u s' xx => ?_) PassesOwn.looking).run [] s σ H D (I.toTry _) h) (fun f s1 hsp => ?_) (fun e s1 he => he)
  · obtain ⟨a, B, sI, pins', σ', H', cls, d, rfl, J', nb, up, sky, na, os, ag, b, hb1, hyes, hno⟩ := xx
    have J : Inv X pins σ' H' sI := J'.ofTry ok
    have sky' : Sky B (X.env :: X.outer) a (L2N.Zn cls d) X.env.locals s'.heap := by rw [← hs]; exact sky
    show wpAny (model X.prog X.w) X.A (noteFrame (.ref a) X.env) _ _ _
    refine L2N.Sky.land L2N.Zn.steady hfr hf sky' fun h3 fl3 up3 => ?_
    have J3 : Inv X pins σ' H' { s' with heap := h3 } := J.landed nb fl3.1 (up.trans up3) os ag
    obtain ⟨oe3, vs3, he3, hz3, hd3⟩ := fl3.there
    have notFr : ∀ {h : Heap} {o : Obj} {vs : Array Value}, h.FunFrames B (X.env :: X.outer) → h.get? a = some o → o.data = .fields vs → a ∉ frs (X.env :: X.outer) := fun {h o vs} ff e dd hm => by
      obtain ⟨_, o', e', hnf⟩ := ff.mem hm
      rw [e] at e'; cases e'
      exact hnf _ dd
    have nfr := notFr fl3.2.2.1 he3 hd3
    have nL : a ≠ X.env.locals := fun z => nfr (List.mem_filterMap.mpr ⟨X.env, List.mem_cons_self, by rw [hf, z]⟩)
    have nF : a ∉ X.fs := fun hm => by
      obtain ⟨e, he, q⟩ := List.mem_filterMap.mp hm
      exact nfr (List.mem_filterMap.mpr ⟨e, List.mem_cons_of_mem _ he, q⟩)
    have S3 := J3.suite he3 hd3 na nL nF
    refine wpAny_handleBy_cons (codeAny_handlers_test ?_) (by intro q; cases q)
    have LT : PySem.W.Looks (model X.prog X.w) h3 (typeOf (.ref a)) cls := fun A Q E s k q => wpAny_typeOf_ref (k _ _ he3) (by rw [hz3.1]; exact q)
    have LM := PySem.W.exm_one (M := model X.prog X.w) (J3.kIn) LT hb1
    have test : ∀ {Q : Value → Shared → Prop} {E : Value → Shared → Prop}, Q c { s' with heap := h3 } → wpAny (model X.prog X.w) (X.A.mark (some (.ref a))) (eval (.Name x np) X.env) Q E { s' with heap := h3 } := fun {Q E} q => by
      obtain ⟨hg, hdbg, hm | ⟨hm, hv, hnn⟩⟩ := hc
      · exact ld_glob (X := X.suite a ((a, oe3) :: (X.pn ++ pins))) S3 hg hm q hdbg
      · exact ld_blt (X := X.suite a ((a, oe3) :: (X.pn ++ pins))) S3 hg hm hv q hnn hdbg
    refine test (LM.here ?_)
    cases b with
    | true =>
      refine codeAny_handlers_suite_as ?_
      refine HandSPX.lands_againZ fl3 fun h4 fl4 up4 => ?_
      have J4 : Inv X pins σ' H' { s' with heap := h4 } := J.landed nb fl4.1 ((up.trans up3).trans up4) os ag
      obtain ⟨oe4, vs4, he4, hz4, hd4⟩ := fl4.there
      have S4 := J4.suite he4 hd4 na nL nF
      refine store_ok (X := X.suite a ((a, oe4) :: (X.pn ++ pins))) (v := .ref a) S4 hN hi hloc rfl (fun s5 S5 => ?_) (.inr hln)
      have run : ∀ E' : Value → Shared → Prop, (∀ u s3, L2.XE (suiteY X a ((a, oe4) :: (X.pn ++ pins)) E') (fun cls d σ H => Wout cls d (σ.set i none) H) u s3 → E' u s3) → wpAny (model X.prog X.w) (X.A.mark (some (.ref a))) (execs (b₀ :: suite) X.env) (fun f s6 => ∃ xe, SP (suiteY X a ((a, oe4) :: (X.pn ++ pins)) xe) [] _ f s6) E' s5 := fun E' tkE =>
        wpAny_mono ((hsu a oe4 cls d (X.pn ++ pins) E' hz4 ⟨_, hd4⟩ tkE ⟨(a, oe4), ⟨rfl, vs4, hd4, hz4.2.2 vs4 hd4⟩, List.mem_cons_self⟩).run [] s5 _ H' _ ((suiteX_of S5).wish _) (hyes rfl a na)) (fun f s6 hsp => ⟨E', hsp⟩) (fun _ _ z => z)
      refine wpAny_mono (run _ fun u2 s2 x2 => ?tk) (fun f s6 hsp => ?_) (fun _ _ z => z)
      case tk =>
        refine gone_raise (X := suiteY X a ((a, oe4) :: (X.pn ++ pins)) _) hs hf hN hi hln hfr x2 fun s3 x3 => ?_
        obtain ⟨a2, B2, sI2, pn2, σ2, H2, cls2, d2, e2, I2, nb2, up2, sky2, na2, os2, ag2, σ0, rfl, w2⟩ := x3
        exact hpa (some (.ref a)) _ _ (tk _ _ ⟨a2, B2, sI2, pins, σ0.set i none, H2, cls2, d2, e2, unsuiteX (Inv.unwish I2) ok, nb2, up2, sky2, na2, os2, ag2, w2⟩)
      obtain ⟨xe, hsp⟩ := hsp
      have end_ : ∀ {xe : Value → Shared → Prop} {σ6 : L2.St} {H6 : Hp} {E6 : Value → Shared → Prop} {Q : Shared → Prop}, Inv (suiteY X a ((a, oe4) :: (X.pn ++ pins)) xe) [] σ6 H6 s6 → (∀ s7, Inv X pins (σ6.set i none) H6 s7 → Q s7) →
          wpAny (model X.prog X.w) X.A (do bindName X.env n .none; unbindBehindTheSuite X.env n pos') (fun _ s7 => Q s7) E6 s6 := fun {xe σ6 H6 E6 Q} S6 hq => gone_ok (unsuiteX (Inv.unwish S6) ok) hN hi hln hq
      cases f with
      | next =>
        obtain ⟨σ6, H6, S6, q6⟩ := hsp
        exact end_ S6 fun s7 J7 => ⟨_, _, J7, q6⟩
      | brk =>
        obtain ⟨σ6, H6, S6, q6⟩ := hsp
        exact end_ S6 fun s7 J7 => ⟨_, _, J7, q6⟩
      | cont =>
        obtain ⟨σ6, H6, S6, q6⟩ := hsp
        exact end_ S6 fun s7 J7 => ⟨_, _, J7, q6⟩
      | ret u =>
        obtain ⟨v6, σ6, H6, S6, r6, q6⟩ := hsp
        exact end_ S6 fun s7 J7 => ⟨_, _, _, J7, r6, q6⟩
    | false =>
      show wpAny _ X.A (handleBy (.ref a) X.env []) _ _ _
      refine wpAny_handleBy_nil ?_
      have fl3' := flyingZ_imp (fun o z => L2N.Zn.zc z) fl3
      obtain ⟨k1, k2, k3, oe, vs, T, oT, ts', he, hz, hd, h1, hr⟩ := id fl3'
      unfold PySem.passOn
      refine wpAny_bind (wpAny_field he hd h1 ?_)
      rw [if_neg (show ¬ ((Value.ref T == Value.none) = true) from by simp)]
      have fin : wpAny (model X.prog X.w) X.A (setFlight (.ref a) X.env.frame) (fun _ s4 => wpAny (model X.prog X.w) X.A (throw (.ref a) : Sem Flow) (SP X pins D) X.xe s4) X.xe { s' with heap := h3 } := by
        rw [hf]
        refine HandSPX.setFlight_upZ fl3' fun h4 hh4 up4 => wpAny_throw (tk _ _ ?_)
        exact ⟨a, B, sI, pins, σ', H', cls, d, rfl, J, nb, (up.trans up3).trans up4, .inr (.inr (by rw [hs]; exact hh4)), na, os, ag, hno rfl⟩
      first
        | exact wpAny_bind (wpAny_pure (wpAny_bind fin))
        | exact wpAny_bind fin
  · cases f with
    | next =>
      obtain ⟨σ', H', J', q⟩ := hsp
      exact wpAny_execs_nil ⟨σ', H', J'.ofTry ok, q⟩
    | brk =>
      obtain ⟨σ', H', J', q⟩ := hsp
      exact ⟨σ', H', J'.ofTry ok, q⟩
    | cont =>
      obtain ⟨σ', H', J', q⟩ := hsp
      exact ⟨σ', H', J'.ofTry ok, q⟩
    | ret u =>
      obtain ⟨v, σ', H', J', r, q⟩ := hsp
      exact ⟨v, σ', H', J'.ofTry ok, r, q⟩
end
/-! ### C(a, .., *y) -/
section
variable {X : Cx} {CX : CXT} {k : Nat} {f C : Addr} {sp : Sp} {E : L2.St → XK} {x : Str} {e : Expr} {es : List Expr} {t : TA} {p pos : Pos}
theorem pe_makeVS (M : Mk X.K C f) (F : FnR X.prog X.w X.K X.mg X.base CX k f sp) (hr : Room (k + 1) X.A) (hg : Gl X x) (hm : X.mg x = some (.ref C)) (hx : ∀ σ, PassesAt CX X σ (E σ))
    (ha : PA X (e :: es) t) (hdb : (x == ("__debug__" : Str)) = false := by decide) (he : starEach (e :: es) X.env = (false, eval e X.env) :: starEach es X.env := by rfl) (hst : (backTo pos (starEach es X.env)).any (·.1) = true := by rfl) :
    PE X (.Call (.Name x p) (e :: es) [] pos) (tMakeS C sp E t) := by
  refine ⟨fun pins s σ H Q I h => ?_⟩
  refine wpAny_Call_Name_kw (ld_glob I hg hm ?_ hdb)
  refine PySem.W.callWith_S2 (h₀ := X.base) I.ok.mod.kin M.kp (thn (ha.run pos pins s σ H _ I h) fun us s1 ⟨vs, H1, I1, r, q⟩ => ⟨I1.kIn, ?_⟩) he hst
  exact run_makeV M F hr (hx σ) I1 r q
end
theorem go_star {K : PySem.W.Frag} {te : TE} {t : TA} {σ : L2.St} {H : Hp} {Q : List V → Hp → Prop} (h : te σ H fun x H1 => ∃ p xs, x = V.ref p ∧ (SqT K H1 p xs ∨ SqL K H1 p xs) ∧ t σ H1 fun ys H2 => Q (xs ++ ys) H2) : StX.tStar K te t σ H Q := h
theorem go_tryR {K : PySem.W.Frag} {c : Value} {i : Nat} {tb : WX → TS} {ts : Addr → Value → Option Addr → TS} {Wout : WX} {D : Ends} {σ : L2.St} {H : Hp} (h : tb (wAs K c i ts Wout D) D σ H) : tTryR K c i ts Wout tb D σ H := h
theorem go_raiseF {K : PySem.W.Frag} {b C : Addr} {i : Nat} {W : WX} {t : L2.St → Hp → XK → Prop} {D : Ends} {σ : L2.St} {H : Hp} (hσ : σ[i]? = some (some (.ref b))) (hC : PySem.W.subIn K (.ref C) (.type "BaseException") = some true) (h : t σ H fun cls d H' => W cls d σ H') : tRaiseF K b (.ref C) i W t D σ H := ⟨hσ, ⟨C, rfl, hC⟩, h⟩
/-! ### where a try's body or suite must not be named -/
theorem pa_starK {X : Cx} {K : PySem.W.Frag} {e : Expr} {es : List Expr} {te : TE} {t : TA} {p : Pos} (h : X.K = K) (he : PE X e te) (hr : PA X es t) (hs : starEach (.Starred e p :: es) X.env = (true, eval e X.env) :: starEach es X.env) : PA X (.Starred e p :: es) (StX.tStar K te t) := h ▸ StX.pa_star he hr hs
theorem pe_xfPK {X : Cx} {K : PySem.W.Frag} {a : Addr} {oe : Obj} {cls : Value} {d : Option Addr} {e : Expr} {te : TE} {pos : Pos} {n : Str} (h : X.K = K) (hp : (a, oe) ∈ X.pn) (hz : Zc cls d oe) (hf : ∃ vs, oe.data = .fields vs) (he : PE X e te) (hb : attributeBase e n X.env (eval e X.env) = eval e X.env := by rfl) :
    PE X (.Attribute e n pos) (tXfX K a cls d n te) := h ▸ pe_xfP hp hz hf he hb
theorem ps_raiseHFK {X : Cx} {K : PySem.W.Frag} {W : WX} {e : Expr} {t : L2.St → Hp → XK → Prop} {i : Nat} {n : Str} {b : Addr} {ob : Obj} {cls : Value} {d : Option Addr} {np pos : Pos} (h : X.K = K) (hp : (b, ob) ∈ X.pn) (hz : Zc cls d ob) (hf : ∃ vs, ob.data = .fields vs) (hc : HotC X) (tk : L2.Takes X W) (he : PMk5 X e t)
    (hi : X.N[i]? = some n) (hl : X.env.kindOf n = some .local) (hdb : (n == ("__debug__" : Str)) = false := by decide) :
    PS X (.Raise (some e) (some (.Name n np)) pos) (tRaiseF K b cls i W t) := h ▸ ps_raiseHF hp hz hf hc tk he hi hl hdb
end Vc

/-! Xe: enumerate over a tuple; a test a op b op c op d (my own; ways of HandS.Iter's enumerate, PyProof.EnumMake, HandS.Call's chains). -/
namespace Vc
open PySem PySem.Spec PyProof.Rows L2
theorem meets_enumerate_newT (l : Addr) (items : Array Value) (n : Nat) (dct : Option Addr) (sl : Array (Option Value)) :
    Meets (Builtin.«enumerate.__new__» ⟨[.type "enumerate", .ref l], []⟩) (fun _ R s => s.heap.get? l = some { cls := .type "tuple", dict := dct, data := .seq items n, slots := sl } ∧
      R (.ok (.ret (.ref (s.heap.push { cls := .type "tuple_iterator", data := .fields #[.ref l, .int 0 0] }).objs.size)))
        { s with heap := (s.heap.push { cls := .type "tuple_iterator", data := .fields #[.ref l, .int 0 0] }).push { cls := .type "enumerate", data := .fields #[.none, .bool false, .ref s.heap.objs.size, rawInt 0, .none, .none] } }) :=
  .of_wp fun prog w A R s h => by
    obtain ⟨hp, g, d, tk, os⟩ := s; obtain ⟨hl, h⟩ := h
    have hsub := sub_enumerate
    have hL : Heap.IsTuple (Shared.heap ⟨hp, g, d, tk, os⟩) l items := ⟨_, hl, rfl, n, rfl⟩
    wp_walk using PySem.AutoSeq1.wpAny_loadPart' hl
    refine wpAny_stack_any fun st => wpAny_pure ?_
    split
    · rename_i c _ _ _ _ _
      cases (c == Value.type "enumerate")
      · wp_walk using PySem.AutoSeq1.wpAny_loadPart' hl, wpAny_pyIter_tuple hL
        exact ⟨_, rfl, h⟩
      · wp_walk using PySem.AutoSeq1.wpAny_loadPart' hl, wpAny_pyIter_tuple hL
        exact ⟨_, rfl, h⟩
    · wp_walk using PySem.AutoSeq1.wpAny_loadPart' hl, wpAny_pyIter_tuple hL
      exact ⟨_, rfl, h⟩
theorem call_enumerate_tuple {prog : Program} {w : World} {A : Around} {E : Value → Shared → Prop} {s : Shared} {l : Addr} {items : Array Value} {Q : Value → Shared → Prop} (hL : s.heap.IsTuple l items)
    (h : ∀ h', IsEnum h' (s.heap.objs.size + 1) s.heap.objs.size 0 .none → h'.IsTupleIter s.heap.objs.size l 0 → h'.objs.size = s.heap.objs.size + 2 →
      (∀ b o, s.heap.get? b = some o → h'.get? b = some o) → Q (.ref (s.heap.objs.size + 1)) { s with heap := h' }) :
    wpAny (model prog w) A (call (.type "enumerate") [.ref l]) Q E s := by
  obtain ⟨⟨c, dct, dt, sl⟩, hl, hc, n, hd⟩ := hL
  replace hc : c = .type "tuple" := hc
  replace hd : dt = .seq items n := hd
  subst hc hd
  refine callType_new F.called_enumerate (by decide) (F.typeCall_enumerate_1 _) (F.newCall_enumerate_1 _) (fun obj => F.args_object_init_2 obj _) F.entry_enumerate_new
    (meets_enumerate_newT l items n dct sl) ⟨hl, ?_⟩
  have hz : (s.heap.push { cls := .type "tuple_iterator", data := .fields #[.ref l, .int 0 0] }).objs.size = s.heap.objs.size + 1 := Heap.size_push ..
  show _ ∧ _
  rw [hz]
  have he : IsEnum ((s.heap.push { cls := .type "tuple_iterator", data := .fields #[.ref l, .int 0 0] }).push
      { cls := .type "enumerate", data := .fields #[.none, .bool false, .ref s.heap.objs.size, rawInt 0, .none, .none] }) (s.heap.objs.size + 1) s.heap.objs.size 0 .none := by
    have := Heap.get?_push_size (s.heap.push { cls := .type "tuple_iterator", data := .fields #[.ref l, .int 0 0] })
      (o := { cls := .type "enumerate", data := .fields #[.none, .bool false, .ref s.heap.objs.size, rawInt 0, .none, .none] }) rfl
    rw [hz] at this; exact this
  refine ⟨⟨_, he, rfl⟩, h _ he ⟨_, Heap.get?_push_of_some _ (Heap.get?_push_size _ rfl), rfl, rfl⟩ (by rw [Heap.size_push, hz]) fun b o x => Heap.get?_push_of_some _ (Heap.get?_push_of_some _ x)⟩
/-- the tuple at a, each item in a new pair -/
def IteT (K : PySem.W.Frag) (a : Addr) : It :=
  ⟨fun i H => ∃ (xs : List V) (x : V), SqT K H a xs ∧ xs[i]? = some x, fun i H v H' => ∃ T x, v = .ref T ∧ H T = none ∧ H' = upd H T (.tup [.int (i : Nat), x]) ∧ ∀ xs, SqT K H a xs → xs[i]? = some x, fun i H => ∃ xs : List V, SqT K H a xs ∧ xs.length ≤ i⟩
theorem turn_enumT {P : Program} {w : World} {K : PySem.W.Frag} {elts : List Expr} {kk : Nat} {tpos : Pos} (a e it : Addr) :
    Turn P w K (.Tuple elts kk tpos) (IteT K a) [e, it] e (fun i h => (∃ old, IsEnum h e it ((i : Nat) : Int) old) ∧ h.IsTupleIter it a i ∧ e ≠ it ∧ a ≠ it ∧ a ≠ e) where
  mem := by simp
  obj := fun i h st b hb => by
    obtain ⟨⟨old, he⟩, ⟨o, ho, hc, hd⟩, _⟩ := st
    have e' : b = e ∨ b = it := by simpa using hb
    rcases e' with z | z
    · rw [z]; exact ⟨_, he, fun v q => nomatch q⟩
    · rw [z]; exact ⟨o, ho, fun v q => by rw [hd] at q; cases q⟩
  keep := fun i h h' st k => let ⟨⟨old, he⟩, hi, hne⟩ := st; ⟨⟨old, k e (by simp) _ he⟩, hi.at fun o q => k it (by simp) o q, hne⟩
  item := by
    intro X hP hw hK hc i pins s σ H E I hf st hg
    subst hP hw hK
    obtain ⟨⟨old, he⟩, hit, hne, hai, hae⟩ := st
    obtain ⟨xs, x, hq, hx⟩ := hg
    obtain ⟨its, rv, p, hz⟩ := I.tuple hq
    obtain ⟨u, hu, ru⟩ := rv.get hx
    have hel : e < s.heap.objs.size := Heap.lt_size he
    have hil : it < s.heap.objs.size := by obtain ⟨_, q, _⟩ := hit; exact Heap.lt_size q
    have hlt : i < its.toArray.size := by
      have := (List.getElem?_eq_some_iff.mp hu).1
      simpa using this
    refine wpAny_pyNext_enum_itemD (Draws.tuple (A := X.A.in1) (show X.A.in1.handled = none from I.ok.hd hc) it a hai its.toArray) he ⟨hit, p⟩ hlt hne (by simp [hne, Ne.symm hae]) fun x' h' tk hP ho hst' hT hsz hk => ?_
    have hux : x' = u := by
      have h1 : its[i]? = some x' := by simpa using hP
      rw [hu] at h1
      exact (Option.some.inj h1).symm
    subst hux
    refine ⟨_, rfl, wpAny_letOwnedTupleGo_enum (s := { s with heap := h', toks := tk + 1 }) ho fun h'' he' sb => ?_⟩
    have hT2 : h''.get? s.heap.objs.size = some { cls := .type "tuple", data := .seq #[.int i tk, x'] } := (sb.2 _ (Nat.ne_of_gt hel)).trans hT
    have new : ObjOk X.prog X.w (upd H s.heap.objs.size (.tup [.int (i : Nat), x])) h'' s.heap.objs.size (.tup [.int (i : Nat), x]) :=
      ⟨by show 2 ≤ sizeLine; decide, [.int i tk, x'], .cons ⟨_, rfl⟩ (.cons ru .nil), ⟨_, hT2, rfl, _, rfl⟩⟩
    have I1 : Inv X pins σ (upd H s.heap.objs.size (.tup [.int (i : Nat), x])) { s with heap := h'', toks := tk + 1 } :=
      I.turnedNew (ch := [e, it]) (fun b ob hb q => (sb.2 b (fun z => hb (by simp [z]))).trans (hk b ob (fun z => hb (by simp [z])) (fun z => hb (by simp [z])) q)) hf (Nat.le_refl _) new
    refine ⟨.ref s.heap.objs.size, _, I1, rfl, ⟨_, x, rfl, I.hok.fresh (Nat.le_refl _), rfl, fun ys hy => by rw [I.tuple_inj hy hq]; exact hx⟩, ⟨⟨x', ?_⟩, hst'.1.at fun o q => (sb.2 it (Ne.symm hne)).trans q, hne, hai, hae⟩, fun b hb => ?_⟩
    · have e1 : ((i + 1 : Nat) : Int) = (i : Int) + 1 := by omega
      rw [e1]; exact he'
    · have hb' : b < s.heap.objs.size := by
        have e' : b = e ∨ b = it := by simpa using hb
        rcases e' with z | z
        · rw [z]; exact hel
        · rw [z]; exact hil
      rw [upd_ne (Nat.ne_of_lt hb')]
      exact (hf b hb).1
  done := by
    intro X hP hw hK hc i pins s σ H E I hf st hg
    subst hP hw hK
    obtain ⟨⟨old, he⟩, hit, hne, hai, hae⟩ := st
    obtain ⟨xs, hq, hx⟩ := hg
    obtain ⟨its, rv, p, hz⟩ := I.tuple hq
    obtain ⟨f0, f1, f2, f3, f4, f5⟩ := hf it (by simp)
    have hl := rv.length
    have D : Draws X.prog X.w X.A.in1 it [it, a] i (fun _ _ => False) (fun j h => j = i ∧ h.IsTupleIter it a i ∧ h.IsTuple a its.toArray) := ⟨fun _ _ st => let ⟨o, ho, _⟩ := st.2.1; ⟨o, ho⟩, fun _ _ _ st hk => ⟨st.1, st.2.1.at fun o e => hk it (by simp) o e, st.2.2.at fun o e => hk a (by simp) o e⟩,
      fun j s Q E hj st hQ => absurd (st.1 ▸ hj) (Nat.lt_irrefl _), fun s Q E st hE => wpAny_nextOf_tuple_end (show X.A.in1.handled = none from I.ok.hd hc) st.2.1 st.2.2 (by simp; omega) hE⟩
    exact wpAny_pyNext_enum_endD D he ⟨rfl, hit, p⟩ fun h' eb => ⟨rfl, I.turned (t' := s.toks) (fun b o hb q => eb b o hb q) f0 f1 f3 f4 f5⟩
  self := fun A i s Q E st h => let ⟨⟨_, he⟩, _⟩ := st; wpAny_pyIter_enum he h
def iEnumT (K : PySem.W.Frag) (ta : TA) : TI := fun σ H R => ta σ H fun vs H1 => ∃ a xs, vs = [.ref a] ∧ SqT K H1 a xs ∧ R (IteT K a) H1
theorem pi_enumT {X : Cx} {e : Expr} {ta : TA} {p pos tpos : Pos} {elts : List Expr} {kk : Nat} (hg : Gl X "enumerate") (hm : X.mg "enumerate" = none) (ha : PA X [e] ta) (hs : starEach [e] X.env = [(false, eval e X.env)] := by rfl) :
    PI X (.Tuple elts kk tpos) (.Call (.Name "enumerate" p) [e] [] pos) (iEnumT X.K ta) := by
  refine ⟨fun pins s σ H R I h => ?_⟩
  refine Call_ (ld_blt I hg hm boot_enumerate (PyProof.Rows.callWith_type1 (thn (ha.run pos pins s σ H _ I h) fun us s1 ⟨vs, H1, I1, r1, q1⟩ => ?_) hs rfl))
  obtain ⟨a, xs, ex, hq, q⟩ := q1
  subst ex
  cases r1 with
  | cons r rr =>
    cases rr
    cases r
    obtain ⟨its, rv, p', hz⟩ := I1.tuple hq
    have hal : a < s1.heap.objs.size := by obtain ⟨o, e1, _⟩ := id p'; exact Heap.lt_size e1
    refine call_enumerate_tuple p' fun h' he hit hsz hk => wpAny_pyIter_enum he ?_
    have I2 : Inv X pins σ H1 { s1 with heap := h' } := I1.kept (t' := s1.toks) hk
    refine ⟨s1.heap.objs.size + 1, [s1.heap.objs.size + 1, s1.heap.objs.size], _, _, H1, rfl, I2, turn_enumT a (s1.heap.objs.size + 1) s1.heap.objs.size, ⟨⟨.none, he⟩, hit, Nat.succ_ne_self _, Nat.ne_of_lt hal, Nat.ne_of_lt (Nat.lt_succ_of_lt hal)⟩, fun b hb => ?_, q⟩
    have e' : b = s1.heap.objs.size + 1 ∨ b = s1.heap.objs.size := by simpa using hb
    have hle : s1.heap.objs.size ≤ b := by
      rcases e' with z | z
      · rw [z]; exact Nat.le_add_right _ _
      · rw [z]; exact Nat.le_refl _
    exact I1.fpOk hle (I1.hok.fresh hle)
theorem go_iEnumT {K : PySem.W.Frag} {ta : TA} {σ : L2.St} {H : Hp} {R : It → Hp → Prop} (h : ta σ H fun vs H1 => ∃ a xs, vs = [.ref a] ∧ SqT K H1 a xs ∧ R (IteT K a) H1) : iEnumT K ta σ H R := h
/-- if a op b op c op d -/
def tChain3 (r r' r'' : R2) (ta tb tc td : TE) : TT := fun σ H Q => ta σ H fun x H1 => tb σ H1 fun y H2 => r x y H2 fun z H3 => ∃ k, z = .bl k ∧
  (if k = true then tc σ H3 fun w H4 => r' y w H4 fun z H5 => ∃ k, z = .bl k ∧ (if k = true then td σ H5 fun u H6 => r'' w u H6 fun z H7 => ∃ k, z = .bl k ∧ Q k H7 else Q false H5) else Q false H3)
theorem pt_chain3 {X : Cx} {a b c d : Expr} {ta tb tc td : TE} {pos : Pos} {op op' op'' : CmpOp} {r r' r'' : R2} (ho : OpR X (compareOp op) r) (ho' : OpR X (compareOp op') r') (ho'' : OpR X (compareOp op'') r'') (ha : PE X a ta) (hb : PE X b tb) (hc : PE X c tc) (hd : PE X d td)
    (hm : lastMarks [op, op', op''] [b, c, d] = false := by with_unfolding_all rfl) : PT X (.Compare a [op, op', op''] [b, c, d] pos) (tChain3 r r' r'' ta tb tc td) := by
  refine ⟨fun pins s σ H Q I h => ?_⟩
  refine isTrue_chain (thn (ha.run pins s σ H _ I h) fun v s1 ⟨x, H1, I1, r1, q1⟩ => test_link (thn (hb.run pins s1 σ H1 _ I1 q1) fun u s2 ⟨y, H2, I2, r2, q2⟩ =>
    thn (ho pins s2 σ H2 x y v u _ I2 r1 r2 q2) fun d s3 ⟨z, H3, I3, r3, k, e, q3⟩ => ?_)) hm
  subst e
  cases r3
  refine wpAny_truthy_bool ?_
  cases k with
  | false => exact ite_ff ⟨H3, I3, q3⟩
  | true =>
    refine ite_tt (test_link (thn (hc.run pins s3 σ H3 _ I3 q3) fun w' s4 ⟨z', H4, I4, r4, q4⟩ => thn (ho' pins s4 σ H4 y z' u w' _ I4 r2 r4 q4) fun d' s5 ⟨z2, H5, I5, r5, k2, e2, q5⟩ => ?_))
    subst e2
    cases r5
    refine wpAny_truthy_bool ?_
    cases k2 with
    | false => exact ite_ff ⟨H5, I5, q5⟩
    | true =>
      refine ite_tt (test_last (thn (hd.run pins s5 σ H5 _ I5 q5) fun w'' s6 ⟨z'', H6, I6, r6, q6⟩ => thn (ho'' pins s6 σ H6 z' z'' w' w'' _ I6 r4 r6 q6) fun d'' s7 ⟨z3, H7, I7, r7, k3, e3, q7⟩ => ?_))
      subst e3
      cases r7
      exact wpAny_truthy_bool ⟨H7, I7, q7⟩
theorem go_chain3 {r r' r'' : R2} {ta tb tc td : TE} {σ : L2.St} {H : Hp} {Q : Bool → Hp → Prop} (h : ta σ H fun x H1 => tb σ H1 fun y H2 => r x y H2 fun z H3 => ∃ k, z = .bl k ∧
  (if k = true then tc σ H3 fun w H4 => r' y w H4 fun z H5 => ∃ k, z = .bl k ∧ (if k = true then td σ H5 fun u H6 => r'' w u H6 fun z H7 => ∃ k, z = .bl k ∧ Q k H7 else Q false H5) else Q false H3)) : tChain3 r r' r'' ta tb tc td σ H Q := h
theorem go_par {i j : Nat} {ta : TA} {D : Ends} {σ : L2.St} {H : Hp} (h : ta σ H fun vs H1 => ∃ v w, vs = [v, w] ∧ D.nx ((σ.set i (some v)).set j (some w)) H1) : tPar i j ta D σ H := h
end Vc

/-! Xn: x != y by an own __eq__ (object's __ne__ asks it); xs.count(True) (my own). -/
namespace Vc
open PySem PySem.Spec PyProof.Rows L2
section
open PySem.W PySem.Calls
variable {prog : Program} {w : World} {A A₀ : Around} {E : Value → Shared → Prop} {s : Shared} {K : Frag} {x C L f : Addr} {h₀ : Heap} {m : Str → Option Value} {ox : Obj} {od : Option Obj} {name : Str} {b tb : Value}
theorem ifBoundB_K {M : Model} {id : String} {args : List Value} {Q : Option Value → Shared → Prop} (X : K.In s.heap) (I : InstAt s.heap x ox C od) (hs : findIn K (.ref C) name = some (some (.builtin id))) (hb : ∀ self, bindSpecial (.builtin id) self = pure (.builtin id, [self]))
    (h : wpAny M A (call (.builtin id) (.ref x :: args)) (fun v => Q (some v)) E s) : wpAny M A (callSpecialIfBound? (.ref x) name args) Q E s := by
  simp only [callSpecialIfBound?, bindSpecialIfBound?]
  refine wpAny_holding (wpAny_bind (wpAny_bind (wpAny_bind (I.type.here ((looks_findIn X hs).here ?_)))))
  simp only [hb]
  refine wpAny_bind (wpAny_askSetting (wpAny_ite ?_))
  have fin : wpAny M A (call (.builtin id) ([.ref x] ++ args) >>= fun v => pure (some v)) Q E s := wpAny_bind (wpAny_mono h (fun v s' h' => wpAny_pure h') fun _ _ h' => h')
  split
  · exact wpAny_bind (wpAny_pure (wpAny_pure fin))
  · exact wpAny_tryCatch (wpAny_bind (wpAny_pure (wpAny_pure fin)))
theorem neEntry {Q : Fin → Shared → Prop} (hu : A.units < cLine) (X : K.In s.heap) (I : InstAt s.heap x ox C od) (hs : findIn K (.ref C) "__eq__" = some (some (.ref f))) (hf : isFn K (.ref f) = true)
    (hcall : wpAny (model prog w) A (call (.ref f) [.ref x, b]) (fun v s' => ∃ c, v = .bool c ∧ Q (.done (.ret (.bool (!c)))) s') E s) :
    wpAny (model prog w) A (Builtin.«object.__ne__» ⟨[.ref x, b], []⟩) Q E s := by
  unfold Builtin.«object.__ne__»
  repeat (first
    | with_reducible refine wpAny_cRoomFor hu ?_
    | (refine wpAny_bind (m := callSpecialIfBound? (.ref x) (Str.ofString "__eq__") [b])
        (ifBound_K X I hs hf (wpAny_mono hcall (fun v s' hr => by
          obtain ⟨c, rfl, hq⟩ := hr
          repeat (first | exact hq | exact wpAny_pure hq | exact wpAny_truthy_bool hq | (refine wpAny_bind (m := truthy (.bool _)) (wpAny_truthy_bool ?_)) | wp_step)) fun _ _ e => e)))
    | wp_step)
theorem tryNe {Q : Option Value → Shared → Prop} (hu : A.units + 1 < cLine) (X : K.In s.heap) (I : InstAt s.heap x ox C od) (hn : findIn K (.ref C) "__ne__" = some (some (.builtin "object.__ne__"))) (ht : mroIn K C (.type "object") = some true)
    (hs : findIn K (.ref C) "__eq__" = some (some (.ref f))) (hf : isFn K (.ref f) = true)
    (hcall : wpAny (model prog w) A.in1 (call (.ref f) [.ref x, b]) (fun v s' => ∃ c, v = .bool c ∧ Q (some (.bool (!c))) s') E s) :
    wpAny (model prog w) A (tryCompare (.ref x) "__ne__" b) Q E s := by
  simp only [tryCompare]
  have hi : Looks (model prog w) s.heap (isInstance (.ref x) (.type "object")) true := I.type.andThen (looks_mroIn X ht)
  refine wpAny_bind (ifBoundB_K X I hn (fun self => PySem.F.cmp_object.ne.bind self) (wpAny_call (codeAny_call_builtin PySem.F.cmp_object.ne.plain PySem.F.cmpEntry_ne
    (check_slot PySem.F.cmpKind_ne PySem.F.cmpSplit_ne hi (PySem.F.cmpArgs_ne _ _) (neEntry (A := A.in1) hu X I hs hf (wpAny_mono hcall (fun v s' hv => ?_) fun _ _ e => e))))))
  obtain ⟨c, rfl, hq⟩ := hv
  first | exact ⟨c, rfl, wpAny_pure hq⟩ | exact ⟨c, rfl, wpAny_pure (wpAny_pure hq)⟩ | exact ⟨c, rfl, hq⟩
theorem ne_K {Q : Value → Shared → Prop} (hu : A.units + 1 < cLine) (F : Fr h₀ L s.heap m) (X₀ : K.In h₀) (I : InstAt s.heap x ox C od) (hb : Looks (model prog w) s.heap (typeOf b) tb) (hn : notFirst K C tb = true)
    (hne : findIn K (.ref C) "__ne__" = some (some (.builtin "object.__ne__"))) (ht : mroIn K C (.type "object") = some true) (hs : findIn K (.ref C) "__eq__" = some (some (.ref f))) (hf : isFn K (.ref f) = true)
    (h : wpAny (model prog w) A.in1 (call (.ref f) [.ref x, b]) (fun v s' => ∃ c, v = .bool c ∧ Q (.bool (!c)) s') E s) : wpAny (model prog w) A (richCompare .NotEq (.ref x) b) Q E s := by
  have X := X₀.keeps F.keep
  have one : wpAny (model prog w) A (tryCompare (.ref x) "__ne__" b) (fun r s' => ∃ v, r = some v ∧ Q v s') E s := by
    refine tryNe hu X I hne ht hs hf (wpAny_mono h (fun v s' hv => ?_) fun _ _ e => e)
    obtain ⟨c, rfl, hq⟩ := hv
    exact ⟨c, rfl, _, rfl, hq⟩
  unfold richCompare
  simp only [oneThing_ref]
  refine wpAny_holding (wpAny_bind (wpAny_cRoomFor (Nat.lt_of_succ_lt hu) ?_))
  rw [cmpInfo_NotEq]
  dsimp only
  refine wpAny_bind (I.type.here (wpAny_bind (hb.here ?_)))
  split
  · rename_i q
    have e : subIn K tb (.ref C) = some false := by
      rcases Bool.or_eq_true_iff.mp hn with e | e
      · rw [beq_iff_eq.mp e] at q; simp at q
      · exact beq_iff_eq.mp e
    refine wpAny_bind ((looks_subIn X e).here ?_)
    simp only [Bool.false_eq_true, if_false]
    refine wpAny_bind (wpAny_mono one (fun r s' z => ?_) fun _ _ e => e)
    obtain ⟨v, rfl, hq⟩ := z
    exact wpAny_pure hq
  · refine wpAny_bind (wpAny_pure ?_)
    simp only [Bool.false_eq_true, if_false]
    refine wpAny_bind (wpAny_mono one (fun r s' z => ?_) fun _ _ e => e)
    obtain ⟨v, rfl, hq⟩ := z
    exact wpAny_pure hq
end
structure NeM (K : PySem.W.Frag) (C g : Addr) : Prop where
  eq : EqM K C g
  ne : PySem.W.findIn K (.ref C) "__ne__" = some (some (.builtin "object.__ne__"))
  top : PySem.W.mroIn K C (.type "object") = some true
def rNeO (K : PySem.W.Frag) (C : Addr) (sp : Sp) : R2 := fun x y H Q => ∃ (a dx : Addr) (fs : List (Str × V)) (t : Value), x = .ref a ∧ H a = some (.ins C dx fs) ∧ TyX K H y t ∧ PySem.W.notFirst K C t = true ∧ sp [x, y] H (fun v H' => ∃ b, v = .bl b ∧ Q (.bl (!b)) H') E0
theorem op_neO {X : Cx} {C g : Addr} {fd : FuncData} {ps : List Str} {sp : Sp} {n : Nat} (F : FnOk X.prog X.w X.K X.mg X.base CX0 n g fd ps sp) (hr : Room (n + 1) X.A) (m : NeM X.K C g) (hb : Binds X.K fd ps []) : OpR X (compareOp .NotEq) (rNeO X.K C sp) := by
  intro pins s σ H x y v u Q I rx ry hq
  obtain ⟨a, dx, fs, t, rfl, ha, ty, nf, q⟩ := hq
  cases rx
  show wpAny (model X.prog X.w) X.A (richCompare .NotEq (.ref a) u) (EP X pins σ Q) X.xe s
  obtain ⟨mA, J, _⟩ := ins_get I.hok ha
  obtain ⟨od, J, _⟩ := J.look
  obtain ⟨_, Z, p, _⟩ := kit_of I ry ty
  obtain ⟨mm, hF⟩ := I.fr
  refine ne_K (tb := t) (by have := hr.un; omega) hF I.ok.mod.kin J (Z.ty _ _ I.kIn p) nf m.ne m.top m.eq.at_ m.eq.fn ?_
  have hl := F.len _ _ _ _ q
  have r2 : Vals [V.ref a, y] [Value.ref a, u] := .cons rfl (.cons ry .nil)
  have hb' := hb s [.ref a, u] I.kIn (by simpa using hl)
  rw [List.append_nil] at hb'
  refine wpAny_call (codeAny_mono (F.run X.A.in1 X.stack s H ⟨[.ref a, u], []⟩ [.ref a, u] [.ref a, y] _ E0 hr.in1 I.env0.in1 hb' r2 q) fun r s' hq => ?_)
  cases r with
  | error e => exact hq.elim
  | ok fl =>
    cases fl with
    | ret w =>
      obtain ⟨z, H', I', rz, b, ez, qz⟩ := I.after hq
      subst ez
      cases rz
      exact ⟨b, rfl, .bl (!b), H', I', rfl, qz⟩
    | next => exact False.elim hq
    | brk => exact False.elim hq
    | cont => exact False.elim hq
theorem go_neO {K : PySem.W.Frag} {C : Addr} {sp : Sp} {x : V} {y : V} {H : Hp} {Q : VK} {a dx : Addr} {fs : List (Str × V)} {t : Value} (e : x = .ref a) (ha : H a = some (.ins C dx fs)) (ty : TyX K H y t) (nf : PySem.W.notFirst K C t = true)
    (q : sp [x, y] H (fun v H' => ∃ b, v = .bl b ∧ Q (.bl (!b)) H') E0) : rNeO K C sp x y H Q := ⟨a, dx, fs, t, e, ha, ty, nf, q⟩
end Vc

/-! Xg: defs that are run where no repr is under way (so that repr of data is known), their calls, the end of a law over them (my own). -/
namespace Vc
open PySem PySem.Spec PyProof.Rows L2
structure FnG (P : Program) (w : World) (K : PySem.W.Frag) (mg : Str → Option Value) (base : Heap) (CX : CXT) (k : Nat) (f : Addr) (fd : FuncData) (ps : List Str) (sp : Sp) : Prop where
  len : ∀ vs H Q E, sp vs H Q E → vs.length = ps.length
  run : ∀ (A : Around) (outer : List Env) (s : Shared) (H : Hp) (args : Args) (us : List Value) (vs : List V) (Q : VK) (E : XK), A.guards = some [] → Room k A → Env0 P w K mg base A outer s H → BindsTo s fd args (ps.zip us) → Vals vs us → sp vs H Q E →
    codeAny (model P w) A (.call (.ref f) args) (CR CX outer P w H s Q E) s
theorem FnG.of {P : Program} {w : World} {K : PySem.W.Frag} {mg : Str → Option Value} {base : Heap} {CX : CXT} {k : Nat} {f : Addr} {fd : FuncData} {ps : List Str} {sp : Sp} (F : FnOk P w K mg base CX k f fd ps sp) : FnG P w K mg base CX k f fd ps sp :=
  ⟨F.len, fun A outer s H args us vs Q E _ hr => F.run A outer s H args us vs Q E hr⟩
/-- the rule for such a def -/
theorem Fun.okG {P : Program} {w : World} {K : PySem.W.Frag} {mg : Str → Option Value} {base : Heap} {x qual : Str} {st : Stmt} {f : Addr} {fd : FuncData} {N ps : List Str} {k : Nat} {sp : Sp} (F : Fun K x qual st f fd) (S : FnScope N ps (defScope st)) (len : ∀ vs H Q E, sp vs H Q E → vs.length = ps.length)
    (hbody : ∀ (cdv : Value) (A : Around) (outer : List Env) (s : Shared) (H : Hp) (vs : List V) (Q : VK) (E : XK), (A.deeper (envOfC qual (defScope st) s.heap.objs.size f cdv)).guards = some [] → Room k (A.deeper (envOfC qual (defScope st) s.heap.objs.size f cdv)) → sp vs H Q E →
      ∃ t, PSs (cxOf CX0 P w K mg base N qual (defScope st) f cdv A outer s H E).nox (defBody st) t ∧ t { nx := fun _ H' => Q .non H', rt := Q } (L2.start N vs) H) : FnG P w K mg base CX0 (k + 1) f fd ps sp := by
  obtain ⟨oc, od, kV, doc, pm, an, cdv, ct, osl, rfl, lk, hcd⟩ := F.ex
  refine ⟨len, fun A outer s H args us vs Q E hg hr e0 hb r hsp => ?_⟩
  refine LamX.run_ofS lk hcd S hr e0 hb r (len _ _ _ _ hsp) fun hr' => ?_
  obtain ⟨t, h, q⟩ := hbody cdv A outer s H vs Q E hg hr' hsp
  exact ⟨t, h.nox, q⟩
section
variable {X : Cx} {k : Nat} {f : Addr} {fd : FuncData} {ps : List Str} {sp : Sp} {x : Str} {q pos : Pos} {e : Expr} {es : List Expr} {t : TA}
theorem runG {pins : List (Addr × Obj)} {σ : L2.St} {H : Hp} {s : Shared} {us : List Value} {vs : List V} {Q : VK} (F : FnG X.prog X.w X.K X.mg X.base CX0 k f fd ps sp) (hgd : X.A.guards = some []) (hr : Room k X.A) (hb : Binds X.K fd ps []) (I : Inv X pins σ H s) (r : Vals vs us) (q : sp vs H Q E0) :
    wpAny (model X.prog X.w) X.A (call (.ref f) us) (EP X pins σ Q) X.xe s := by
  have hl : us.length = ps.length := by rw [← r.length]; exact F.len _ _ _ _ q
  have b := hb s us I.kIn (by rw [List.append_nil]; exact hl)
  rw [List.append_nil] at b
  refine wpAny_call (codeAny_mono (F.run X.A X.stack s H ⟨us, []⟩ us vs Q E0 hgd hr I.env0 b r q) fun r s' hq => ?_)
  rcases r with e | fl
  · exact hq.elim
  · cases fl with
    | ret u => exact I.after hq
    | next => exact False.elim hq
    | brk => exact False.elim hq
    | cont => exact False.elim hq
/-- f(e, ..) -/
theorem pe_callG (F : FnG X.prog X.w X.K X.mg X.base CX0 k f fd ps sp) (hgd : X.A.guards = some []) (hr : Room k X.A) (hg : Gl X x) (hm : X.mg x = some (.ref f)) (hk : PySem.W.keepIn X.K (.ref f) = true) (hb : Binds X.K fd ps [])
    (ha : PA X (e :: es) t) (hdb : (x == ("__debug__" : Str)) = false := by decide) (he : starEach (e :: es) X.env = (false, eval e X.env) :: starEach es X.env := by rfl) (hpl : (backTo pos (starEach es X.env)).any (·.1) = false := by rfl) :
    PE X (.Call (.Name x q) (e :: es) [] pos) (tCall sp [] E0 t) := by
  refine ⟨fun pins s σ H Q I h => ?_⟩
  refine wpAny_Call_Name_kw (ld_glob I hg hm ?_ hdb)
  refine PySem.W.callWith_K (h₀ := X.base) I.ok.mod.kin hk (thn (ha.run pos pins s σ H _ I h) fun us s1 ⟨vs, H1, I1, r, q⟩ => ⟨I1.kIn, ?_⟩) he hpl
  exact runG F hgd hr hb I1 r (by have q : sp (vs ++ []) H1 Q E0 := q; rwa [List.append_nil] at q)
theorem pe_callG0 (F : FnG X.prog X.w X.K X.mg X.base CX0 k f fd ps sp) (hgd : X.A.guards = some []) (hr : Room k X.A) (hg : Gl X x) (hm : X.mg x = some (.ref f)) (hk : PySem.W.keepIn X.K (.ref f) = true) (hb : Binds X.K fd ps [])
    (hdb : (x == ("__debug__" : Str)) = false := by decide) : PE X (.Call (.Name x q) [] [] pos) (tCall sp [] E0 tNil) := by
  refine ⟨fun pins s σ H Q I h => ?_⟩
  refine wpAny_Call_Name_kw (ld_glob I hg hm ?_ hdb)
  exact PySem.W.callWith_K0 I.kIn hk (runG (us := []) F hgd hr hb I .nil h)
/-! ### repr of data -/
/-- small data: what it shows fits -/
structure Fits (d : PyData) : Prop where
  sh : d.showable = true
  nd : d.hasDict = false
  dp : d.depth ≤ 60
  sz : d.shown.length ≤ sizeLine
def rRepr (K : PySem.W.Frag) : List V → Hp → VK → Prop := fun xs H Q => ∃ v d, xs = [v] ∧ Dp K H v d ∧ Fits d ∧ Q (.str d.shown) H
theorem call_reprD (hgd : X.A.guards = some []) (hu : X.A.units + 64 < cLine) : CallR X (.builtin "repr") (rRepr X.K) := by
  intro pins s σ H xs us Q I r h
  obtain ⟨v, d, rfl, hd, ⟨sh, nd, dp, sz⟩, q⟩ := h
  obtain ⟨u, rfl, ru⟩ := vals1 r
  have fin : ∀ h' u tk, (∀ b o, s.heap.get? b = some o → h'.get? b = some o) → EP X pins σ Q (.str d.shown u) { s with heap := h', toks := tk } := fun h' u tk k => ⟨.str d.shown, H, I.kept k, ⟨u, rfl⟩, q⟩
  cases hd with
  | non =>
    cases ru
    rw [PyData.shown_none] at fin
    exact PySem.P.repr_of_none (fin s.heap _ _ fun _ _ e => e)
  | bl b =>
    cases ru
    rw [PyData.shown_bool] at fin
    exact PySem.P.repr_of_bool (fin s.heap _ _ fun _ _ e => e)
  | int i =>
    obtain ⟨t, rfl⟩ := ru
    rw [PyData.shown_int] at fin
    refine PySem.P.repr_of_int ?_ (fin s.heap _ _ fun _ _ e => e)
    simpa [PyData.showable] using sh
  | str z =>
    obtain ⟨t, rfl⟩ := ru
    rw [PyData.shown_str] at fin sz
    exact PySem.P.repr_of_str (fin s.heap _ _ fun _ _ e => e) sz
  | @lst a xs ds ha hds =>
    cases ru
    obtain ⟨as, rd⟩ := Dp.reads I (.list ds) (.ref a) (.ref a) (.lst ha hds) rfl
    exact repr_of_reads' rd sh (fun z => by rw [nd] at z; cases z) hgd (by omega) (fun _ _ e => e) fin sz
  | @tup a xs ds ha hds =>
    cases ru
    obtain ⟨as, rd⟩ := Dp.reads I (.tuple ds) (.ref a) (.ref a) (.tup ha hds) rfl
    exact repr_of_reads' rd sh (fun z => by rw [nd] at z; cases z) hgd (by omega) (fun _ _ e => e) fin sz
theorem room64 {k : Nat} {A : Around} (r : Room k A) : A.units + 64 < cLine := by have := r.un; omega
end
section
variable {K : PySem.W.Frag} {H : Hp} {Q : VK}
theorem go_repr {v : V} {d : PyData} (hd : Dp K H v d) (f : Fits d) (h : Q (.str d.shown) H) : rRepr K [v] H Q := ⟨v, d, rfl, hd, f, h⟩
end
/-! ### the end of a law whose def is an FnG -/
section
variable {P : Program} {w : World} {K : PySem.W.Frag} {mg mb : Str → Option Value} {k : Nat} {fa a : Addr} {fd : FuncData} {x : Str} {sp : Sp} {s₁ : Shared} {vs : List Value} {ns : List Int}
/-- at most the script's object is known, and it is locked -/
def Lone (H : Hp) (a : Addr) : Prop := ∀ b u, H b = some u → b = a ∧ ∃ o ys, u = .frz o (.lst ys)
theorem lone_call {H : Hp} (KX : K.In s₁.heap) (hns : s₁.heap.Ns mainGlobals mg) (hb : s₁.heap.Ns builtinsNs mb) (hbb : ∀ y : Str, y ≠ "__name__" → mb y = bootBuiltins y) (hlim : s₁.heap.NoLimit) (hg : s₁.gens = #[])
    (ha : s₁.heap.get? a = some { cls := .type "list", data := .seq vs.toArray }) (hr : Room k callerA) (F : ∀ base : Heap, K.In base → base.Ns mainGlobals mg → FnG P w K mg base CX0 k fa fd [x] sp) (hbind : ∀ (s : Shared) (u : Value), BindsTo s fd ⟨[u], []⟩ [(x, u)])
    (L : Lone H a) (hok : HOk P w H s₁.heap) (nk : H a ≠ none → K.lookup a = none) (hsp : sp [.ref a] H (fun v _ => v = .bl true) E0) :
    codeAny (model P w) callerA (.call (.ref fa) ⟨[.ref a], []⟩) (fun r s' => r = .ok (.ret (.bool true)) ∧ OldK s₁.heap s'.heap ∧ s'.os = s₁.os ∧ AllBare s'.gens) s₁ := by
  -- what is not the script's object is not tracked
  have un : ∀ {b : Addr}, b ≠ a → H b = none := fun {b} n => by
    cases e : H b with
    | none => rfl
    | some u => exact (n (L b u e).1).elim
  have dict_un : ∀ {b : Addr} {o : Obj} {es : Array DictEntry} {ep : Nat}, s₁.heap.get? b = some o → o.data = .dict es ep → H b = none := fun {b o es ep} e d => by
    refine un fun z => ?_
    rw [z, ha] at e
    injection e with e
    rw [← e] at d
    cases d
  have ns_keep : ∀ {b : Addr} {m : Str → Option Value}, s₁.heap.Ns b m → (hidT s₁.heap H).Ns b m := fun {b m} h => by
    obtain ⟨o, es, ep, e, d, r⟩ := h
    exact ⟨o, es, ep, hidT_get e (dict_un e d), d, r⟩
  have k_in : K.In (hidT s₁.heap H) := fun b o e => hidT_get (KX b o e) <| by
    by_cases z : b = a
    · cases q : H b with
      | none => rfl
      | some u =>
        have := nk (by rw [← z, q]; exact Option.some_ne_none u)
        rw [← z, e] at this
        cases this
    · exact un z
  have env : Env0 P w K mg (hidT s₁.heap H) callerA [] s₁ H := by
    obtain ⟨mc, c1, c2⟩ := hlim
    exact { frames := rfl, mod := ⟨k_in, ns_keep hns, ⟨mb, ns_keep hb, hbb⟩, mc, ns_keep c1, c2⟩, bs := fun _ _ e => of_hidT e, bsz := Nat.le_of_eq (hidT_size _ _), funs := trivial, frf := fun _ z => (nomatch (show _ ∈ ([] : List Addr) from z)), hok := hok, bare := .of_eq hg }
  have go := (F _ k_in (ns_keep hns)).run callerA [] s₁ H ⟨[.ref a], []⟩ [.ref a] [.ref a] (fun v _ => v = .bl true) E0 rfl hr env (hbind s₁ (.ref a)) (.cons rfl .nil) hsp
  refine codeAny_mono go fun r s' hq => ?_
  rcases r with e | fl
  · exact False.elim hq
  cases fl with
  | next => exact False.elim hq
  | brk => exact False.elim hq
  | cont => exact False.elim hq
  | ret u =>
    obtain ⟨v, H', os, bare, u2, hok', rv, ev⟩ := hq
    have ev : v = .bl true := ev
    rw [ev] at rv
    cases rv
    refine ⟨rfl, OldK.of_keep fun b o e => ?_, os, bare⟩
    cases q : H b with
    | none => exact u2.keep b o e q (fun z => nomatch (show b ∈ ([] : List Addr) from z)) (fun z => nomatch (show b ∈ ([] : List Addr) from z))
    | some v2 =>
      obtain ⟨_, ob, ys, ez⟩ := L b v2 q
      rw [ez] at q
      have o1 := (hok b _ q).1
      have o2 := (hok' b _ (u2.frzs b ob _ q)).1
      rw [e] at o1
      injection o1 with o1
      rw [o1]; exact o2
theorem law_callG (KX : K.In s₁.heap) (hns : s₁.heap.Ns mainGlobals mg) (hb : s₁.heap.Ns builtinsNs mb) (hbb : ∀ y : Str, y ≠ "__name__" → mb y = bootBuiltins y) (hlim : s₁.heap.NoLimit) (hg : s₁.gens = #[])
    (ha : s₁.heap.get? a = some { cls := .type "list", data := .seq vs.toArray }) (hi : IntsAre vs ns) (hl : ns.length ≤ sizeLine) (hr : Room k callerA) (F : ∀ base : Heap, K.In base → base.Ns mainGlobals mg → FnG P w K mg base CX0 k fa fd [x] sp) (hbind : ∀ (s : Shared) (u : Value), BindsTo s fd ⟨[u], []⟩ [(x, u)])
    (hsp : ∀ H : Hp, SqL K H a (ns.map V.int) → sp [.ref a] H (fun v _ => v = .bl true) E0) :
    codeAny (model P w) callerA (.call (.ref fa) ⟨[.ref a], []⟩) (fun r s' => r = .ok (.ret (.bool true)) ∧ OldK s₁.heap s'.heap ∧ s'.os = s₁.os ∧ AllBare s'.gens) s₁ := by
  have rv := vals_ints hi
  have len : vs.length = ns.length := hi.length
  cases hk : K.lookup a with
  | some o =>
    have e := KX a o hk
    rw [ha] at e
    injection e with e
    subst e
    exact lone_call (H := fun _ => none) KX hns hb hbb hlim hg ha hr F hbind (fun b u z => nomatch z) (fun b u z => nomatch z) (fun z => (z rfl).elim) (hsp _ (.inr ⟨_, vs.toArray, _, hk, rfl, rfl, rfl, by rw [List.size_toArray, len]; exact hl, by simpa using rv⟩))
  | none =>
    generalize ho : ({ cls := .type "list", data := .seq vs.toArray } : Obj) = ob at ha
    generalize hH : (fun b => if b = a then some (HO.frz ob (.lst (ns.map V.int))) else none : Hp) = H
    have at_a : H a = some (.frz ob (.lst (ns.map V.int))) := by rw [← hH]; exact if_pos rfl
    have only : ∀ b u, H b = some u → b = a ∧ u = .frz ob (.lst (ns.map V.int)) := fun b u e => by
      rw [← hH] at e
      by_cases z : b = a
      · have e : (if b = a then some (HO.frz ob (.lst (ns.map V.int))) else none) = some u := e
        rw [if_pos z] at e
        exact ⟨z, (Option.some.inj e).symm⟩
      · have e : (if b = a then some (HO.frz ob (.lst (ns.map V.int))) else none) = some u := e
        rw [if_neg z] at e
        cases e
    refine lone_call (H := H) KX hns hb hbb hlim hg (by rw [ha, ho]) hr F hbind (fun b u e => ⟨(only b u e).1, ob, _, (only b u e).2⟩) (fun b u e => ?_) (fun _ => hk) (hsp H (.inl (.inr ⟨ob, at_a⟩)))
    obtain ⟨z, eu⟩ := only b u e
    rw [z, eu]
    exact ⟨ha, by rw [List.length_map]; exact hl, vs, 0, rv, by rw [ha, ← ho]⟩
end
theorem walk_ofG {l : PySem.W.OpenLaw} {n k : Nat} {q : Program} {loose : List Str} {XP : (Str → Option Value) → Heap → Prop} {YP : World → Heap → Prop} {d : DefRec} {K : Params → PySem.W.Frag} {sp : World → Sp} {x : Str}
    (hn : l.most = some n) (hn2 : n ≤ sizeLine) (hdf : d.params.defaults = []) (hr : Room k callerA) (hY : ∀ (w : World) (h : Heap), YP w h → (K w.params).In h)
    (F : ∀ (w : World) (mg : Str → Option Value) (fa : Addr) (h : Heap), (K w.params).In h → h.Ns mainGlobals mg → mg d.name = some (.ref fa) →
      ∃ fd : FuncData, (∀ (s : Shared) (u : Value), BindsTo s fd ⟨[u], []⟩ [(x, u)]) ∧ ∀ base : Heap, (K w.params).In base → base.Ns mainGlobals mg → FnG l.prog w (K w.params) mg base CX0 k fa fd [x] (sp w))
    (hsp : ∀ (w : World) (H : Hp) (a : Addr) (ns : List Int), ns.length ≤ n → SqL (K w.params) H a (ns.map V.int) → sp w [.ref a] H (fun v _ => v = .bl true) E0) :
    PySem.W.WalkO q loose XP YP l.row.toRowW d [] (fun f vs => PySem.call f vs) := by
  refine Att.attach_call hn hdf fun w s₀ s₁ mg mb fa o pm cd doc a vs ns G Y ho hd hcd hmg hobj hints hlen hg => ?_
  obtain ⟨fd, hb, hF⟩ := F w mg fa _ (hY w _ Y) G.T.g hmg
  exact law_callG (hY w _ Y) G.T.g G.T.b G.T.builtins G.T.nolimit hg hobj hints (Nat.le_trans hlen hn2) hr hF hb fun H hS => hsp w H a ns hlen hS
end Vc

/-! Xu: super().__init__(..) in a class that is no exception (my own; ways of Sup, HandS.Star and HandS.MethStar). -/
namespace Vc
open PySem PySem.Spec PyProof.Rows L2 PySem.W
/-- what super() asks for in a def of the class at C -/
structure SupQ (P : Program) (K : PySem.W.Frag) (mg : Str → Option Value) (f cda cc C g : Addr) (fd : FuncData) (sv : Str) : Prop where
  lk : ∃ oc od sl, K.lookup f = some ⟨oc, od, .func fd, sl⟩
  par : ∃ ar : Arg, (fd.params.posonlyargs ++ fd.params.args).head? = some ar ∧ ar.arg = sv
  code : ∃ ccl cdd vs ccs file tf, K.lookup cda = some ⟨ccl, cdd, .fields vs, ccs⟩ ∧ vs[2]? = some (.str file tf) ∧ ((P.main.file : Str) == file) = true
  cell : ∃ cl cld csl, K.lookup cc = some ⟨cl, cld, .cell (some (.ref C)), csl⟩
  sub : mroIn K C (.ref C) = some true
  init : ks_superIn K C C "__init__" = some (some (.ref g))
  fn : PySem.W.isFn K (.ref g) = true
  fi : PySem.W.fnIn K g = true
  nosup : mg "super" = none
  noop : nsIn K cStatics "thirdparty.any" = some none
  top : (P.main.scope.names.lookup ("super" : Str)).isSome = false
section
variable {prog : Program} {w : World} {A : Around} {E : Value → Shared → Prop} {h : Heap} {g : Array GenState} {d : Drawn} {t : Nat} {os : OsState}
/-- super().m as a value -/
theorem getAttr_super {so D x C f : Addr} {of : Obj} {l₀ l : List Value} {K : Frag} {name : Str} {Q : Value → Shared → Prop}
    (hso : h.get? so = some { cls := .type "super", dict := none, data := .fields #[.ref D, .ref x, .ref C], slots := #[] }) (hno : Looks (model prog w) h (opaqueClassAbove (.ref C)) none)
    (hC : Looks (model prog w) h (mroOf (.ref C)) l₀) (hl : (l₀.dropWhile (· != .ref D)).drop 1 = l) (X : K.In h)
    (hf : alongIn K name l = some (some (.ref f))) (hfo : h.get? f = some of) (hfc : of.cls = .type "function") (hxC : x ≠ C) (hn : (name == ("__class__" : Str)) = false)
    (hq : Q (.ref h.objs.size) ⟨h.push { cls := .type "method", data := .fields #[.ref f, .ref x] }, g, d, t + 1, os⟩) :
    wpAny (model prog w) A (getAttr (.ref so) name true) Q E ⟨h, g, d, t, os⟩ := by
  have hlk := F.ks_slot_super_ga.lookup
  have hcan := F.ks_canon_super_ga
  have hT : ∀ t', (⟨h, g, d, t', os⟩ : Shared).TypeIs (.ref so) "super" := fun _ => ⟨_, hso, rfl⟩
  unfold getAttr getAttrBy
  refine wpAny_bind (wpAny_mkText (wpAny_holding (wpAny_bind (wpAny_typeOf (hT _) (wpAny_bind (wpAny_of_eq hlk ?_))))))
  show wpAny _ _ (getAttrByItsOwn (.ref so) (.str name t) (.type "super") (.builtin "super.__getattribute__") true true) _ _ _
  unfold getAttrByItsOwn hookBefore callGetattribute boundAndCalled
  refine wpAny_bind (wpAny_of_eq (show (if onTheHeap (.type "super") then typeLookup (.type "super") "__getattr__" else pure none) = pure none from rfl) ?_)
  refine wpAny_bind (wpAny_attempt (wpAny_holding ?_))
  show wpAny _ _ (bindSpecial (.builtin "super.__getattribute__") (.ref so) >>= _) _ _ _
  refine wpAny_bind (wpAny_of_eq (F.ks_slot_super_ga.bind _) ?_)
  refine wpAny_mono (Q := fun v s' => v = .ref h.objs.size ∧ s' = ⟨h.push { cls := .type "method", data := .fields #[.ref f, .ref x] }, g, d, t + 1, os⟩) (E := fun _ _ => False)
    (wpAny_call_entry F.ks_slot_super_ga (hT _) F.ks_entry_super_ga (ks_wpAny_super_ga hso hno hC hl X hf hfo hfc hxC hn ⟨_, rfl, rfl, rfl⟩) (F.ks_gaArgs_super _ _)) (fun v s' hv => ?_) fun _ _ z => z.elim
  obtain ⟨rfl, rfl⟩ := hv
  exact wpAny_pure hq
end
/-- statements told where the def's own body is known -/
structure PSA (X : Cx) (body ss : List Stmt) (t : TS) : Prop where
  run : ∀ (pins : List (Addr × Obj)) (s : Shared) (σ : L2.St) (H : Hp) (D : Ends), Inv X pins σ H s → t D σ H → _root_.PySem.wpAt (model X.prog X.w) X.A (.func body X.env) (execs ss X.env) (SP X pins D) X.xe s
theorem psa_of {X : Cx} {body ss : List Stmt} {t : TS} (h : PSs X ss t) : PSA X body ss t := ⟨fun pins s σ H D I q => wpAt_of_wpAny (h.run pins s σ H D I q)⟩
theorem psa_cons {X : Cx} {body rest : List Stmt} {st : Stmt} {t u : TS} (h1 : PS X st t) (h2 : PSA X body rest u) : PSA X body (st :: rest) (tSeq t u) := by
  refine ⟨fun pins s σ H D I h => ?_⟩
  refine ks_wpAt_execs_cons (wpAt_of_wpAny (thn (h1.run pins s σ H { D with nx := u D } I h) fun f s1 q => ?_))
  cases f with
  | next =>
    obtain ⟨σ', H', I', q⟩ := q
    exact h2.run pins s1 σ' H' D I' q
  | ret v => exact q
  | brk => exact q
  | cont => exact q
/-- super().__init__(..); the rest -/
def tSup (C g : Addr) (sp : Sp) (E : XK) (t : TA) (u : TS) : TS := fun D σ H => ∃ (a dx : Addr) (fs : List (Str × V)), σ[0]? = some (some (.ref a)) ∧ H a = some (.ins C dx fs) ∧
  ∀ q, H q = none → t σ (upd H q (.met g a)) fun vs H1 => H1 q = some (.met g a) ∧ sp (.ref a :: vs) H1 (fun _ H2 => u D σ H2) E
section
variable {cm : Bool} {CX CXg : CXT} {P : Program} {w : World} {K : PySem.W.Frag} {mg : Str → Option Value} {base : Heap} {N ps : List Str} {qual : Str} {scope : Scope} {f cc cda C g : Addr} {A : Around} {outer : List Env} {s0 : Shared} {H0 : Hp} {E0' : XK} {fd : FuncData} {sv : Str} {body rest : List Stmt} {p0 p1 ap cp pos spos : Pos} {pl : Sem Bool} {k : Nat} {sp : Sp} {E : XK} {e1 : Expr} {es1 : List Expr} {t : TA} {u : TS}
theorem psa_super (S : SupScope N ps scope) (SF : SupQ P K mg f cda cc C g fd sv) (F : FnR P w K mg base CXg k g sp) (hr : Room k (A.deeper (ksEnv qual scope s0.heap.objs.size f (.ref cda) cc)))
    (hx : Passes CXg (cxS cm CX P w K mg base N qual scope f (.ref cda) cc A outer s0 H0 E0') E) (hN : N[0]? = some sv) (hself : scope.names.lookup sv = some .local)
    (ha : PA (cxS cm CX P w K mg base N qual scope f (.ref cda) cc A outer s0 H0 E0') (e1 :: es1) t) (h2 : PSA (cxS cm CX P w K mg base N qual scope f (.ref cda) cc A outer s0 H0 E0') body rest u)
    (he : starEach (e1 :: es1) (ksEnv qual scope s0.heap.objs.size f (.ref cda) cc) = (false, eval e1 (ksEnv qual scope s0.heap.objs.size f (.ref cda) cc)) :: starEach es1 (ksEnv qual scope s0.heap.objs.size f (.ref cda) cc))
    (star : (backTo pos (starEach (e1 :: es1) (ksEnv qual scope s0.heap.objs.size f (.ref cda) cc))).any (·.1) = false)
    (hi : interactive (ksEnv qual scope s0.heap.objs.size f (.ref cda) cc) = false)
    (hs : swapsWith (.Call (.Attribute (.Call (.Name "super" p0) [] [] p1) "__init__" ap) (e1 :: es1) [] pos) none spos.line (ksEnv qual scope s0.heap.objs.size f (.ref cda) cc) = pure false)
    (ht : eval (.Call (.Attribute (.Call (.Name "super" p0) [] [] p1) "__init__" ap) (e1 :: es1) [] pos) (ksEnv qual scope s0.heap.objs.size f (.ref cda) cc) = (do
      let ov ← attributeBase (.Call (.Name "super" p0) [] [] p1) "__init__" (ksEnv qual scope s0.heap.objs.size f (.ref cda) cc) (eval (.Call (.Name "super" p0) [] [] p1) (ksEnv qual scope s0.heap.objs.size f (.ref cda) cc))
      standAt ap.atName
      let (fm, first) ← holding [ov] (getMethod ov "__init__" pl)
      callWith pos fm first (backTo pos (starEach (e1 :: es1) (ksEnv qual scope s0.heap.objs.size f (.ref cda) cc))) [])) :
    PSA (cxS cm CX P w K mg base N qual scope f (.ref cda) cc A outer s0 H0 E0') body (.Expr (.Call (.Attribute (.Call (.Name "super" p0) [] [] p1) "__init__" ap) (e1 :: es1) [] pos) spos :: rest) (tSup C g sp E t u) := by
  refine ⟨fun pins s σ H D I hh => ?_⟩
  obtain ⟨a, dx, fs, hσ, ea, hh⟩ := hh
  obtain ⟨_, _, _, lkf⟩ := SF.lk
  obtain ⟨ar, hp, rfl⟩ := SF.par
  obtain ⟨_, _, vs, _, file, tf, lkc, hvs, hfile⟩ := SF.code
  obtain ⟨_, _, _, lkl⟩ := SF.cell
  have KX : K.In s.heap := I.kIn
  refine ks_wpAt_execs_cons (ks_wpAt_Expr_any ?_ hi hs)
  refine ks_wpAt_MethodCall (pl := pl) ?_ ht
  refine ks_wpAt_super_base (env := ksEnv qual scope s0.heap.objs.size f (.ref cda) cc) S.sup S.cls (by decide) rfl (KX _ _ lkf) rfl hp rfl (KX _ _ lkc) rfl hvs hfile SF.top ?_
  obtain ⟨mb, hb1, hb2⟩ := I.mod.blt
  have hboot : bootBuiltins "super" = some (.type "super") := by decide +kernel
  refine ks_loadName_global S.kind S.sup (Calls.loadGlobal_builtin (I.mod.glob.keeps I.bk) SF.nosup (hb1.keeps I.bk) ((hb2 "super" (by decide)).trans hboot) ⟨rfl, ?_⟩)
  refine wpAny_loadName_free S.kind S.cls (c := cc) (by simp [List.lookup]) ⟨_, KX _ _ lkl, rfl⟩ ?_
  obtain ⟨m, ns, hm⟩ := id I.loc
  obtain ⟨v0, ru, lu⟩ := hm 0 _ _ hN hσ (.inl hself)
  obtain rfl : v0 = Value.ref a := ru
  have hma : m ar.arg = some (.ref a) := by
    rcases lu with ⟨_, e⟩ | ⟨k | k, _⟩
    · exact e
    · have k : scope.names.lookup ar.arg = some .cell := k
      rw [hself] at k; cases k
    · have k : scope.names.lookup ar.arg = some .free := k
      rw [hself] at k; cases k
  refine wpAny_loadName_local S.kind hself ns hma ?_
  obtain ⟨mA, J0, _⟩ := ins_get I.hok ea
  obtain ⟨od, J, _⟩ := J0.look
  have hsi := SF.init
  unfold ks_superIn at hsi
  cases hcl : clsIn K C with
  | none => rw [hcl] at hsi; cases hsi
  | some cd =>
    rw [hcl, Option.bind_some] at hsi
    obtain ⟨oC, hC1, hC2⟩ : ∃ oC, s.heap.get? C = some oC ∧ oC.data = .cls cd := by
      have hcl2 := hcl
      unfold clsIn at hcl2
      split at hcl2
      · rename_i c d cd' sl ho
        cases hcl2
        exact ⟨_, KX _ _ ho, rfl⟩
      · cases hcl2
    obtain ⟨of, hof, hofc⟩ : ∃ of, K.lookup g = some of ∧ of.cls = .type "function" := by
      have ht' : typeIn K (.ref g) = some (.type "function") := beq_iff_eq.mp SF.fn
      have ht' : (K.lookup g).map (·.cls) = some (.type "function") := ht'
      cases z : K.lookup g with
      | none => rw [z] at ht'; cases ht'
      | some of => rw [z] at ht'; exact ⟨of, rfl, Option.some.inj ht'⟩
    refine ks_wpAny_isType_cls hC1 hC2 ⟨rfl, ?_⟩
    obtain ⟨hh0, gg, d, tt, os⟩ := s
    refine ks_wpAny_call_super hC1 hC2 J.at_ J.cls (fun c z => ?_) (looks_mroIn KX SF.sub) fun h' hso hk => ?_
    · have := J.no
      unfold notCls at this
      rw [z] at this
      exact Bool.noConfusion this
    have KX' : K.In h' := KX.keeps hk
    have Jk := J
    refine ks_wpAny_getMethod_super hso (looks_opaque KX' SF.noop) (l₀ := cd.mro) ?_ rfl KX' hsi (KX' _ _ hof) hofc (ks_ne KX J hcl) (by decide) ?_
    · exact fun A Q E s k q => wpAny_bind ((looks_clsIn KX' hcl) A _ E s k (wpAny_pure q))
    have hk2 : ∀ b o, hh0.get? b = some o → (h'.push (methodObj (.ref g) (.ref a))).get? b = some o := fun b o z => Heap.get?_push_of_some _ (hk b o z)
    have hsz : hh0.objs.size ≤ h'.objs.size := Nat.le_of_lt (Nat.lt_of_le_of_lt (Nat.le_refl _) (Heap.lt_size hso))
    have I2 := I.laid (t' := tt + 1) (a := h'.objs.size) (o := .met g a) hk2 hsz (show (h'.push (methodObj (.ref g) (.ref a))).get? h'.objs.size = some (methodObj (.ref g) (.ref a)) from Heap.get?_push_at rfl rfl)
    have hq := hh h'.objs.size (I.hok.fresh hsz)
    have hev := ha.run pos pins _ σ _ _ I2 hq
    rw [show starEach (e1 :: es1) (cxS cm CX P w K mg base N qual scope f (.ref cda) cc A outer s0 H0 E0').env = _ from he] at hev
    rw [he] at star
    first | rw [he] | rw [show starEach (e1 :: es1) (cxS cm CX P w K mg base N qual scope f (.ref cda) cc A outer s0 H0 E0').env = _ from he]
    refine callwith_met (g := g) (a := a) (q := h'.objs.size) (Bool.or_eq_false_iff.mpr ⟨star, rfl⟩) SF.fi (Calls.evalArgs_plain (thn hev fun us s1 ⟨vs', H1, I1, r, hm1, hsp⟩ => ⟨met_P I1 hm1, ?_⟩))
    refine thn (Q := EP (cxS cm CX P w K mg base N qual scope f (.ref cda) cc A outer s0 H0 E0') pins σ fun _ H2 => u D σ H2) ?_ fun v s' ⟨v', H', J', rv, q⟩ => h2.run pins s' σ H' D J' q
    exact wpAny_call (method_call (met_P I1 hm1).1 (run_fnR (us := Value.ref a :: us) (vs := V.ref a :: vs') F hr hx I1 (.cons rfl r) hsp))
/-- super().__init__(.., *v); the rest -/
theorem psa_superS (S : SupScope N ps scope) (SF : SupQ P K mg f cda cc C g fd sv) (F : FnR P w K mg base CXg k g sp) (hr : Room k (A.deeper (ksEnv qual scope s0.heap.objs.size f (.ref cda) cc)))
    (hx : Passes CXg (cxS cm CX P w K mg base N qual scope f (.ref cda) cc A outer s0 H0 E0') E) (hN : N[0]? = some sv) (hself : scope.names.lookup sv = some .local)
    (ha : PA (cxS cm CX P w K mg base N qual scope f (.ref cda) cc A outer s0 H0 E0') (e1 :: es1) t) (h2 : PSA (cxS cm CX P w K mg base N qual scope f (.ref cda) cc A outer s0 H0 E0') body rest u)
    (he : starEach (e1 :: es1) (ksEnv qual scope s0.heap.objs.size f (.ref cda) cc) = (false, eval e1 (ksEnv qual scope s0.heap.objs.size f (.ref cda) cc)) :: starEach es1 (ksEnv qual scope s0.heap.objs.size f (.ref cda) cc))
    (star : (backTo pos (starEach (e1 :: es1) (ksEnv qual scope s0.heap.objs.size f (.ref cda) cc))).any (·.1) = true)
    (hi : interactive (ksEnv qual scope s0.heap.objs.size f (.ref cda) cc) = false)
    (hs : swapsWith (.Call (.Attribute (.Call (.Name "super" p0) [] [] p1) "__init__" ap) (e1 :: es1) [] pos) none spos.line (ksEnv qual scope s0.heap.objs.size f (.ref cda) cc) = pure false)
    (hform : methodCallForm ((e1 :: es1).length + ([] : List Keyword).length) (backTo pos (starEach (e1 :: es1) (ksEnv qual scope s0.heap.objs.size f (.ref cda) cc))) [] = false) :
    PSA (cxS cm CX P w K mg base N qual scope f (.ref cda) cc A outer s0 H0 E0') body (.Expr (.Call (.Attribute (.Call (.Name "super" p0) [] [] p1) "__init__" ap) (e1 :: es1) [] pos) spos :: rest) (tSup C g sp E t u) := by
  refine ⟨fun pins s σ H D I hh => ?_⟩
  obtain ⟨a, dx, fs, hσ, ea, hh⟩ := hh
  obtain ⟨_, _, _, lkf⟩ := SF.lk
  obtain ⟨ar, hp, rfl⟩ := SF.par
  obtain ⟨_, _, vs, _, file, tf, lkc, hvs, hfile⟩ := SF.code
  obtain ⟨_, _, _, lkl⟩ := SF.cell
  have KX : K.In s.heap := I.kIn
  refine ks_wpAt_execs_cons (ks_wpAt_Expr_any ?_ hi hs)
  have hke : backToKw pos (keywordEach [] (ksEnv qual scope s0.heap.objs.size f (.ref cda) cc)) = [] := rfl
  have hcal : ∀ ov, calleeOf false (.Call (.Name "super" p0) [] [] p1) (ksEnv qual scope s0.heap.objs.size f (.ref cda) cc) ov "__init__" = (getAttr ov "__init__" true >>= fun v => pure (v, [])) := fun _ => rfl
  have hpos : methodCallPos false (.Call (.Name "super" p0) [] [] p1) (ksEnv qual scope s0.heap.objs.size f (.ref cda) cc) ap pos = pure pos := rfl
  show _root_.PySem.wpAt _ _ _ (eval _ (ksEnv qual scope s0.heap.objs.size f (.ref cda) cc)) _ _ _
  rw [arm_eval_Call, hke]
  refine _root_.PySem.wpAt_bind ?_
  refine ks_wpAt_super_base (env := ksEnv qual scope s0.heap.objs.size f (.ref cda) cc) S.sup S.cls (by decide) rfl (KX _ _ lkf) rfl hp rfl (KX _ _ lkc) rfl hvs hfile SF.top ?_
  obtain ⟨mb, hb1, hb2⟩ := I.mod.blt
  have hboot : bootBuiltins "super" = some (.type "super") := by decide +kernel
  refine ks_loadName_global S.kind S.sup (Calls.loadGlobal_builtin (I.mod.glob.keeps I.bk) SF.nosup (hb1.keeps I.bk) ((hb2 "super" (by decide)).trans hboot) ⟨rfl, ?_⟩)
  refine wpAny_loadName_free S.kind S.cls (c := cc) (by simp [List.lookup]) ⟨_, KX _ _ lkl, rfl⟩ ?_
  obtain ⟨m, ns, hm⟩ := id I.loc
  obtain ⟨v0, ru, lu⟩ := hm 0 _ _ hN hσ (.inl hself)
  obtain rfl : v0 = Value.ref a := ru
  have hma : m ar.arg = some (.ref a) := by
    rcases lu with ⟨_, e⟩ | ⟨k | k, _⟩
    · exact e
    · have k : scope.names.lookup ar.arg = some .cell := k
      rw [hself] at k; cases k
    · have k : scope.names.lookup ar.arg = some .free := k
      rw [hself] at k; cases k
  refine wpAny_loadName_local S.kind hself ns hma ?_
  obtain ⟨mA, J0, _⟩ := ins_get I.hok ea
  obtain ⟨od, J, _⟩ := J0.look
  have hsi := SF.init
  unfold ks_superIn at hsi
  cases hcl : clsIn K C with
  | none => rw [hcl] at hsi; cases hsi
  | some cd =>
    rw [hcl, Option.bind_some] at hsi
    obtain ⟨oC, hC1, hC2⟩ : ∃ oC, s.heap.get? C = some oC ∧ oC.data = .cls cd := by
      have hcl2 := hcl
      unfold clsIn at hcl2
      split at hcl2
      · rename_i c d cd' sl ho
        cases hcl2
        exact ⟨_, KX _ _ ho, rfl⟩
      · cases hcl2
    obtain ⟨of, hof, hofc⟩ : ∃ of, K.lookup g = some of ∧ of.cls = .type "function" := by
      have ht' : typeIn K (.ref g) = some (.type "function") := beq_iff_eq.mp SF.fn
      have ht' : (K.lookup g).map (·.cls) = some (.type "function") := ht'
      cases z : K.lookup g with
      | none => rw [z] at ht'; cases ht'
      | some of => rw [z] at ht'; exact ⟨of, rfl, Option.some.inj ht'⟩
    refine ks_wpAny_isType_cls hC1 hC2 ⟨rfl, ?_⟩
    obtain ⟨hh0, gg, d, tt, os⟩ := s
    refine ks_wpAny_call_super hC1 hC2 J.at_ J.cls (fun c z => ?_) (looks_mroIn KX SF.sub) fun h' hso hk => ?_
    · have := J.no
      unfold notCls at this
      rw [z] at this
      exact Bool.noConfusion this
    have KX' : K.In h' := KX.keeps hk
    refine wpAt_of_wpAny (wpAny_bind (wpAny_standAt ?_))
    unfold methodCall
    rw [hform, hpos, hcal]
    refine wpAny_bind (wpAny_holding (wpAny_bind ?_))
    refine getAttr_super hso (looks_opaque KX' SF.noop) (l₀ := cd.mro) ?_ rfl KX' hsi (KX' _ _ hof) hofc (ks_ne KX J hcl) (by decide) ?_
    · exact fun A Q E s k q => wpAny_bind ((looks_clsIn KX' hcl) A _ E s k (wpAny_pure q))
    refine wpAny_pure (wpAny_bind (wpAny_pure ?_))
    have hk2 : ∀ b o, hh0.get? b = some o → (h'.push (methodObj (.ref g) (.ref a))).get? b = some o := fun b o z => Heap.get?_push_of_some _ (hk b o z)
    have hsz : hh0.objs.size ≤ h'.objs.size := Nat.le_of_lt (Nat.lt_of_le_of_lt (Nat.le_refl _) (Heap.lt_size hso))
    have I2 := I.laid (t' := tt + 1) (a := h'.objs.size) (o := .met g a) hk2 hsz (show (h'.push (methodObj (.ref g) (.ref a))).get? h'.objs.size = some (methodObj (.ref g) (.ref a)) from Heap.get?_push_at rfl rfl)
    have hq := hh h'.objs.size (I.hok.fresh hsz)
    have hev := ha.run pos pins _ σ _ _ I2 hq
    rw [show starEach (e1 :: es1) (cxS cm CX P w K mg base N qual scope f (.ref cda) cc A outer s0 H0 E0').env = _ from he] at hev
    rw [he] at star
    first | rw [he] | rw [show starEach (e1 :: es1) (cxS cm CX P w K mg base N qual scope f (.ref cda) cc A outer s0 H0 E0').env = _ from he]
    refine PySem.W.ks_call (P := PySem.W.MethP K h'.objs.size g (.ref a)) star (PySem.W.keeps_M SF.fi) (Calls.evalArgs_plain (thn hev fun us s1 ⟨vs', H1, I1, r, hm1, hsp⟩ => ⟨met_P I1 hm1, ?_⟩))
    refine thn (Q := EP (cxS cm CX P w K mg base N qual scope f (.ref cda) cc A outer s0 H0 E0') pins σ fun _ H2 => u D σ H2) ?_ fun v s' ⟨v', H', J', rv, q⟩ => h2.run pins s' σ H' D J' q
    exact wpAny_call (method_call (met_P I1 hm1).1 (run_fnR (us := Value.ref a :: us) (vs := V.ref a :: vs') F hr hx I1 (.cons rfl r) hsp))
end
/-- as Fun, for a def with the free cell __class__ at cc, in a class that is no exception -/
structure FunQ (P : Program) (K : PySem.W.Frag) (mg : Str → Option Value) (x qual : Str) (st : Stmt) (f : Addr) (fd : FuncData) (C g : Addr) (sv : Str) : Prop where
  ex : ∃ (oc : Value) (od : Option Addr) (kV doc pm : Value) (an : Option Addr) (cda cc : Addr) (ct : Value) (osl : Array (Option Value)),
    fd = ksFn x qual (defArgs st) (defBody st) (defScope st) .none kV doc pm an (.ref cda) ct cc ∧ K.lookup f = some ⟨oc, od, .func fd, osl⟩ ∧ PySem.W.codeIn K (.ref cda) qual = true ∧ SupQ P K mg f cda cc C g fd sv
  kp : PySem.W.keepIn K (.ref f) = true
section
variable {P : Program} {w : World} {K : PySem.W.Frag} {mg : Str → Option Value} {base : Heap} {CX : CXT} {x qual : Str} {st : Stmt} {f C g : Addr} {fd : FuncData} {sv : Str} {N ps : List Str} {k : Nat} {sp : Sp}
/-- what the body of such a def shows -/
abbrev BodyQ (P : Program) (w : World) (K : PySem.W.Frag) (mg : Str → Option Value) (base : Heap) (CX : CXT) (N : List Str) (qual : Str) (st : Stmt) (f C g : Addr) (fd : FuncData) (sv : Str) (k : Nat) (sp : Sp) : Prop := ∀ (cda cc : Addr) (A : Around) (outer : List Env) (s : Shared) (H : Hp) (vs : List V) (Q : VK) (E : XK),
  SupQ P K mg f cda cc C g fd sv → Room k (A.deeper (ksEnv qual (defScope st) s.heap.objs.size f (.ref cda) cc)) → sp vs H Q E →
    ∃ t, PSA (cxS true CX P w K mg base N qual (defScope st) f (.ref cda) cc A outer s H E) (defBody st) (defBody st) t ∧ t { nx := fun _ H' => Q .non H', rt := Q } (start N vs) H
theorem FunQ.run {A : Around} {outer : List Env} {s : Shared} {H : Hp} {args : Args} {Q : VK} {E : XK} {G : List V → Hp → Prop} (F : FunQ P K mg x qual st f fd C g sv) (S : SupScope N ps (defScope st)) (hr : Room (k + 1) A) (e0 : Env0 P w K mg base A outer s H) (hb : StX.Bnd CX P w K mg base fd args ps A outer s H E G)
    (hG : ∀ vs H2, G vs H2 → sp vs H2 Q E) (hbody : BodyQ P w K mg base CX N qual st f C g fd sv k sp) : codeAny (model P w) A (.call (.ref f) args) (CR CX outer P w H s Q E) s := by
  obtain ⟨oc, od, kV, doc, pm, an, cda, cc, ct, osl, rfl, lk, hcd, SF⟩ := F.ex
  obtain ⟨_, _, _, lkl⟩ := SF.cell
  have KX : K.In s.heap := e0.mod.kin.keeps fun b o e => (e0.bs b o e).1
  refine codeAny_call_function hr.depth (KX _ _ lk) rfl S.co S.gen rfl (PySem.W.codeRec_of KX hcd) ?_
  refine hb _ _ _ fun s2 H2 vs us e2 un ho hx r hl gg => ?_
  have lim : s2.heap.NoLimit := e0.mod.nolimit.keeps fun b o e => (e2.bs b o e).1
  refine wpAny_newFunctionEnv S.nocell (fun y hy => S.par y.1 (List.of_mem_zip (show (y.1, y.2) ∈ _ from hy)).1) (fun h₀ hns hsb => ⟨lim.fresh _ hsb, ks_codeAny_funcAt ?_⟩) S.kind
  have hk : ∀ b o, s2.heap.get? b = some o → h₀.get? b = some o := fun b o e => hsb.extBut b o (Nat.ne_of_lt (Heap.lt_size e)) (Heap.get?_push_of_some _ e)
  obtain ⟨t, ht, hq⟩ := hbody cda cc A outer s2 H2 vs Q E SF (hr.deeper _) (hG _ _ gg)
  have I : Inv (cxS true CX P w K mg base N qual (defScope st) f (.ref cda) cc A outer s2 H2 E) [] (start N vs) H2 { s2 with heap := h₀, toks := s2.toks + (ps.zip us).length } := inv_sup S (fun _ => hr.hd) e2 hl r lkl hns hk
  refine ks_wpAt_mono (ht.run [] _ _ _ _ I hq) (fun fl s' hs => ?_) fun e s' hs => ?_
  · have fin : ∀ {σ' : L2.St} {H' : Hp} {v' : V} {u' : Value}, Inv (cxS true CX P w K mg base N qual (defScope st) f (.ref cda) cc A outer s2 H2 E) [] σ' H' s' → RelV v' u' → Q v' H' → CE outer P w H s Q u' s' :=
      fun {σ' H' v' u'} J rv' q => ⟨v', H', J.os.trans ho, J.bare, un.trans J.base, J.hok, rv', q⟩
    cases fl with
    | ret u' =>
      obtain ⟨v', σ', H', J, rv', q⟩ := hs
      exact fin J rv' q
    | next =>
      obtain ⟨σ', H', J, q⟩ := hs
      exact fin (v' := V.non) (u' := Value.none) J rfl q
    | brk =>
      obtain ⟨_, _, _, q⟩ := hs
      exact False.elim q
    | cont =>
      obtain ⟨_, _, _, q⟩ := hs
      exact False.elim q
  · exact wpAny_mono hs (fun _ s'' z => hx e s'' z) fun e' s'' z => hx e' s'' z
theorem FunQ.ok (F : FunQ P K mg x qual st f fd C g sv) (S : SupScope N ps (defScope st)) (len : ∀ vs H Q E, sp vs H Q E → vs.length = ps.length) (hbody : BodyQ P w K mg base CX N qual st f C g fd sv k sp) : FnOk P w K mg base CX (k + 1) f fd ps sp :=
  ⟨len, fun A outer s H args us vs Q E hr e0 hb r hsp => F.run S hr e0 (G := fun xs H2 => xs = vs ∧ H2 = H) (fun A' Ex Q' h => hb _ _ _ _ (h s H vs us e0 Un.refl rfl (fun _ _ z => z) r (len _ _ _ _ hsp) ⟨rfl, rfl⟩)) (fun _ _ ⟨e1, e2⟩ => by subst e1 e2; exact hsp) hbody⟩
theorem FunQ.okV {pv : Str} (F : FunQ P K mg x qual st f fd C g sv) (B : BindV fd ps pv) (S : SupScope N (ps ++ [pv]) (defScope st)) (hbody : BodyQ P w K mg base (L2.CX P w) N qual st f C g fd sv k sp) : FnR P w K mg base (L2.CX P w) (k + 1) f (spV ps.length sp) := by
  intro A outer s H us vs Q E hr e0 r hsp
  obtain ⟨ws, rest, ev, hl, hz, hq⟩ := hsp
  subst ev
  obtain ⟨u1, u2, eu, r1, r2⟩ := StX.vals_split r
  subst eu
  have hn : H s.heap.objs.size = Option.none := e0.hok.fresh (Nat.le_refl _)
  have hl1 : u1.length = ps.length := by rw [← r1.length]; exact hl
  have hl2 : u2.length ≤ sizeLine := by rw [← r2.length]; exact hz
  refine F.run S hr e0 (G := fun xs H2 => ∃ p, H p = Option.none ∧ xs = ws ++ [V.ref p] ∧ H2 = upd H p (.tup rest)) (fun A' Ex Q' h => ?_) (fun xs H2 ⟨p, hp, ex, eH⟩ => ?_) hbody
  · rw [B.b u1 u2 hl1]
    refine wpAny_bind (wpAny_newTuple (wpAny_pure ?_) hl2)
    have new : ObjOk P w (upd H s.heap.objs.size (.tup rest)) (s.heap.push ({ cls := .type "tuple", data := .seq u2.toArray } : Obj)) s.heap.objs.size (.tup rest) := ⟨hz, u2, r2, ⟨_, Heap.get?_push_size _ rfl, rfl, _, rfl⟩⟩
    have un := StX.un_laid (fs := frs outer) (s := s) (o := ({ cls := .type "tuple", data := .seq u2.toArray } : Obj)) (u := .tup rest) hn
    have z := h _ _ (ws ++ [V.ref s.heap.objs.size]) (u1 ++ [Value.ref s.heap.objs.size]) (StX.env0_laid e0 new) un rfl (fun e s' => StX.cxUp outer s H _ _ E e s' un (fun b o q => Heap.get?_push_of_some _ q) rfl) (r1.append (.cons rfl .nil))
      (by rw [List.length_append, List.length_append, hl] <;> rfl) ⟨_, hn, rfl, rfl⟩
    rw [List.zip_append hl1.symm] at z
    exact z
  · subst ex eH
    exact hq p hp
/-- how its arguments bind (no defaults) -/
theorem FunQ.binds (F : FunQ P K mg x qual st f fd C g sv)
    (h : ∀ (kV doc pm : Value) (an : Option Addr) (cda cc : Addr) (ct : Value) (us : List Value), us.length = ps.length → bindArgs (ksFn x qual (defArgs st) (defBody st) (defScope st) .none kV doc pm an (.ref cda) ct cc) ⟨us, []⟩ = pure (ps.zip us)) : Binds K fd ps [] := by
  obtain ⟨oc, od, kV, doc, pm, an, cda, cc, ct, osl, rfl, lk, hcd, SF⟩ := F.ex
  exact .all (h kV doc pm an cda cc ct)
theorem FunQ.bindsV {pv : Str} (F : FunQ P K mg x qual st f fd C g sv)
    (h : ∀ (kV doc pm : Value) (an : Option Addr) (cda cc : Addr) (ct : Value) (us rest : List Value), us.length = ps.length → bindArgs (ksFn x qual (defArgs st) (defBody st) (defScope st) .none kV doc pm an (.ref cda) ct cc) ⟨us ++ rest, []⟩ = (newTuple rest >>= fun t => pure (ps.zip us ++ [(pv, t)]))) : BindV fd ps pv := by
  obtain ⟨oc, od, kV, doc, pm, an, cda, cc, ct, osl, rfl, lk, hcd, SF⟩ := F.ex
  exact ⟨h kV doc pm an cda cc ct⟩
end
/-- def f(a, .., *v) under any wish that bears new objects -/
theorem Fun.okVX {CX : CXT} {P : Program} {w : World} {K : PySem.W.Frag} {mg : Str → Option Value} {base : Heap} {x qual pv : Str} {st : Stmt} {f : Addr} {fd : FuncData} {N ps : List Str} {k : Nat} {sp : Sp} (hCX : StX.CXUp CX) (F : Fun K x qual st f fd) (B : BindV fd ps pv) (S : FnScope N (ps ++ [pv]) (defScope st))
    (hbody : ∀ (cdv : Value) (A : Around) (outer : List Env) (s : Shared) (H : Hp) (vs : List V) (Q : VK) (E : XK), Room k (A.deeper (envOfC qual (defScope st) s.heap.objs.size f cdv)) → sp vs H Q E →
      ∃ t, PSs (cxOf CX P w K mg base N qual (defScope st) f cdv A outer s H E) (defBody st) t ∧ t { nx := fun _ H' => Q .non H', rt := Q } (start N vs) H) : FnR P w K mg base CX (k + 1) f (spV ps.length sp) := by
  obtain ⟨oc, od, kV, doc, pm, an, cdv, ct, osl, rfl, lk, hcd⟩ := F.ex
  exact StX.fn_star lk hcd S hCX B.b fun A outer s H vs Q E hr hsp => hbody cdv A outer s H vs Q E hr hsp
section
variable {P : Program} {K : PySem.W.Frag} {mg : Str → Option Value} {x qual : Str} {st : Stmt} {f C g : Addr} {fd : FuncData} {sv : Str} {ps ks : List Str} {gB : List Value → List Value → List Value} {gV : List V → List V → List V}
theorem kbindsQ (F : FunQ P K mg x qual st f fd C g sv)
    (h : ∀ (kV doc pm : Value) (an : Option Addr) (cda cc : Addr) (ct : Value) (us ws : List Value), (gB us ws).length = ps.length → bindArgs (ksFn x qual (defArgs st) (defBody st) (defScope st) .none kV doc pm an (.ref cda) ct cc) ⟨us, ks.zip ws⟩ = pure (ps.zip (gB us ws)))
    (rel : ∀ {vs : List V} {us : List Value} {zs : List V} {ws : List Value}, Vals vs us → Vals zs ws → Vals (gV vs zs) (gB us ws)) : KBinds K fd ps ks gB gV := by
  obtain ⟨oc, od, kV, doc, pm, an, cda, cc, ct, osl, rfl, lk, hcd, SF⟩ := F.ex
  exact ⟨fun s us ws _ hl => .of_eq (h kV doc pm an cda cc ct us ws hl), rel⟩
end
end Vc

/-! Xa: x + y by an own __add__; p[::-1] of a pair (my own). -/
namespace Vc
open PySem PySem.Spec PyProof.Rows L2
section
variable {X : Cx} {C g : Addr} {fd : FuncData} {ps : List Str} {sp : Sp} {n : Nat}
/-- x + y by x's own __add__, y of the same class -/
def rAddO (K : PySem.W.Frag) (C : Addr) (sp : Sp) : R2 := fun x y H Q => ∃ (a dx : Addr) (fs : List (Str × V)), x = .ref a ∧ H a = some (.ins C dx fs) ∧ TyX K H y (.ref C) ∧ sp [x, y] H (fun v H' => ∃ b, v = .ref b ∧ Q (.ref b) H') E0
theorem op_addO (F : FnOk X.prog X.w X.K X.mg X.base CX0 n g fd ps sp) (hr : Room n X.A) (m : SpM X.K C g "__add__") (sf : PySem.W.selfFirst X.K C = true) (hb : Binds X.K fd ps []) : OpR X (binaryOp .Add) (rAddO X.K C sp) := by
  intro pins s σ H x y v u Q I rx ry h
  obtain ⟨a, dx, fs, rfl, ha, ty, q⟩ := h
  cases rx
  obtain ⟨mA, J, _⟩ := ins_get I.hok ha
  obtain ⟨od, J, _⟩ := J.look
  obtain ⟨_, Z, p, _⟩ := kit_of I ry ty
  obtain ⟨mm, hF⟩ := I.fr
  refine PySem.W.binop_K (op := .Add) hF I.ok.mod.kin J (Z.ty _ _ I.kIn p) sf m.at_ m.fn ?_
  refine wpAny_mono (runO (vs := [.ref a, y]) F hr hb I I.env0 (.cons rfl (.cons ry .nil)) q) (fun w' s' hq => ?_) (fun _ _ e => e)
  obtain ⟨z, H', I', rz, b, rfl, qz⟩ := hq
  cases rz
  exact ⟨.ref b, H', I', rfl, qz⟩
theorem go_addO {K : PySem.W.Frag} {H : Hp} {Q : VK} {a dx : Addr} {fs : List (Str × V)} {y : V} (ha : H a = some (.ins C dx fs)) (ty : TyX K H y (.ref C)) (q : sp [.ref a, y] H (fun v H' => ∃ b, v = .ref b ∧ Q (.ref b) H') E0) : rAddO K C sp (.ref a) y H Q := ⟨a, dx, fs, rfl, ha, ty, q⟩
end
section
variable {prog : Program} {w : World} {A : Around} {E : Value → Shared → Prop} {s : Shared}
theorem sliceApplied_rev {sl : Addr} {vl vu vs : Value} {Q : Int × Int × Nat → Shared → Prop} (hs : s.heap.IsSliceOf sl vl vu vs) (pl : IsPart vl none) (pu : IsPart vu none) (p : IsPart vs (some (-1)))
    (h : Q (1, -1, 2) s) : wpAny (model prog w) A (Builtin.Slice.sliceApplied (.ref sl) (pure (2 : Int))) Q E s := by
  obtain ⟨os, hos, hcs, hds⟩ := id hs
  unfold Builtin.Slice.sliceApplied Builtin.Slice.sliceFields
  refine wpAny_bind (wpAny_bind (wpAny_field hos hds (x := vl) rfl (wpAny_bind (wpAny_field hos hds (x := vu) rfl (wpAny_bind (wpAny_field hos hds (x := vs) rfl (wpAny_pure ?_)))))))
  refine wpAny_bind (HT.slicePart_ p ?_)
  show wpAny _ _ (if ((-1 : Int) == 0) = true then _ else _) _ _ s
  rw [if_neg (by decide)]
  refine wpAny_bind (HT.slicePart_ pl (wpAny_bind (HT.slicePart_ pu (wpAny_bind (wpAny_pure ?_)))))
  exact wpAny_pure h
theorem getItem_pair_rev {t sl : Addr} {a b : Value} {vl vu vs : Value} {Q : Value → Shared → Prop} (ht : IsTup s.heap t #[a, b]) (hs : s.heap.IsSliceOf sl vl vu vs) (pl : IsPart vl none) (pu : IsPart vu none) (p : IsPart vs (some (-1)))
    (h : Q (.ref s.heap.objs.size) { s with heap := s.heap.push { cls := .type "tuple", data := .seq #[b, a] } }) : wpAny (model prog w) A (getItem (.ref t) (.ref sl)) Q E s := by
  have htake : sizeOk (.seq #[b, a]) := by
    show 2 ≤ sizeLine
    decide
  obtain ⟨os, hos, hcs, hds⟩ := id hs
  have hTs : s.TypeIs (.ref sl) "slice" := ⟨os, hos, hcs⟩
  unfold getItem
  try with_reducible refine wpAny_holding ?_
  first | refine wpAny_bind (wpAny_pure ?_) | skip
  refine wpAny_bind (wpAny_sequenceKey ht.typeIs (by decide) ?_)
  refine wpAny_bind (wpAny_callSpecial?_slot (name := Str.ofString "__getitem__") ht.typeIs PyProof.Rows.slot_tuple_getitem
    (wpAny_call_entry PyProof.Rows.slot_tuple_getitem ht.typeIs PyProof.Rows.entry_tuple_getitem ?_ (PyProof.Rows.args_tuple_getitem _ _)))
  show wpAny _ _ (Builtin.Tuple.tupleItemsOf (.ref t) >>= _) _ _ s
  refine wpAny_bind (PyProof.Rows.tupleItemsOf_ ht ?_)
  refine wpAny_bind (wpAny_typeOf hTs ?_)
  rw [if_pos (by decide)]
  refine wpAny_bind (sliceApplied_rev hs pl pu p ?_)
  show wpAny _ _ (if ((1 : Int) == 0 && (-1 : Int) == 1 && 2 == (#[a, b] : Array Value).size) = true then _ else _) _ _ s
  rw [if_neg (by show ¬ ((1 : Int) == 0 && (-1 : Int) == 1 && 2 == 2) = true; decide)]
  have pick : ((List.range 2).filterMap fun (m : Nat) => (#[a, b] : Array Value)[((1 : Int) + (m : Int) * (-1)).toNat]?).toArray = #[b, a] := rfl
  rw [pick]
  first
    | exact wpAny_bind (m := Builtin.Tuple.tupleExact _) (wpAny_newObj_type (wpAny_pure ⟨_, rfl, wpAny_pure h⟩) htake)
    | exact wpAny_bind (m := Builtin.Tuple.tupleExact _) (wpAny_newObj_type (wpAny_bind (wpAny_pure (wpAny_pure ⟨_, rfl, wpAny_pure h⟩))) htake)
    | exact wpAny_bind (wpAny_bind (m := Builtin.Tuple.tupleExact _) (wpAny_newObj_type (wpAny_pure (wpAny_pure ⟨_, rfl, wpAny_pure h⟩)) htake))
    | exact wpAny_bind (wpAny_bind (m := Builtin.Tuple.tupleExact _) (wpAny_newObj_type (wpAny_pure ⟨_, rfl, wpAny_pure h⟩) htake))
end
/-- p[::-1], p a pair -/
def tRev2 (K : PySem.W.Frag) (te : TE) : TE := fun σ H Q => te σ H fun x H1 => ∃ a u v, x = .ref a ∧ SqT K H1 a [u, v] ∧ ∀ p, H1 p = none → Q (.ref p) (upd H1 p (.tup [v, u]))
theorem pe_rev2 {X : Cx} {e : Expr} {te : TE} {k : Nat} {p1 p2 p3 pos : Pos} (he : PE X e te) : PE X (.Subscript e (.Slice none none (some (.UnaryOp .USub (.Constant (.int 1) k p1) p2)) p3) pos) (tRev2 X.K te) := by
  refine ⟨fun pins s σ H Q I h => ?_⟩
  refine Subscript_ (thn (he.run pins s σ H _ I h) fun v s1 ⟨x, H1, I1, r1, q1⟩ => ?_)
  obtain ⟨a, y, z, ex, hx, q⟩ := q1
  subst ex
  cases r1
  have hst : PO X (some (.UnaryOp .USub (.Constant (.int 1) k p1) p2)) (tPart (tUn (rU fun i => .int (-i)) (tC (.int 1)))) := po_some (pe_un un_neg pe_int)
  refine wpAny_Slice (thn (po_none.run pins s1 σ H1 (fun o H2 => o = none ∧ H2 = H1) I1 ⟨rfl, rfl⟩) fun vl s2 ⟨l, H2, I2, pl, el, e2⟩ => ?_)
  subst el e2
  refine thn (po_none.run pins s2 σ H2 (fun o H3 => o = none ∧ H3 = H2) I2 ⟨rfl, rfl⟩) fun vu s3 ⟨u, H3, I3, pu, eu, e3⟩ => ?_
  subst eu e3
  refine thn (hst.run pins s3 σ H3 (fun o H4 => o = some (-1) ∧ H4 = H3) I3 ⟨1, rfl, -1, rfl, rfl, rfl⟩) fun vs s4 ⟨o, H4, I4, ps, eo, e4⟩ => ?_
  subst eo e4
  have I5 : Inv X pins σ H4 { s4 with heap := s4.heap.push { cls := .type "slice", data := .fields #[vl, vu, vs] } } := I4.kept (t' := s4.toks) fun b ob q => Heap.get?_push_of_some _ q
  obtain ⟨its, r, ht, hz⟩ := I5.tuple hx
  cases r with
  | cons ry r =>
    cases r with
    | cons rz r =>
      cases r
      show wpAny (model X.prog X.w) X.A (subscriptTail e (.Slice none none (some (.UnaryOp .USub (.Constant (.int 1) k p1) p2)) p3) (.ref a) (.ref s4.heap.objs.size)) (EP X pins σ Q) X.xe { s4 with heap := s4.heap.push { cls := .type "slice", data := .fields #[vl, vu, vs] } }
      refine tail_any (ops := [.ref a, .ref s4.heap.objs.size]) ht.typeIs (PyProof.Rows.slot_tuple_getitem.lookup) ?_ (by with_unfolding_all rfl)
      refine getItem_pair_rev ht (Heap.IsSliceOf.new _ vl vu vs) pl pu ps ?_
      refine ⟨.ref _, _, I5.laid (t' := s4.toks) (o := .tup [z, y]) (fun b ob q => Heap.get?_push_of_some _ q) (Nat.le_refl _) ?_, rfl, q _ (I5.hok.fresh (Nat.le_refl _))⟩
      exact ⟨by show 2 ≤ sizeLine; decide, _, .cons rz (.cons ry .nil), IsTup.new _ _⟩
theorem go_rev2 {K : PySem.W.Frag} {te : TE} {σ : L2.St} {H : Hp} {Q : VK} (h : te σ H fun x H1 => ∃ a u v, x = .ref a ∧ SqT K H1 a [u, v] ∧ ∀ p, H1 p = none → Q (.ref p) (upd H1 p (.tup [v, u]))) : tRev2 K te σ H Q := h
end Vc

/-! Xp: e.f, x == y, x != y, str(x) where x is of one of several own classes that have the def in common: the reading tells which (my own). -/
namespace Vc
open PySem PySem.Spec PyProof.Rows L2
section
variable {X : Cx} {g : Addr} {fd : FuncData} {ps : List Str} {sp : Sp} {n : Nat}
def rEqP (K : PySem.W.Frag) (g : Addr) (sp : Sp) : R2 := fun x y H Q => ∃ C, EqM K C g ∧ rEqO K C sp x y H Q
theorem op_eqP (F : FnOk X.prog X.w X.K X.mg X.base CX0 n g fd ps sp) (hr : Room n X.A) (hb : Binds X.K fd ps []) : OpR X (compareOp .Eq) (rEqP X.K g sp) := by
  rintro pins s σ H x y v u Q I rx ry ⟨C, m, h⟩
  exact op_eqO F hr m hb pins s σ H x y v u Q I rx ry h
def rNeP (K : PySem.W.Frag) (g : Addr) (sp : Sp) : R2 := fun x y H Q => ∃ C, NeM K C g ∧ rNeO K C sp x y H Q
theorem op_neP (F : FnOk X.prog X.w X.K X.mg X.base CX0 n g fd ps sp) (hr : Room (n + 1) X.A) (hb : Binds X.K fd ps []) : OpR X (compareOp .NotEq) (rNeP X.K g sp) := by
  rintro pins s σ H x y v u Q I rx ry ⟨C, m, h⟩
  exact op_neO F hr m hb pins s σ H x y v u Q I rx ry h
def rStrP (K : PySem.W.Frag) (g : Addr) (sp : Sp) : List V → Hp → VK → Prop := fun xs H Q => ∃ C, SpM K C g "__str__" ∧ rStrO C sp xs H Q
theorem call_strP (F : FnOk X.prog X.w X.K X.mg X.base CX0 n g fd ps sp) (hr : Room (n + 2) X.A) (hb : Binds X.K fd ps []) : CallR X (.type "str") (rStrP X.K g sp) := by
  rintro pins s σ H xs us Q I r ⟨C, m, h⟩
  exact call_strO F hr m hb pins s σ H xs us Q I r h
def tPropP (K : PySem.W.Frag) (f : Str) (g : Addr) (sp : Sp) (te : TE) : TE := fun σ H Q => te σ H fun x H1 => ∃ (a C p dx : Addr) (fs : List (Str × V)), x = .ref a ∧ H1 a = some (.ins C dx fs) ∧ Cls K C ∧ PropOf K C f p g ∧ sp [.ref a] H1 Q E0
theorem pe_propP {e : Expr} {te : TE} {f : Str} {pos : Pos} (he : PE X e te) (F : FnOk X.prog X.w X.K X.mg X.base CX0 n g fd ps sp) (hr : Room (n + 1) X.A) (hb : Binds X.K fd ps [])
    (hab : attributeBase e f X.env (eval e X.env) = eval e X.env) : PE X (.Attribute e f pos) (tPropP X.K f g sp te) := by
  refine ⟨fun pins s σ H Q I h => ?_⟩
  refine attr_of hab (thn (he.run pins s σ H _ I h) fun u s1 ⟨x, H1, I1, rx, a, C, p, dx, fs, ex, ea, c, hp, q⟩ => ?_)
  subst ex
  obtain rfl : u = Value.ref a := rx
  exact getprop_ok I1 ea c hp F hr hb .nil pass0 (by simpa using q)
end
section
variable {K : PySem.W.Frag} {H : Hp} {Q : VK} {g : Addr} {sp : Sp} {C a dx : Addr} {fs : List (Str × V)}
theorem go_eqP (m : EqM K C g) {y : V} {t : Value} (ha : H a = some (.ins C dx fs)) (ty : TyX K H y t) (nf : PySem.W.notFirst K C t = true) (q : sp [.ref a, y] H (fun v H' => ∃ b, v = .bl b ∧ Q (.bl b) H') E0) : rEqP K g sp (.ref a) y H Q := ⟨C, m, a, dx, fs, t, rfl, ha, ty, nf, q⟩
theorem go_neP (m : NeM K C g) {y : V} {t : Value} (ha : H a = some (.ins C dx fs)) (ty : TyX K H y t) (nf : PySem.W.notFirst K C t = true) (q : sp [.ref a, y] H (fun v H' => ∃ b, v = .bl b ∧ Q (.bl (!b)) H') E0) : rNeP K g sp (.ref a) y H Q := ⟨C, m, a, dx, fs, t, rfl, ha, ty, nf, q⟩
theorem go_strP (m : SpM K C g "__str__") (ha : H a = some (.ins C dx fs)) (q : sp [.ref a] H (fun v H' => ∃ z, v = .str z ∧ Q (.str z) H') E0) : rStrP K g sp [.ref a] H Q := ⟨C, m, a, dx, fs, rfl, ha, q⟩
theorem go_propP {f : Str} {te : TE} {σ : L2.St} (h : te σ H fun x H1 => ∃ (a C p dx : Addr) (fs : List (Str × V)), x = .ref a ∧ H1 a = some (.ins C dx fs) ∧ Cls K C ∧ PropOf K C f p g ∧ sp [.ref a] H1 Q E0) : tPropP K f g sp te σ H Q := h
end
end Vc

/-! Xrp: how long the repr of data is (my own). -/
namespace Vc
open PySem PySem.Spec PyProof.Rows L2
/-- a text of at most n plain signs -/
structure SOk (z : Str) (n : Nat) : Prop where
  len : z.length ≤ n
  sg : ∀ c ∈ z.cps.toList, c < 16 ^ 8
theorem SOk.mono {z : Str} {n m : Nat} (h : SOk z n) (l : n ≤ m) : SOk z m := ⟨Nat.le_trans h.len l, h.sg⟩
theorem sapp_len (a b : Str) : (a ++ b).length = a.length + b.length := strLen_append a b
theorem SOk.app {a b : Str} {n m : Nat} (h : SOk a n) (k : SOk b m) : SOk (a ++ b) (n + m) := by
  refine ⟨by rw [sapp_len]; exact Nat.add_le_add h.len k.len, fun c hc => ?_⟩
  have hc : c ∈ (a.cps ++ b.cps).toList := hc
  rw [Array.toList_append] at hc
  rcases List.mem_append.mp hc with hc | hc
  · exact h.sg c hc
  · exact k.sg c hc
theorem int_sg (i : Int) : ∀ c ∈ (Str.ofString (toString i)).cps.toList, c < 16 ^ 8 := fun c hc => by
  by_cases h : c < 16 ^ 8
  · exact h
  · have n := PyProof.Rows.shown_int_free' (k := c) ⟨by omega, by omega⟩ i
    rw [PyData.shown_int] at n
    exact absurd hc n
theorem int_sok {i : Int} {k : Nat} (hk : 0 < k) (h : i.natAbs < 10 ^ k) : SOk (Str.ofString (toString i)) (k + 1) := by
  refine ⟨?_, int_sg i⟩
  rw [PySem.ofString_length]
  exact int_text_length_le10 hk h
/-- data whose repr has at most w signs -/
structure Fw (d : PyData) (w k : Nat) : Prop where
  sh : d.showable = true
  nd : d.hasDict = false
  dp : d.depth ≤ k
  sz : d.shown.length ≤ w
theorem Fw.mono {d : PyData} {w k w' k' : Nat} (h : Fw d w k) (l : w ≤ w') (m : k ≤ k') : Fw d w' k' := ⟨h.sh, h.nd, Nat.le_trans h.dp m, Nat.le_trans h.sz l⟩
theorem Fw.fits {d : PyData} {w k : Nat} (h : Fw d w k) (l : w ≤ 1000000 := by decide) (m : k ≤ 60 := by decide) : Fits d := ⟨h.sh, h.nd, Nat.le_trans h.dp m, Nat.le_trans h.sz (by rw [sizeLine_eq]; omega)⟩
theorem fw_non {w k : Nat} (l : 4 ≤ w := by decide) : Fw .none w k := ⟨rfl, rfl, Nat.zero_le _, by rw [PyData.shown_none]; exact Nat.le_trans (by decide) l⟩
theorem fw_bl {w k : Nat} (b : Bool) (l : 5 ≤ w := by decide) : Fw (.bool b) w k := ⟨rfl, rfl, Nat.zero_le _, by rw [PyData.shown_bool]; exact Nat.le_trans (by cases b <;> decide) l⟩
theorem log10 {n k : Nat} (h : n < 10 ^ k) (l : k ≤ 480) : n.log2 < 1920 := by
  have : n < 2 ^ 1920 := Nat.lt_of_lt_of_le h (Nat.le_trans (Nat.pow_le_pow_right (by decide) l) (by decide +kernel))
  by_cases z : n = 0
  · rw [z]; decide
  · exact (Nat.log2_lt z).mpr this
theorem fw_int {i : Int} {w k : Nat} (j : Nat) (h : i.natAbs < 10 ^ j) (j0 : 0 < j := by decide) (j1 : j ≤ 480 := by decide) (l : j + 1 ≤ w := by decide) : Fw (.int i) w k :=
  ⟨by simp only [PyData.showable]; exact decide_eq_true (log10 h j1), rfl, Nat.zero_le _, by rw [PyData.shown_int]; exact Nat.le_trans (int_sok j0 h).len l⟩
theorem fw_str {z : Str} {n w k : Nat} (h : SOk z n) (l : 10 * n + 2 ≤ w := by decide) : Fw (.str z) w k :=
  ⟨rfl, rfl, Nat.zero_le _, by rw [PyData.shown_str]; have := PySem.StrLaws.reprText_len z h.sg; have := h.len; omega⟩
theorem fw_all {w k : Nat} : ∀ {ds : List PyData}, (∀ x ∈ ds, Fw x w k) → PyData.showableAll ds = true ∧ PyData.hasDictAll ds = false ∧ PyData.depthAll ds ≤ k ∧ piled (PyData.shownAll ds) ≤ ds.length * (w + 2)
  | [], _ => ⟨rfl, rfl, Nat.zero_le _, by show piled [] ≤ _; rw [piled_nil]; exact Nat.zero_le _⟩
  | d :: r, h => by
    obtain ⟨a, b, c, e⟩ := fw_all (fun x hx => h x (List.mem_cons_of_mem _ hx))
    have hd := h d List.mem_cons_self
    refine ⟨by simp only [PyData.showableAll, hd.sh, a, Bool.and_self], by simp only [PyData.hasDictAll, hd.nd, b, Bool.or_self], by simp only [PyData.depthAll]; exact Nat.max_le.mpr ⟨hd.dp, c⟩, ?_⟩
    show piled (d.shown :: PyData.shownAll r) ≤ (r.length + 1) * (w + 2)
    rw [piled_cons, Nat.add_mul]
    have := hd.sz
    omega
theorem listText_le (ts : List Str) : (listText ts).length ≤ piled ts + 4 := by
  cases ts with
  | nil => decide
  | cons t r =>
    show ((textFrom 1 ("[" ++ "" ++ t) r) ++ "]" : Str).length ≤ _
    rw [sapp_len, textFrom_length_pos r 1 _ (by decide), piled_cons, sapp_len, sapp_len]
    show 1 + 0 + t.length + piled r + 1 ≤ _
    omega
theorem tupleText_le (ts : List Str) : (tupleText ts).length ≤ piled ts + 4 := by
  unfold tupleText
  rw [sapp_len, sapp_len]
  have l1 : (Str.ofString (if (ts.length == 1) = true then ",)" else ")")).length ≤ 2 := by split <;> decide
  have l2 : (Str.ofString "(").length = 1 := rfl
  cases ts with
  | nil => decide
  | cons t r =>
    have := join_length_add (t :: r) (by simp)
    omega
theorem fw_lst {ds : List PyData} {w k W : Nat} (h : ∀ x ∈ ds, Fw x w k) (l : ds.length * (w + 2) + 4 ≤ W) : Fw (.list ds) W (k + 1) := by
  obtain ⟨a, b, c, e⟩ := fw_all h
  exact ⟨by simp only [PyData.showable]; exact a, by simp only [PyData.hasDict]; exact b, by simp only [PyData.depth]; omega, by simp only [PyData.shown]; have := listText_le (PyData.shownAll ds); omega⟩
theorem fw_tup {ds : List PyData} {w k W : Nat} (h : ∀ x ∈ ds, Fw x w k) (l : ds.length * (w + 2) + 4 ≤ W) : Fw (.tuple ds) W (k + 1) := by
  obtain ⟨a, b, c, e⟩ := fw_all h
  exact ⟨by simp only [PyData.showable]; exact a, by simp only [PyData.hasDict]; exact b, by simp only [PyData.depth]; omega, by simp only [PyData.shown]; have := tupleText_le (PyData.shownAll ds); omega⟩
theorem fw_nil {w k : Nat} : ∀ x ∈ ([] : List PyData), Fw x w k := fun _ h => nomatch h
theorem fw_cons {w k : Nat} {d : PyData} {r : List PyData} (h : Fw d w k) (t : ∀ x ∈ r, Fw x w k) : ∀ x ∈ d :: r, Fw x w k := fun x hx => by
  rcases List.mem_cons.mp hx with rfl | hx
  · exact h
  · exact t x hx
end Vc

/-! Xh: the end of a law over a head by one kernel run: what stands behind the top is told by Bools over a part of the heap and by the parts of each def (my own). -/
namespace Hx
open PySem PySem.Spec PyProof.Rows L2
/-! ### Bools over the part -/
def chk (l : List (PySem.W.Frag → Bool)) (K : PySem.W.Frag) : Bool := l.all fun f => f K
theorem fact {l : List (PySem.W.Frag → Bool)} {K : PySem.W.Frag} (h : chk l K = true) (i : Nat) {f : PySem.W.Frag → Bool} (e : l[i]? = some f) : f K = true := List.all_eq_true.mp h f (List.mem_of_getElem? e)
theorem chk_app {a b : List (PySem.W.Frag → Bool)} {K : PySem.W.Frag} (h : chk (a ++ b) K = true) : chk a K = true ∧ chk b K = true := by
  have h1 : (a ++ b).all (fun f => f K) = true := h
  rw [List.all_append] at h1
  exact Bool.and_eq_true_iff.mp h1
theorem app_chk {a b : List (PySem.W.Frag → Bool)} {K : PySem.W.Frag} (h1 : chk a K = true) (h2 : chk b K = true) : chk (a ++ b) K = true := by
  show (a ++ b).all (fun f => f K) = true
  rw [List.all_append]
  exact Bool.and_eq_true_iff.mpr ⟨h1, h2⟩
/-! ### defs -/
structure Dq where
  a : Addr
  name : Str
  qual : Str
  params : Arguments
  body : List Stmt
  scope : Scope
  clo : List (Str × Addr)
abbrev FnQ : Type := Option (Str × Str × Arguments × FuncBody × Scope × Addr × List (Str × Addr) × Addr)
def fnQ (K : PySem.W.Frag) (d : Dq) : FnQ := match K.lookup d.a with
  | some ⟨_, _, .func fd, _⟩ => some (fd.name, fd.qualname, fd.params, fd.body, fd.scope, fd.globals, fd.closure, fd.builtins)
  | _ => none
def Dq.val (d : Dq) : FnQ := some (d.name, d.qual, d.params, .stmts d.body, d.scope, mainGlobals, d.clo, builtinsNs)
def fdB (K : PySem.W.Frag) (a : Addr) (p : FuncData → Bool) : Bool := match K.lookup a with
  | some ⟨_, _, .func fd, _⟩ => p fd
  | _ => false
def nonV : Value → Bool
  | .none => true
  | _ => false
def refB (n : Addr) : Value → Bool
  | .ref a => a == n
  | _ => false
theorem nonV_ok {v : Value} (h : nonV v = true) : v = .none := by cases v <;> first | rfl | cases h
theorem refB_ok {n : Addr} {v : Value} (h : refB n v = true) : v = .ref n := by
  cases v with
  | ref a => rw [beq_iff_eq.mp (show (a == n) = true from h)]
  | _ => cases h
theorem ba {a b : Bool} (h : (a && b) = true) : a = true ∧ b = true := Bool.and_eq_true_iff.mp h
theorem at_map {fn : List Dq} {K : PySem.W.Frag} (e : fn.map (fnQ K) = fn.map Dq.val) (i : Nat) {d : Dq} (h : fn[i]? = some d) : fnQ K d = d.val := by
  have e2 : (fn.map (fnQ K))[i]? = (fn.map Dq.val)[i]? := by rw [e]
  rw [List.getElem?_map, List.getElem?_map, h] at e2
  exact Option.some.inj e2
theorem fq {K : PySem.W.Frag} {d : Dq} {p : FuncData → Bool} (e : fnQ K d = d.val) (c : fdB K d.a p = true) :
    ∃ fd oc od sl, K.lookup d.a = some ⟨oc, od, .func fd, sl⟩ ∧ p fd = true ∧ fd.name = d.name ∧ fd.qualname = d.qual ∧ fd.params = d.params ∧ fd.body = .stmts d.body ∧ fd.scope = d.scope ∧ fd.globals = mainGlobals ∧ fd.closure = d.clo ∧ fd.builtins = builtinsNs := by
  unfold fdB at c
  unfold fnQ at e
  cases q : K.lookup d.a with
  | none =>
    rw [q] at c
    cases c
  | some o =>
    obtain ⟨oc, od, dt, osl⟩ := o
    rw [q] at c e
    cases dt with
    | func fd =>
      have e2 : (some (fd.name, fd.qualname, fd.params, fd.body, fd.scope, fd.globals, fd.closure, fd.builtins) : FnQ) = some (d.name, d.qual, d.params, .stmts d.body, d.scope, mainGlobals, d.clo, builtinsNs) := e
      simp only [Option.some.injEq, Prod.mk.injEq] at e2
      obtain ⟨h1, h2, h3, h4, h5, h6, h7, h8⟩ := e2
      exact ⟨fd, oc, od, osl, rfl, c, h1, h2, h3, h4, h5, h6, h7, h8⟩
    | _ => cases c
def pPlain (K : PySem.W.Frag) (q : Str) (fd : FuncData) : Bool := nonV fd.defaults && PySem.W.codeIn K fd.code q
def pDfl (K : PySem.W.Frag) (q : Str) (t : Addr) (fd : FuncData) : Bool := refB t fd.defaults && PySem.W.codeIn K fd.code q
def pKwd (K : PySem.W.Frag) (q : Str) (t : Addr) (fd : FuncData) : Bool := nonV fd.defaults && (refB t fd.kwdefaults && PySem.W.codeIn K fd.code q)
def pSup (K : PySem.W.Frag) (q : Str) (c : Addr) (fd : FuncData) : Bool := nonV fd.defaults && (refB c fd.code && PySem.W.codeIn K (.ref c) q)
section
variable {K : PySem.W.Frag} {a : Addr} {x q : Str} {ps : Arguments} {bd : List Stmt} {sc : Scope}
theorem plain_ok (e : fnQ K ⟨a, x, q, ps, bd, sc, []⟩ = (Dq.mk a x q ps bd sc []).val) (c : fdB K a (pPlain K q) = true) :
    ∃ (oc kV dc pm cd ct : Value) (od an : Option Addr) (sl : Array (Option Value)), K.lookup a = some ⟨oc, od, .func (PySem.W.fnOf x q ps bd sc .none kV dc pm an cd ct), sl⟩ ∧ PySem.W.codeIn K cd q = true := by
  obtain ⟨fd, oc, od, sl, lk, h, e1, e2, e3, e4, e5, e6, e7, e8⟩ := fq (d := ⟨a, x, q, ps, bd, sc, []⟩) e c
  obtain ⟨n1, n2, n3, n4, n5, n6, n7, n8, n9, n10, n11, n12, n13, n14, n15⟩ := fd
  dsimp only at e1 e2 e3 e4 e5 e6 e7 e8
  subst e1 e2 e3 e4 e5 e6 e7 e8
  obtain ⟨h1, h2⟩ := ba h
  obtain rfl : n8 = .none := nonV_ok h1
  exact ⟨oc, n9, n10, n11, n13, n14, od, n12, sl, lk, h2⟩
theorem dfl_ok {t : Addr} (e : fnQ K ⟨a, x, q, ps, bd, sc, []⟩ = (Dq.mk a x q ps bd sc []).val) (c : fdB K a (pDfl K q t) = true) :
    ∃ (oc kV dc pm cd ct : Value) (od an : Option Addr) (sl : Array (Option Value)), K.lookup a = some ⟨oc, od, .func (PySem.W.fnOf x q ps bd sc (.ref t) kV dc pm an cd ct), sl⟩ ∧ PySem.W.codeIn K cd q = true := by
  obtain ⟨fd, oc, od, sl, lk, h, e1, e2, e3, e4, e5, e6, e7, e8⟩ := fq (d := ⟨a, x, q, ps, bd, sc, []⟩) e c
  obtain ⟨n1, n2, n3, n4, n5, n6, n7, n8, n9, n10, n11, n12, n13, n14, n15⟩ := fd
  dsimp only at e1 e2 e3 e4 e5 e6 e7 e8
  subst e1 e2 e3 e4 e5 e6 e7 e8
  obtain ⟨h1, h2⟩ := ba h
  obtain rfl : n8 = .ref t := refB_ok h1
  exact ⟨oc, n9, n10, n11, n13, n14, od, n12, sl, lk, h2⟩
theorem kwd_ok {t : Addr} (e : fnQ K ⟨a, x, q, ps, bd, sc, []⟩ = (Dq.mk a x q ps bd sc []).val) (c : fdB K a (pKwd K q t) = true) :
    ∃ (oc dc pm cd ct : Value) (od an : Option Addr) (sl : Array (Option Value)), K.lookup a = some ⟨oc, od, .func (PySem.W.fnOf x q ps bd sc .none (.ref t) dc pm an cd ct), sl⟩ ∧ PySem.W.codeIn K cd q = true := by
  obtain ⟨fd, oc, od, sl, lk, h, e1, e2, e3, e4, e5, e6, e7, e8⟩ := fq (d := ⟨a, x, q, ps, bd, sc, []⟩) e c
  obtain ⟨n1, n2, n3, n4, n5, n6, n7, n8, n9, n10, n11, n12, n13, n14, n15⟩ := fd
  dsimp only at e1 e2 e3 e4 e5 e6 e7 e8
  subst e1 e2 e3 e4 e5 e6 e7 e8
  obtain ⟨h1, h2⟩ := ba h
  obtain ⟨h2, h3⟩ := ba h2
  obtain rfl : n8 = .none := nonV_ok h1
  obtain rfl : n9 = .ref t := refB_ok h2
  exact ⟨oc, n10, n11, n13, n14, od, n12, sl, lk, h3⟩
theorem sup_ok {cda cc : Addr} (e : fnQ K ⟨a, x, q, ps, bd, sc, [("__class__", cc)]⟩ = (Dq.mk a x q ps bd sc [("__class__", cc)]).val) (c : fdB K a (pSup K q cda) = true) :
    ∃ (oc kV dc pm ct : Value) (od an : Option Addr) (sl : Array (Option Value)), K.lookup a = some ⟨oc, od, .func (PySem.W.ksFn x q ps bd sc .none kV dc pm an (.ref cda) ct cc), sl⟩ ∧ PySem.W.codeIn K (.ref cda) q = true := by
  obtain ⟨fd, oc, od, sl, lk, h, e1, e2, e3, e4, e5, e6, e7, e8⟩ := fq (d := ⟨a, x, q, ps, bd, sc, [("__class__", cc)]⟩) e c
  obtain ⟨n1, n2, n3, n4, n5, n6, n7, n8, n9, n10, n11, n12, n13, n14, n15⟩ := fd
  dsimp only at e1 e2 e3 e4 e5 e6 e7 e8
  subst e1 e2 e3 e4 e5 e6 e7 e8
  obtain ⟨h1, h2⟩ := ba h
  obtain ⟨h2, h3⟩ := ba h2
  obtain rfl : n8 = .none := nonV_ok h1
  obtain rfl : n13 = .ref cda := refB_ok h2
  exact ⟨oc, n9, n10, n11, n14, od, n12, sl, lk, h3⟩
end
/-! ### other facts -/
section
variable {K : PySem.W.Frag}
def recB1 (K : PySem.W.Frag) (p : Addr) (T : String) (f : Addr) : Bool := match PySem.W.recIn K p T with
  | some (v :: _) => refB f v
  | _ => false
theorem rec1_ok {p f : Addr} {T : String} (h : recB1 K p T f = true) : ∃ r, PySem.W.recIn K p T = some (.ref f :: r) := by
  unfold recB1 at h
  split at h
  · rename_i v r e
    rw [refB_ok h] at e
    exact ⟨r, e⟩
  · cases h
def recB2 (K : PySem.W.Frag) (p : Addr) (T : String) (f : Addr) : Bool := match PySem.W.recIn K p T with
  | some (_ :: v :: _) => refB f v
  | _ => false
theorem rec2_ok {p f : Addr} {T : String} (h : recB2 K p T f = true) : ∃ g r, PySem.W.recIn K p T = some (g :: .ref f :: r) := by
  unfold recB2 at h
  split at h
  · rename_i u v r e
    rw [refB_ok h] at e
    exact ⟨u, r, e⟩
  · cases h
def strB (K : PySem.W.Frag) (d : Addr) (x z : Str) : Bool := match PySem.W.nsIn K d x with
  | some (some (.str y _)) => decide (y = z)
  | _ => false
theorem str_ok {d : Addr} {x z : Str} (h : strB K d x z = true) : ∃ t, PySem.W.nsIn K d x = some (some (.str z t)) := by
  unfold strB at h
  split at h
  · rename_i y t e
    rw [of_decide_eq_true h] at e
    exact ⟨t, e⟩
  · cases h
def intB (K : PySem.W.Frag) (d : Addr) (x : Str) (i : Int) : Bool := match PySem.W.nsIn K d x with
  | some (some (.int j _)) => decide (j = i)
  | _ => false
theorem int_ok {d : Addr} {x : Str} {i : Int} (h : intB K d x i = true) : ∃ t, PySem.W.nsIn K d x = some (some (.int i t)) := by
  unfold intB at h
  split at h
  · rename_i y t e
    rw [of_decide_eq_true h] at e
    exact ⟨t, e⟩
  · cases h
def fcR (K : PySem.W.Frag) (C : Addr) (x : Str) (a : Addr) : Bool := match PySem.W.findCls K (.ref C) (.type "type") x with
  | some (.val v) => refB a v
  | _ => false
theorem fcR_ok {C a : Addr} {x : Str} (h : fcR K C x a = true) : PySem.W.findCls K (.ref C) (.type "type") x = some (.val (.ref a)) := by
  unfold fcR at h
  split at h
  · rename_i v e
    rw [refB_ok h] at e
    exact e
  · cases h
def fcI (K : PySem.W.Frag) (C : Addr) (x : Str) (i : Int) : Bool := match PySem.W.findCls K (.ref C) (.type "type") x with
  | some (.val (.int j _)) => decide (j = i)
  | _ => false
theorem fcI_ok {C : Addr} {x : Str} {i : Int} (h : fcI K C x i = true) : ∃ t, PySem.W.findCls K (.ref C) (.type "type") x = some (.val (.int i t)) := by
  unfold fcI at h
  split at h
  · rename_i v t e
    rw [of_decide_eq_true h] at e
    exact ⟨t, e⟩
  · cases h
def fcS (K : PySem.W.Frag) (C : Addr) (x : Str) (s : Addr) : Bool := match PySem.W.findCls K (.ref C) (.type "type") x with
  | some (.get g v u z) => decide (g = .builtin "staticmethod.__get__") && (refB s v && (nonV u && refB C z))
  | _ => false
theorem fcS_ok {C s : Addr} {x : Str} (h : fcS K C x s = true) : PySem.W.findCls K (.ref C) (.type "type") x = some (.get (.builtin "staticmethod.__get__") (.ref s) .none (.ref C)) := by
  unfold fcS at h
  split at h
  · rename_i g v u z e
    obtain ⟨h1, h⟩ := ba h
    obtain ⟨h2, h⟩ := ba h
    obtain ⟨h3, h4⟩ := ba h
    rw [of_decide_eq_true h1, refB_ok h2, nonV_ok h3, refB_ok h4] at e
    exact e
  · cases h
def seqB (K : PySem.W.Frag) (a : Addr) (vs : List V) : Bool := match K.lookup a with
  | some ⟨.type ty, _, .seq its _, _⟩ => decide (ty = "tuple") && He.relAll vs its.toList
  | _ => false
theorem seq_ok {a : Addr} {vs : List V} (h : seqB K a vs = true) : ∃ (od : Option Addr) (l : List Value) (n : Nat) (sl : Array (Option Value)), K.lookup a = some ⟨.type "tuple", od, .seq ⟨l⟩ n, sl⟩ ∧ Vals vs l := by
  unfold seqB at h
  split at h
  · rename_i ty od its n sl e
    obtain ⟨h1, h2⟩ := ba h
    rw [of_decide_eq_true h1] at e
    obtain ⟨l⟩ := its
    exact ⟨od, l, n, sl, e, He.relAll_ok h2⟩
  · cases h
def excB (K : PySem.W.Frag) (C : Addr) : Bool := match K.lookup C with
  | some ⟨.type ty, _, .cls cd, sl⟩ => decide (ty = "type") && (cd.hasDict && (!cd.hasDel && ((match cd.mro with
    | v :: bm => refB C v && PySem.HandSPX.refsVE bm
    | _ => false) && (match sl.toList with
    | [_, _, _, _, some (.builtin z), _] => decide (z = "ValueError.__new__")
    | _ => false))))
  | _ => false
theorem exc_ok {C : Addr} (h : excB K C = true) : ∃ (nm q : Str) (N : Addr) (bs bm : List Value) (sn : List Str) (sub : List Value) (ab : Bool) (col : Option Bool) (dd : Option Addr) (k0 k1 k2 k3 k5 : Option Value),
    K.lookup C = some (excClassObj nm q C N bs bm true sn sub ab col dd k0 k1 k2 k3 k5 "ValueError.__new__") ∧ PySem.HandSPX.refsVE bm = true := by
  unfold excB at h
  split at h
  · rename_i ty dd cd sl e
    obtain ⟨h1, h⟩ := ba h
    obtain ⟨h2, h⟩ := ba h
    obtain ⟨h3, h⟩ := ba h
    obtain ⟨h4, h5⟩ := ba h
    obtain ⟨l⟩ := sl
    obtain ⟨c1, c2, c3, c4, c5, c6, c7, c8, c9, c10, c11⟩ := cd
    dsimp only at h2 h3 h4 h5
    subst h2
    obtain rfl : c11 = false := by cases c11 <;> first | rfl | cases h3
    rw [of_decide_eq_true h1] at e
    clear h1 h3
    cases c3 with
    | nil => cases h4
    | cons v bm =>
      obtain ⟨g1, g2⟩ := ba h4
      rw [refB_ok g1] at e
      match l, h5, e with
      | [k0, k1, k2, k3, some (.builtin z), k5], h5, e =>
        rw [of_decide_eq_true (show decide (z = "ValueError.__new__") = true from h5)] at e
        exact ⟨_, _, _, _, bm, _, _, _, _, _, _, _, _, _, _, e, g2⟩
  · cases h
def filB (K : PySem.W.Frag) (c : Addr) (mf : Str) : Bool := match K.lookup c with
  | some ⟨_, _, .fields vs, _⟩ => (match (vs[2]? : Option Value) with
    | some (.str f _) => mf == f
    | _ => false)
  | _ => false
theorem fil_ok {c : Addr} {mf : Str} (h : filB K c mf = true) : ∃ (cc : Value) (cd : Option Addr) (vs : Array Value) (cs : Array (Option Value)) (f : Str) (t : Tok), K.lookup c = some ⟨cc, cd, .fields vs, cs⟩ ∧ vs[2]? = some (.str f t) ∧ (mf == f) = true := by
  unfold filB at h
  split at h
  · rename_i cc cd vs cs e
    split at h
    · rename_i f t e2
      exact ⟨cc, cd, vs, cs, f, t, e, e2, h⟩
    · cases h
  · cases h
def celB (K : PySem.W.Frag) (c C : Addr) : Bool := match K.lookup c with
  | some ⟨_, _, .cell (some v), _⟩ => refB C v
  | _ => false
theorem cel_ok {c C : Addr} (h : celB K c C = true) : ∃ (oc : Value) (od : Option Addr) (sl : Array (Option Value)), K.lookup c = some ⟨oc, od, .cell (some (.ref C)), sl⟩ := by
  unfold celB at h
  split at h
  · rename_i oc od v sl e
    rw [refB_ok h] at e
    exact ⟨oc, od, sl, e⟩
  · cases h
end
/-! ### the Hook -/
abbrev Al : Type := Bool × List FnQ
def obsG (as : List Addr) (fa : List (PySem.W.Frag → Bool)) (fn : List Dq) (g : Addr → Option Obj) : Al := (chk fa (He.frG g as), fn.map (fnQ (He.frG g as)))
def hook (as : List Addr) (fa : List (PySem.W.Frag → Bool)) (fn : List Dq) : PySem.W.Hook where
  α := Al
  obs := fun s => obsG as fa fn s.heap.get?
  val := fun _ => (true, fn.map Dq.val)
  says := fun _ h => ∃ K : PySem.W.Frag, K.In h ∧ chk fa K = true ∧ fn.map (fnQ K) = fn.map Dq.val
  of := fun _ _ e => ⟨_, He.frG_in, congrArg (fun z : Al => z.1) e, congrArg (fun z : Al => z.2) e⟩
  keeps := fun _ _ _ ⟨K, hK, c⟩ k => ⟨K, PySem.W.Frag.In.keeps hK k, c⟩
def obT (as : List Addr) (fa : List (PySem.W.Frag → Bool)) (fn : List Dq) (s : PySem.W.SharedT) : Al := obsG as fa fn (HandSHeadRun.getT s)
theorem obT_eq (as : List Addr) (fa : List (PySem.W.Frag → Bool)) (fn : List Dq) (s : PySem.W.SharedT) : obT as fa fn s = (hook as fa fn).obs s.abs := by
  have e : HandSHeadRun.getT s = s.abs.heap.get? := funext (HandSHeadRun.getT_eq s)
  unfold obT
  rw [e] <;> rfl
/-- parts of the run, put together -/
theorem join {α : Type} {x : Option PySem.W.SharedT} {f : PySem.W.SharedT → Bool} {g : PySem.W.SharedT → α} {b : α} {as : List Addr} {fa : List (PySem.W.Frag → Bool)} {fn : List Dq}
    (h1 : x.map f = some true) (h2 : x.map g = some b) (h3 : ∀ s, x = some s → chk fa (He.frG (HandSHeadRun.getT s) as) = true) (h4 : x.map (fun s => fn.map (fnQ (He.frG (HandSHeadRun.getT s) as))) = some (fn.map Dq.val)) :
    x.map (fun s => (f s, g s, obT as fa fn s)) = some (true, b, (true, fn.map Dq.val)) := by
  obtain ⟨s, rfl, e1⟩ := Option.map_eq_some_iff.mp h1
  have e2 : g s = b := Option.some.inj h2
  have e3 := h3 s rfl
  have e4 : fn.map (fnQ (He.frG (HandSHeadRun.getT s) as)) = fn.map Dq.val := Option.some.inj h4
  show some (f s, g s, (chk fa (He.frG (HandSHeadRun.getT s) as), fn.map (fnQ (He.frG (HandSHeadRun.getT s) as)))) = _
  rw [e1, e2, e3, e4]
theorem part {x : Option PySem.W.SharedT} {as : List Addr} {fa : List (PySem.W.Frag → Bool)} (h : x.map (fun s => chk fa (He.frG (HandSHeadRun.getT s) as)) = some true) : ∀ s, x = some s → chk fa (He.frG (HandSHeadRun.getT s) as) = true := fun s e => by
  rw [e] at h
  exact Option.some.inj h
end Hx

local macro_rules | `(tactic| walk_at "go1") => `(tactic| first
  | with_reducible refine Vc.go_seq ?_
  | with_reducible refine Vc.go_asg ?_
  | with_reducible refine Vc.go_name ?_
  | ((with_reducible refine' Vc.go_var ?hv ?_); (case hv => rfl))
  | with_reducible refine Vc.go_c ?_
  | with_reducible refine Vc.go_op ?_
  | with_reducible refine Vc.go_un ?_
  | with_reducible refine Vc.go_cb ?_
  | with_reducible refine Vc.go_cons ?_
  | with_reducible refine Vc.go_nil ?_
  | with_reducible refine Vc.go_dget ?_
  | with_reducible refine Vc.go_drop ?_
  | with_reducible refine Vc.go_chain ?_
  | with_reducible refine Vc.go_cvalR ?_
  | with_reducible refine Vc.go_fld ?_
  | with_reducible refine Vc.go_sfld ?_
  | with_reducible refine Vc.go_make ?_
  | with_reducible refine Vc.go_meth ?_
  | with_reducible refine Vc.go_dc ?_
  | with_reducible refine Vc.go_lenSet ?_
  | ((with_reducible refine' Vc.go_aug ?hv ?_); (case hv => rfl))
  | with_reducible refine Vc.go_ipI ?_
  | ((with_reducible refine' Vc.go_addS ?l ?_); (case l => walk_at "ln"))
  | with_reducible refine Vc.go_M1 ?_
  | with_reducible refine Vc.go_M0 ?_
  | with_reducible refine Vc.go_isS ?_
  | with_reducible refine Vc.go_sub ?_
  | ((with_reducible refine' Vc.go_tupD ?e ?_); (case e => walk_at "hs"))
  | ((with_reducible refine' Vc.go_tupDT ?e ?_); (case e => walk_at "hs"))
  | ((with_reducible refine' Vc.go_lstDO ?e ?_); (case e => assumption))
  | ((with_reducible refine' Vc.go_lstD ?e ?_); (case e => walk_at "hs"))
  | ((with_reducible refine' Vc.go_lstDT ?e ?_); (case e => walk_at "hs"))
  | with_reducible refine Vc.go_strE ?_
  | with_reducible refine Vc.go_sign ?_
  | with_reducible refine Vc.go_for ?_
  | with_reducible refine Vc.go_iList ?_
  | with_reducible refine Vc.go_iTup ?_
  | with_reducible refine Vc.go_iRng1 ?_
  | with_reducible refine Vc.go_iRng2 ?_
  | with_reducible refine Vc.go_iStr ?_
  | with_reducible refine Vc.go_lc ?_
  | with_reducible refine Vc.go_disp ?_
  | with_reducible refine Vc.go_pairs ?_
  | with_reducible refine Vc.go_pairs0 ?_
  | with_reducible refine' L2.iteT ?_
  | with_reducible refine' L2.iteF ?_
  | with_reducible refine' Vc.go_neL ?_
  | with_reducible refine' Vc.go_nNone ?_
  | with_reducible refine' Vc.go_nSome ?_
  | with_reducible refine' Vc.go_None ?_
  | with_reducible refine' Vc.go_Some ?_
  | with_reducible refine' Vc.go_eqL ?_
  | with_reducible refine' Vc.go_nT ?_
  | with_reducible refine' Vc.go_nF ?_
  | with_reducible refine Vc.go_ret ?_
  | with_reducible refine Vc.go_retN ?_
  | with_reducible refine Vc.go_next ?_
  | with_reducible refine Vc.go_ifS ?_
  | with_reducible refine Vc.go_test ?_
  | with_reducible refine Vc.go_B ?_
  | with_reducible refine Vc.go_bl ?_
  | with_reducible refine Vc.go_blP ?_
  | with_reducible refine Vc.go_notT ?_
  | with_reducible refine Vc.go_andT ?_
  | with_reducible refine Vc.go_orT ?_
  | with_reducible refine Vc.go_yes ?_
  | with_reducible refine Vc.go_andV ?_
  | with_reducible refine Vc.go_orV ?_
  | with_reducible refine Vc.go_notV ?_
  | with_reducible refine Vc.go_if ?_
  | with_reducible refine Vc.go_I0 ?_
  | with_reducible refine Vc.go_U ?_
  | ((with_reducible refine' Vc.go_I ?hc ?_); (case hc => walk_at "side"))
  | with_reducible refine Vc.go_eqI ?_
  | with_reducible refine Vc.go_neI ?_
  | with_reducible refine Vc.go_eqS ?_
  | with_reducible refine Vc.go_neS ?_
  | with_reducible refine Vc.go_eqB ?_
  | with_reducible refine Vc.go_neB ?_
  | ((with_reducible refine' Vc.go_isi ?ht ?hk ?_); (case ht => walk_at "ty"); (case hk => walk_at "kit"))
  | ((with_reducible refine' Vc.go_isiT2 ?ht ?e ?hk ?hk2 ?hc ?_); (case ht => walk_at "ty"); (case e => walk_at "hs"); (case hk => walk_at "kit"); (case hk2 => walk_at "kit"); (case hc => first | exact Vc.or_t | exact Vc.or_f))
  | with_reducible refine Vc.go_isN ?_
  | with_reducible refine' Vc.go_iteNT ?_
  | ((with_reducible refine' Vc.go_iteN ?h ?_); (case h => (intro z; cases z)))
  | ((with_reducible refine' Vc.go_cval ?hr ?hv ?_); (case hr => assumption); (case hv => assumption))
  | ((with_reducible refine' Vc.go_fldV ?e ?hl ?c ?n ?_); (case e => walk_at "hs"); (case hl => walk_at "fl"); (case c => assumption); (case n => assumption))
  | ((with_reducible refine' Vc.go_sfldV ?e ?l ?c ?n ?_); (case e => walk_at "hs"); (case l => walk_at "fn"); (case c => assumption); (case n => assumption))
  | ((with_reducible refine' Vc.go_methV ?e ?l ?_); (case e => walk_at "hs"); (case l => walk_at "fl"))
  | ((with_reducible refine' Vc.go_lenD ?e ?_); (case e => walk_at "hs"))
  | ((with_reducible refine' Vc.go_listD ?e ?_); (case e => walk_at "hs"))
  | ((with_reducible refine' Vc.go_lenS ?l ?_); (case l => walk_at "ln"))
  | ((with_reducible refine' Vc.go_dgetIF ?he ?hv ?_); (case he => walk_at "fz"); (case hv => walk_at "dv"))
  | ((with_reducible refine' Vc.go_inL ?e ?hx ?hf ?_); (case e => walk_at "hs"); (case hx => rfl); (case hf => walk_at "flat"))
  | ((with_reducible refine' Vc.go_inT ?e ?hx ?hf ?_); (case e => walk_at "hs"); (case hx => rfl); (case hf => walk_at "flat"))
  | ((with_reducible refine' Vc.go_niL ?e ?hx ?hf ?_); (case e => walk_at "hs"); (case hx => rfl); (case hf => walk_at "flat"))
  | ((with_reducible refine' Vc.go_niT ?e ?hx ?hf ?_); (case e => walk_at "hs"); (case hx => rfl); (case hf => walk_at "flat"))
  | with_reducible refine Vc.go_call ?_
  | with_reducible refine Vc.go_raiseT ?_
  | with_reducible refine Vc.go_mkO ?_
  | with_reducible refine Vc.go_err1 ?_
  | with_reducible refine Vc.go_err2 ?_
  | with_reducible refine Vc.go_callS ?_
  | with_reducible refine Vc.go_callI ?_
  | with_reducible refine Vc.go_methS ?_
  | with_reducible refine Vc.go_makeS ?_
  | with_reducible refine Vc.go_callIK ?_
  | with_reducible refine Vc.go_refE ?_
  | ((with_reducible refine' Vc.go_insD ?e ?_); (case e => walk_at "hs"))
  | with_reducible refine Vc.go_xfX ?_
  | ((with_reducible refine' Vc.go_xfXV ?T ?n ?e ?l ?_); (case T => assumption); (case n => assumption); (case e => walk_at "hs"); (case l => walk_at "fl"))
  | ((with_reducible refine' Vc.go_isXC ?C ?d ?k ?_); (case C => assumption); (case d => ((with_reducible refine' Vc.xdAt ?e); (case e => walk_at "hs"))); (case k => assumption))
  | ((with_reducible refine' Vc.go_isXT ?C ?d ?k ?_); (case C => assumption); (case d => ((with_reducible refine' Vc.xdAt ?e); (case e => walk_at "hs"))); (case k => assumption))
  | with_reducible refine Vc.go_ixO ?_
  | ((with_reducible refine' Vc.go_cntS ?e ?_); (case e => walk_at "hs"))
  | ((with_reducible refine' Vc.go_insF ?e ?_); (case e => walk_at "hs"))
  | ((with_reducible refine' Vc.go_lenO ?e ?_); (case e => walk_at "hs"))
  | ((with_reducible refine' Vc.go_strO ?e ?_); (case e => walk_at "hs"))
  | with_reducible refine Vc.go_smeth ?_
  | with_reducible refine Vc.go_refC ?_
  | ((with_reducible refine' Vc.go_tyD ?e ?_); (case e => walk_at "hs"))
  | ((with_reducible refine' Vc.go_dclear ?e ?_); (case e => walk_at "hs"))
  | ((with_reducible refine' Vc.go_lclear ?e ?_); (case e => walk_at "hs"))
  | ((with_reducible refine' Vc.go_dpopI ?e ?v ?_); (case e => walk_at "hs"); (case v => walk_at "dv"))
  | with_reducible refine Vc.go_revL ?_
  | ((with_reducible refine' Vc.go_revLV ?e ?_); (case e => walk_at "hs"))
  | with_reducible refine Vc.go_js0 ?_
  | with_reducible refine Vc.go_js ?_
  | ((with_reducible refine' Vc.go_jsV ?l ?_); (case l => walk_at "ln"))
  | ((with_reducible refine' Vc.go_szS ?l ?_); (case l => walk_at "ln"))
  | with_reducible refine Vc.go_fmt ?_
  | ((with_reducible refine' Vc.go_fmtS ?l ?_); (case l => walk_at "ln"))
  | ((with_reducible refine' Vc.go_fmtI ?l ?_); (case l => assumption))
  | ((with_reducible refine' Vc.go_strI ?l ?_); (case l => assumption))
  | ((with_reducible refine' Vc.go_inO ?e ?_); (case e => walk_at "hs"))
  | with_reducible refine Vc.go_iRngL ?_
  | with_reducible refine Vc.go_iRngLV ?_
  | with_reducible refine Vc.go_lstRg ?_
  | with_reducible refine Vc.go_lstRgV ?_
  | with_reducible refine Vc.go_tryX ?_
  | with_reducible refine Vc.go_setP ?_
  | ((with_reducible refine' Vc.go_setPV ?e ?_); (case e => walk_at "hs"))
  | with_reducible refine Vc.go_prop ?_
  | with_reducible refine Vc.go_makeK ?_
  | with_reducible refine Vc.go_make0 ?_
  | with_reducible refine Vc.go_xfT ?_
  | ((with_reducible refine' Vc.go_xfTV ?E ?T ?n ?l ?_); (case E => walk_at "bd"); (case T => assumption); (case n => assumption); (case l => walk_at "fl"))
  | ((with_reducible refine' Vc.go_isTC ?E ?C ?k ?_); (case E => walk_at "bd"); (case C => assumption); (case k => assumption))
  | ((with_reducible refine' Vc.go_isTT ?E ?C ?k ?_); (case E => walk_at "bd"); (case C => assumption); (case k => assumption))
  | with_reducible refine Vc.go_tryAs ?_
  | with_reducible refine Vc.go_tryOnly ?_
  | with_reducible refine Vc.go_tup ?_
  | with_reducible refine Vc.go_lst ?_
  | with_reducible refine Vc.go_dnew ?_
  | with_reducible refine Vc.go_din ?_
  | with_reducible refine Vc.go_dnotin ?_
  | with_reducible refine Vc.go_dput ?_
  | with_reducible refine Vc.go_sl ?_
  | with_reducible refine Vc.go_nopart ?_
  | with_reducible refine Vc.go_part ?_
  | with_reducible refine Vc.go_partI ?_
  | with_reducible refine Vc.go_bm ?_
  | with_reducible refine Vc.go_bm0 ?_
  | with_reducible refine Vc.go_abs ?_
  | with_reducible refine Vc.go_int1 ?_
  | with_reducible refine Vc.go_int1b ?_
  | ((with_reducible refine' Vc.go_dgetS ?he ?hv ?_); (case he => walk_at "hs"); (case hv => walk_at "dv"))
  | ((with_reducible refine' Vc.go_dgetI ?he ?hv ?_); (case he => walk_at "hs"); (case hv => walk_at "dv"))
  | ((with_reducible refine' Vc.go_dputS ?he ?hl ?_); (case he => walk_at "hs"); (case hl => walk_at "ln"))
  | ((with_reducible refine' Vc.go_dputI ?he ?hl ?_); (case he => walk_at "hs"); (case hl => walk_at "ln"))
  | ((with_reducible refine' Vc.go_dinI ?he ?_); (case he => walk_at "hs"))
  | with_reducible refine Vc.go_methK ?_
  | with_reducible refine Vc.go_callK ?_
  | ((with_reducible refine' Vc.go_lenL ?he ?_); (case he => walk_at "hs"))
  | ((with_reducible refine' Vc.go_lenT ?he ?_); (case he => walk_at "hs"))
  | ((with_reducible refine' Vc.go_slS ?hz ?_); (case hz => walk_at "ln"))
  | ((with_reducible refine' Vc.go_slL ?he ?_); (case he => walk_at "hs"))
  | ((with_reducible refine' Vc.go_tyL ?he ?_); (case he => walk_at "hs"))
  | ((with_reducible refine' Vc.go_len ?hl ?_); (case hl => walk_at "ln"))
  | ((with_reducible refine' Vc.go_append ?he ?hl ?_); (case he => walk_at "hs"); (case hl => walk_at "ln"))
  | ((with_reducible refine' Vc.go_ixL ?he ?hv ?_); (case he => walk_at "hs"); (case hv => walk_at "ix"))
  | ((with_reducible refine' Vc.go_ixT ?he ?hv ?_); (case he => walk_at "hs"); (case hv => walk_at "ix"))
  | ((with_reducible refine' Vc.go_ixS ?he ?hv ?_); (case he => walk_at "ln"); (case hv => walk_at "ix")))
local macro_rules | `(tactic| walk_at "kit") => `(tactic| first
  | with_reducible exact Vc.kit_int_int
  | with_reducible exact Vc.kit_int_bool
  | with_reducible exact Vc.kit_int_str
  | with_reducible exact Vc.kit_int_tuple
  | with_reducible exact Vc.kit_int_list
  | with_reducible exact Vc.kit_int_dict
  | with_reducible exact Vc.kit_bool_int
  | with_reducible exact Vc.kit_bool_bool
  | with_reducible exact Vc.kit_bool_str
  | with_reducible exact Vc.kit_bool_tuple
  | with_reducible exact Vc.kit_bool_list
  | with_reducible exact Vc.kit_bool_dict
  | with_reducible exact Vc.kit_str_int
  | with_reducible exact Vc.kit_str_bool
  | with_reducible exact Vc.kit_str_str
  | with_reducible exact Vc.kit_str_tuple
  | with_reducible exact Vc.kit_str_list
  | with_reducible exact Vc.kit_str_dict
  | with_reducible exact Vc.kit_NoneType_int
  | with_reducible exact Vc.kit_NoneType_bool
  | with_reducible exact Vc.kit_NoneType_str
  | with_reducible exact Vc.kit_NoneType_tuple
  | with_reducible exact Vc.kit_NoneType_list
  | with_reducible exact Vc.kit_NoneType_dict
  | with_reducible exact Vc.kit_list_int
  | with_reducible exact Vc.kit_list_bool
  | with_reducible exact Vc.kit_list_str
  | with_reducible exact Vc.kit_list_tuple
  | with_reducible exact Vc.kit_list_list
  | with_reducible exact Vc.kit_list_dict
  | with_reducible exact Vc.kit_tuple_int
  | with_reducible exact Vc.kit_tuple_bool
  | with_reducible exact Vc.kit_tuple_str
  | with_reducible exact Vc.kit_tuple_tuple
  | with_reducible exact Vc.kit_tuple_list
  | with_reducible exact Vc.kit_tuple_dict
  | with_reducible exact Vc.kit_dict_int
  | with_reducible exact Vc.kit_dict_bool
  | with_reducible exact Vc.kit_dict_str
  | with_reducible exact Vc.kit_dict_tuple
  | with_reducible exact Vc.kit_dict_list
  | with_reducible exact Vc.kit_dict_dict)
local macro_rules | `(tactic| walk_at "ty") => `(tactic| first
  | with_reducible exact .base (.int _)
  | with_reducible exact .base (.bl _)
  | with_reducible exact .base (.str _)
  | with_reducible exact .base .non
  | ((with_reducible refine' Vc.tyL ?h); (case h => walk_at "hs"))
  | ((with_reducible refine' Vc.tyT ?h); (case h => walk_at "hs")))
local macro_rules | `(tactic| walk_at "fl") => `(tactic| first | assumption | rfl)
local macro_rules | `(tactic| walk_at "fn") => `(tactic| first | assumption | exact (show 0 < 1000 by decide) | exact (show 1 < 1000 by decide) | exact (show 2 < 1000 by decide) | exact (show 3 < 1000 by decide) | exact (show 4 < 1000 by decide) | exact (show 5 < 1000 by decide) | exact (show 6 < 1000 by decide))
local macro_rules | `(tactic| walk_at "goo") => `(tactic| repeat (first
  | walk_at "go1"
  | ((with_reducible refine' Vc.go_iteT' ?h ?_); (case h => omega))
  | ((with_reducible refine' Vc.go_iteF' ?h ?_); (case h => omega))
  | ((with_reducible refine' Vc.go_itenT' ?h ?_); (case h => omega))
  | ((with_reducible refine' Vc.go_itenF' ?h ?_); (case h => omega))
  | ((with_reducible refine' Vc.go_iteT' ?h ?_); (case h => decide))
  | ((with_reducible refine' Vc.go_iteF' ?h ?_); (case h => decide))))
local macro_rules | `(tactic| walk_at "flat") => `(tactic| first | assumption | rfl)
local macro_rules | `(tactic| walk_at "ix") => `(tactic| first | assumption | rfl)
local macro_rules | `(tactic| walk_at "dv") => `(tactic| first | assumption | rfl)
local macro_rules | `(tactic| walk_at "ln") => `(tactic| first | assumption | (simp only [List.length_cons, List.length_nil, List.length_append, List.length_map]; omega) | decide)
local macro_rules | `(tactic| walk_at "go") => `(tactic| repeat walk_at "go1")
local macro_rules | `(tactic| walk_at "side") => `(tactic| first
  | omega
  | (dsimp only; omega)
  | exact ⟨by omega, by omega, by omega⟩
  | exact Vc.mulw (by omega) (by omega)
  | exact Vc.divw (by omega) (by omega))
local macro_rules | `(tactic| walk_at "hs") => `(tactic| first
  | assumption
  | ((with_reducible refine' Vc.Ed.at0 ?e ?h); (case e => assumption); (case h => walk_at "hs"))
  | ((with_reducible refine' Vc.Ed.at1 ?e ?n ?h); (case e => assumption); (case n => walk_at "ne"); (case h => walk_at "hs"))
  | ((with_reducible refine' Vc.Ed.at2 ?e ?n ?m ?h); (case e => assumption); (case n => walk_at "ne"); (case m => walk_at "ne"); (case h => walk_at "hs"))
  | ((with_reducible refine' Vc.frz' ?e ?h); (case e => assumption); (case h => walk_at "hs"))
  | ((with_reducible refine' L2.SqL.of ?h); (case h => walk_at "hs"))
  | ((with_reducible refine' Vc.all_sqt ?h _); (case h => assumption))
  | ((with_reducible refine' Vc.sqt_of ?h); (case h => walk_at "hs"))
  | ((with_reducible refine' Vc.Ed.sqt ?e ?h); (case e => assumption); (case h => walk_at "hs"))
  | ((with_reducible refine' Vc.Ed.sql0 ?e ?h); (case e => assumption); (case h => walk_at "hs"))
  | ((with_reducible refine' Vc.Ed.sql1 ?e ?n ?h); (case e => assumption); (case n => walk_at "ne"); (case h => walk_at "hs")))
local macro_rules | `(tactic| walk_at "fz") => `(tactic| first
  | assumption
  | ((with_reducible refine' Vc.frz' ?e ?h); (case e => assumption); (case h => walk_at "fz")))
local macro_rules | `(tactic| walk_at "ne") => `(tactic| first
  | assumption
  | ((with_reducible refine' Ne.symm ?h); (case h => assumption))
  | ((with_reducible refine' Vc.ne1 ?e ?h); (case e => assumption); (case h => walk_at "hs"))
  | ((with_reducible refine' Vc.ne2 ?e ?h); (case e => assumption); (case h => walk_at "hs"))
  | ((with_reducible refine' Vc.nek ?e ?h ?d); (case e => assumption); (case h => assumption); (case d => intro z; cases z)))
local macro_rules | `(tactic| walk_at "free") => `(tactic| first
  | assumption
  | ((with_reducible refine' Vc.Ed.back ?e ?h); (case e => assumption); (case h => walk_at "free")))
local macro_rules | `(tactic| walk_at "in") => `(tactic| first
  | ((with_reducible refine' Or.inl ?h); (case h => (simp only [List.mem_cons, List.not_mem_nil, or_false, true_or, or_true]; done)))
  | ((with_reducible refine' Or.inr ?h); (case h => walk_at "free")))
local macro_rules | `(tactic| walk_at "ed") => `(tactic| first
  | assumption
  | with_reducible exact Vc.Ed.refl
  | ((with_reducible refine' Vc.Ed.ex' ?b ?a); (case b => assumption); (case a => walk_at "ed"))
  | ((with_reducible refine' Vc.Ed.one' ?b ?a ?h); (case b => assumption); (case a => walk_at "ed"); (case h => walk_at "in"))
  | ((with_reducible refine' Vc.Ed.two' ?b ?a ?h ?g); (case b => assumption); (case a => walk_at "ed"); (case h => walk_at "in"); (case g => walk_at "in")))
local macro_rules | `(tactic| walk_at "bd") => `(tactic| first
  | assumption
  | ((with_reducible refine' Vc.ErrAt.ed0 ?e ?h); (case e => assumption); (case h => walk_at "bd")))

namespace My
open PySem PySem.Spec PyProof.Rows L2
abbrev PG : Program := PySem.Challenge.pw_codestitch_k23_prices_and_single_steps
def topS (i : Nat) : Stmt := PySem.Challenge.pw_codestitch_k23_prices_and_single_steps.main.body.getD i (.Pass ⟨0, 0, 0, 0⟩)
abbrev s_is_byte : Stmt := topS 10
theorem sc_is_byte : FnScope ["value"] ["value"] (defScope s_is_byte) := ⟨rfl, rfl, rfl, by decide +kernel, rfl, by decide +kernel, by decide +kernel⟩
abbrev s_Priceu_initu : Stmt := inClass (topS 13) 0
theorem sc_Priceu_initu : FnScope ["self", "words", "writes"] ["self", "words", "writes"] (defScope s_Priceu_initu) := ⟨rfl, rfl, rfl, by decide +kernel, rfl, by decide +kernel, by decide +kernel⟩
abbrev s_Price_words : Stmt := inClass (topS 13) 1
theorem sc_Price_words : FnScope ["self"] ["self"] (defScope s_Price_words) := ⟨rfl, rfl, rfl, by decide +kernel, rfl, by decide +kernel, by decide +kernel⟩
abbrev s_Price_writes : Stmt := inClass (topS 13) 2
theorem sc_Price_writes : FnScope ["self"] ["self"] (defScope s_Price_writes) := ⟨rfl, rfl, rfl, by decide +kernel, rfl, by decide +kernel, by decide +kernel⟩
abbrev s_Price_under : Stmt := inClass (topS 13) 3
theorem sc_Price_under : FnScope ["self", "other"] ["self", "other"] (defScope s_Price_under) := ⟨rfl, rfl, rfl, by decide +kernel, rfl, by decide +kernel, by decide +kernel⟩
abbrev s_Priceu_addu : Stmt := inClass (topS 13) 4
theorem sc_Priceu_addu : FnScope ["self", "other"] ["self", "other"] (defScope s_Priceu_addu) := ⟨rfl, rfl, rfl, by decide +kernel, rfl, by decide +kernel, by decide +kernel⟩
abbrev s_Priceu_equ : Stmt := inClass (topS 13) 5
theorem sc_Priceu_equ : FnScope ["self", "other"] ["self", "other"] (defScope s_Priceu_equ) := ⟨rfl, rfl, rfl, by decide +kernel, rfl, by decide +kernel, by decide +kernel⟩
abbrev s_Priceu_stru : Stmt := inClass (topS 13) 6
theorem sc_Priceu_stru : FnScope ["self"] ["self"] (defScope s_Priceu_stru) := ⟨rfl, rfl, rfl, by decide +kernel, rfl, by decide +kernel, by decide +kernel⟩
abbrev s_Stepu_initu : Stmt := inClass (topS 15) 2
theorem sc_Stepu_initu : FnScope ["self", "shown"] ["self", "shown"] (defScope s_Stepu_initu) := ⟨rfl, rfl, rfl, by decide +kernel, rfl, by decide +kernel, by decide +kernel⟩
abbrev s_Step_price : Stmt := inClass (topS 15) 3
theorem sc_Step_price : FnScope ["self"] ["self"] (defScope s_Step_price) := ⟨rfl, rfl, rfl, by decide +kernel, rfl, by decide +kernel, by decide +kernel⟩
abbrev s_Stepu_equ : Stmt := inClass (topS 15) 5
theorem sc_Stepu_equ : FnScope ["self", "other"] ["self", "other"] (defScope s_Stepu_equ) := ⟨rfl, rfl, rfl, by decide +kernel, rfl, by decide +kernel, by decide +kernel⟩
abbrev s_Stepu_stru : Stmt := inClass (topS 15) 6
theorem sc_Stepu_stru : FnScope ["self", "part"] ["self"] (defScope s_Stepu_stru) := ⟨rfl, rfl, rfl, by decide +kernel, rfl, by decide +kernel, by decide +kernel⟩
abbrev s_Writeu_initu : Stmt := inClass (topS 16) 1
theorem sc_Writeu_initu : Vc.SupScope ["self", "address", "values", "at", "value"] ["self", "address", "values"] (defScope s_Writeu_initu) := ⟨rfl, rfl, rfl, by decide +kernel, rfl, by decide +kernel, by decide +kernel, by decide +kernel, rfl, rfl⟩
abbrev s_Syncu_initu : Stmt := inClass (topS 17) 0
theorem sc_Syncu_initu : Vc.SupScope ["self"] ["self"] (defScope s_Syncu_initu) := ⟨rfl, rfl, rfl, by decide +kernel, rfl, by decide +kernel, by decide +kernel, by decide +kernel, rfl, rfl⟩
abbrev s_Passu_initu : Stmt := inClass (topS 18) 0
theorem sc_Passu_initu : Vc.SupScope ["self", "stretch"] ["self", "stretch"] (defScope s_Passu_initu) := ⟨rfl, rfl, rfl, by decide +kernel, rfl, by decide +kernel, by decide +kernel, by decide +kernel, rfl, rfl⟩
abbrev s__law_pen : Stmt := topS 20
theorem sc__law_pen : FnScope ["_law_script"] ["_law_script"] (defScope s__law_pen) := ⟨rfl, rfl, rfl, by decide +kernel, rfl, by decide +kernel, by decide +kernel⟩
abbrev s__law_draw : Stmt := topS 21
theorem sc__law_draw : FnScope ["_law_pen_here", "_law_bound", "_law_digit", "_law_at", "_law_cell", "_law_great", "_law_mixed"] ["_law_pen_here", "_law_bound"] (defScope s__law_draw) := ⟨rfl, rfl, rfl, by decide +kernel, rfl, by decide +kernel, by decide +kernel⟩
abbrev s__law_number : Stmt := topS 22
theorem sc__law_number : FnScope ["_law_pen_here"] ["_law_pen_here"] (defScope s__law_number) := ⟨rfl, rfl, rfl, by decide +kernel, rfl, by decide +kernel, by decide +kernel⟩
abbrev s__law_prices_right : Stmt := topS 23
theorem sc__law_prices_right : FnScope ["_law_pen_here", "_law_one", "_law_two", "_law_left", "_law_right", "_law_told", "_law_due", "_law_total", "_law_pair"] ["_law_pen_here"] (defScope s__law_prices_right) := ⟨rfl, rfl, rfl, by decide +kernel, rfl, by decide +kernel, by decide +kernel⟩
abbrev s__law_write : Stmt := topS 24
theorem sc__law_write : FnScope ["_law_at", "_law_given"] ["_law_at", "_law_given"] (defScope s__law_write) := ⟨rfl, rfl, rfl, by decide +kernel, rfl, by decide +kernel, by decide +kernel⟩
abbrev s__law_drawn : Stmt := topS 25
theorem sc__law_drawn : FnScope ["_law_pen_here", "_law_way", "_law_k"] ["_law_pen_here"] (defScope s__law_drawn) := ⟨rfl, rfl, rfl, by decide +kernel, rfl, by decide +kernel, by decide +kernel⟩
abbrev s__law_near : Stmt := topS 26
theorem sc__law_near : FnScope ["_law_pen_here", "_law_one", "_law_at", "_law_given"] ["_law_pen_here", "_law_one"] (defScope s__law_near) := ⟨rfl, rfl, rfl, by decide +kernel, rfl, by decide +kernel, by decide +kernel⟩
abbrev s__law_step : Stmt := topS 27
theorem sc__law_step : FnScope ["_law_one"] ["_law_one"] (defScope s__law_step) := ⟨rfl, rfl, rfl, by decide +kernel, rfl, by decide +kernel, by decide +kernel⟩
abbrev s__law_steps_right : Stmt := topS 28
theorem sc__law_steps_right : FnScope ["_law_pen_here", "_law_one", "_law_two", "_law_left", "_law_right", "_law_is_write", "_law_shown", "_law_told", "_law_number_here", "_law_value"] ["_law_pen_here"] (defScope s__law_steps_right) := ⟨rfl, rfl, rfl, by decide +kernel, rfl, by decide +kernel, by decide +kernel⟩
abbrev s__law_refused : Stmt := topS 29
theorem sc__law_refused : FnScope ["_law_at", "_law_given", "_law_caught", "error"] ["_law_at", "_law_given"] (defScope s__law_refused) := ⟨rfl, rfl, rfl, by decide +kernel, rfl, by decide +kernel, by decide +kernel⟩
abbrev s__law_refusals_right : Stmt := topS 30
theorem sc__law_refusals_right : FnScope ["_law_pen_here", "_law_far", "_law_at", "_law_given", "_law_wrong", "_law_k", "_law_bad", "_law_made"] ["_law_pen_here"] (defScope s__law_refusals_right) := ⟨rfl, rfl, rfl, by decide +kernel, rfl, by decide +kernel, by decide +kernel⟩
abbrev s_law : Stmt := topS 31
theorem sc_law : FnScope ["_law_script", "_law_pen_here", "_law_turn", "_law_at"] ["_law_script"] (defScope s_law) := ⟨rfl, rfl, rfl, by decide +kernel, rfl, by decide +kernel, by decide +kernel⟩
abbrev s_BadByteu_initu : Stmt := inClass (topS 6) 0
theorem sc_BadByteu_initu : Vc.SupScope ["self", "at"] ["self", "at"] (defScope s_BadByteu_initu) := ⟨rfl, rfl, rfl, by decide +kernel, rfl, by decide +kernel, by decide +kernel, by decide +kernel, rfl, rfl⟩
abbrev s_BadAddressu_initu : Stmt := inClass (topS 7) 0
theorem sc_BadAddressu_initu : Vc.SupScope ["self", "at"] ["self", "at"] (defScope s_BadAddressu_initu) := ⟨rfl, rfl, rfl, by decide +kernel, rfl, by decide +kernel, by decide +kernel, by decide +kernel, rfl, rfl⟩
structure Ad where
  C_Price : Addr
  C_Step : Addr
  C_Write : Addr
  C_Sync : Addr
  C_Pass : Addr
  f_is_byte : Addr
  d_is_byte : FuncData
  f_Priceu_initu : Addr
  d_Priceu_initu : FuncData
  f_Price_words : Addr
  d_Price_words : FuncData
  pr_Price_words : Addr
  f_Price_writes : Addr
  d_Price_writes : FuncData
  pr_Price_writes : Addr
  f_Price_under : Addr
  d_Price_under : FuncData
  f_Priceu_addu : Addr
  d_Priceu_addu : FuncData
  f_Priceu_equ : Addr
  d_Priceu_equ : FuncData
  f_Priceu_stru : Addr
  d_Priceu_stru : FuncData
  f_Stepu_initu : Addr
  d_Stepu_initu : FuncData
  f_Step_price : Addr
  d_Step_price : FuncData
  pr_Step_price : Addr
  f_Stepu_equ : Addr
  d_Stepu_equ : FuncData
  f_Stepu_stru : Addr
  d_Stepu_stru : FuncData
  f_Writeu_initu : Addr
  d_Writeu_initu : FuncData
  f_Syncu_initu : Addr
  d_Syncu_initu : FuncData
  f_Passu_initu : Addr
  d_Passu_initu : FuncData
  f__law_pen : Addr
  d__law_pen : FuncData
  f__law_draw : Addr
  d__law_draw : FuncData
  f__law_number : Addr
  d__law_number : FuncData
  f__law_prices_right : Addr
  d__law_prices_right : FuncData
  f__law_write : Addr
  d__law_write : FuncData
  f__law_drawn : Addr
  d__law_drawn : FuncData
  f__law_near : Addr
  d__law_near : FuncData
  f__law_step : Addr
  d__law_step : FuncData
  f__law_steps_right : Addr
  d__law_steps_right : FuncData
  f__law_refused : Addr
  d__law_refused : FuncData
  f__law_refusals_right : Addr
  d__law_refusals_right : FuncData
  f_law : Addr
  d_law : FuncData
  C_CodeError : Addr
  C_BadInput : Addr
  C_NotRight : Addr
  C_NoWay : Addr
  C_BadStep : Addr
  C_Word : Addr
  C_BadByte : Addr
  f_BadByteu_initu : Addr
  d_BadByteu_initu : FuncData
  C_BadAddress : Addr
  f_BadAddressu_initu : Addr
  d_BadAddressu_initu : FuncData
structure Txt (K : PySem.W.Frag) (mg : Str → Option Value) (A : Ad) : Prop where
  g_Price : mg "Price" = some (.ref A.C_Price)
  g_Step : mg "Step" = some (.ref A.C_Step)
  g_Write : mg "Write" = some (.ref A.C_Write)
  g_Sync : mg "Sync" = some (.ref A.C_Sync)
  g_Pass : mg "Pass" = some (.ref A.C_Pass)
  g_is_byte : mg "is_byte" = some (.ref A.f_is_byte)
  F_is_byte : Fun K "is_byte" "is_byte" s_is_byte A.f_is_byte A.d_is_byte
  b_is_byte : Binds K A.d_is_byte ["value"] []
  F_Priceu_initu : Fun K "__init__" "Price.__init__" s_Priceu_initu A.f_Priceu_initu A.d_Priceu_initu
  b_Priceu_initu : Binds K A.d_Priceu_initu ["self", "words", "writes"] []
  p_Price_words : PropOf K A.C_Price "words" A.pr_Price_words A.f_Price_words
  F_Price_words : Fun K "words" "Price.words" s_Price_words A.f_Price_words A.d_Price_words
  b_Price_words : Binds K A.d_Price_words ["self"] []
  p_Price_writes : PropOf K A.C_Price "writes" A.pr_Price_writes A.f_Price_writes
  F_Price_writes : Fun K "writes" "Price.writes" s_Price_writes A.f_Price_writes A.d_Price_writes
  b_Price_writes : Binds K A.d_Price_writes ["self"] []
  F_Price_under : Fun K "under" "Price.under" s_Price_under A.f_Price_under A.d_Price_under
  b_Price_under : Binds K A.d_Price_under ["self", "other"] []
  F_Priceu_addu : Fun K "__add__" "Price.__add__" s_Priceu_addu A.f_Priceu_addu A.d_Priceu_addu
  b_Priceu_addu : Binds K A.d_Priceu_addu ["self", "other"] []
  F_Priceu_equ : Fun K "__eq__" "Price.__eq__" s_Priceu_equ A.f_Priceu_equ A.d_Priceu_equ
  b_Priceu_equ : Binds K A.d_Priceu_equ ["self", "other"] []
  F_Priceu_stru : Fun K "__str__" "Price.__str__" s_Priceu_stru A.f_Priceu_stru A.d_Priceu_stru
  b_Priceu_stru : Binds K A.d_Priceu_stru ["self"] []
  F_Stepu_initu : Fun K "__init__" "Step.__init__" s_Stepu_initu A.f_Stepu_initu A.d_Stepu_initu
  b_Stepu_initu : Vc.BindV A.d_Stepu_initu ["self"] "shown"
  p_Step_price : PropOf K A.C_Step "price" A.pr_Step_price A.f_Step_price
  F_Step_price : Fun K "price" "Step.price" s_Step_price A.f_Step_price A.d_Step_price
  b_Step_price : Binds K A.d_Step_price ["self"] []
  F_Stepu_equ : Fun K "__eq__" "Step.__eq__" s_Stepu_equ A.f_Stepu_equ A.d_Stepu_equ
  b_Stepu_equ : Binds K A.d_Stepu_equ ["self", "other"] []
  F_Stepu_stru : Fun K "__str__" "Step.__str__" s_Stepu_stru A.f_Stepu_stru A.d_Stepu_stru
  b_Stepu_stru : Binds K A.d_Stepu_stru ["self"] []
  F_Writeu_initu : Vc.FunQ PySem.Challenge.pw_codestitch_k23_prices_and_single_steps K mg "__init__" "Write.__init__" s_Writeu_initu A.f_Writeu_initu A.d_Writeu_initu A.C_Write A.f_Stepu_initu "self"
  b_Writeu_initu : Vc.BindV A.d_Writeu_initu ["self", "address"] "values"
  F_Syncu_initu : Vc.FunQ PySem.Challenge.pw_codestitch_k23_prices_and_single_steps K mg "__init__" "Sync.__init__" s_Syncu_initu A.f_Syncu_initu A.d_Syncu_initu A.C_Sync A.f_Stepu_initu "self"
  b_Syncu_initu : Binds K A.d_Syncu_initu ["self"] []
  F_Passu_initu : Vc.FunQ PySem.Challenge.pw_codestitch_k23_prices_and_single_steps K mg "__init__" "Pass.__init__" s_Passu_initu A.f_Passu_initu A.d_Passu_initu A.C_Pass A.f_Stepu_initu "self"
  b_Passu_initu : Binds K A.d_Passu_initu ["self", "stretch"] []
  g__law_pen : mg "_law_pen" = some (.ref A.f__law_pen)
  F__law_pen : Fun K "_law_pen" "_law_pen" s__law_pen A.f__law_pen A.d__law_pen
  b__law_pen : Binds K A.d__law_pen ["_law_script"] []
  g__law_draw : mg "_law_draw" = some (.ref A.f__law_draw)
  F__law_draw : Fun K "_law_draw" "_law_draw" s__law_draw A.f__law_draw A.d__law_draw
  b__law_draw : Binds K A.d__law_draw ["_law_pen_here", "_law_bound"] []
  g__law_number : mg "_law_number" = some (.ref A.f__law_number)
  F__law_number : Fun K "_law_number" "_law_number" s__law_number A.f__law_number A.d__law_number
  b__law_number : Binds K A.d__law_number ["_law_pen_here"] []
  g__law_prices_right : mg "_law_prices_right" = some (.ref A.f__law_prices_right)
  F__law_prices_right : Fun K "_law_prices_right" "_law_prices_right" s__law_prices_right A.f__law_prices_right A.d__law_prices_right
  b__law_prices_right : Binds K A.d__law_prices_right ["_law_pen_here"] []
  g__law_write : mg "_law_write" = some (.ref A.f__law_write)
  F__law_write : Fun K "_law_write" "_law_write" s__law_write A.f__law_write A.d__law_write
  b__law_write : Binds K A.d__law_write ["_law_at", "_law_given"] []
  g__law_drawn : mg "_law_drawn" = some (.ref A.f__law_drawn)
  F__law_drawn : Fun K "_law_drawn" "_law_drawn" s__law_drawn A.f__law_drawn A.d__law_drawn
  b__law_drawn : Binds K A.d__law_drawn ["_law_pen_here"] []
  g__law_near : mg "_law_near" = some (.ref A.f__law_near)
  F__law_near : Fun K "_law_near" "_law_near" s__law_near A.f__law_near A.d__law_near
  b__law_near : Binds K A.d__law_near ["_law_pen_here", "_law_one"] []
  g__law_step : mg "_law_step" = some (.ref A.f__law_step)
  F__law_step : Fun K "_law_step" "_law_step" s__law_step A.f__law_step A.d__law_step
  b__law_step : Binds K A.d__law_step ["_law_one"] []
  g__law_steps_right : mg "_law_steps_right" = some (.ref A.f__law_steps_right)
  F__law_steps_right : Fun K "_law_steps_right" "_law_steps_right" s__law_steps_right A.f__law_steps_right A.d__law_steps_right
  b__law_steps_right : Binds K A.d__law_steps_right ["_law_pen_here"] []
  g__law_refused : mg "_law_refused" = some (.ref A.f__law_refused)
  F__law_refused : Fun K "_law_refused" "_law_refused" s__law_refused A.f__law_refused A.d__law_refused
  b__law_refused : Binds K A.d__law_refused ["_law_at", "_law_given"] []
  g__law_refusals_right : mg "_law_refusals_right" = some (.ref A.f__law_refusals_right)
  F__law_refusals_right : Fun K "_law_refusals_right" "_law_refusals_right" s__law_refusals_right A.f__law_refusals_right A.d__law_refusals_right
  b__law_refusals_right : Binds K A.d__law_refusals_right ["_law_pen_here"] []
  g_law : mg "law" = some (.ref A.f_law)
  F_law : Fun K "law" "law" s_law A.f_law A.d_law
  b_law : Binds K A.d_law ["_law_script"] []
  cl_Price : Cls K A.C_Price
  mk_Price : Mk K A.C_Price A.f_Priceu_initu
  m_Price_under : Meth K A.C_Price "under" A.f_Price_under
  no_Price_counted : NoAttr K A.C_Price "counted"
  cl_Step : Cls K A.C_Step
  cl_Write : Cls K A.C_Write
  mk_Write : Mk K A.C_Write A.f_Writeu_initu
  no_Write_shown : NoAttr K A.C_Write "shown"
  no_Write_address : NoAttr K A.C_Write "address"
  no_Write_given : NoAttr K A.C_Write "given"
  cl_Sync : Cls K A.C_Sync
  mk_Sync : Mk K A.C_Sync A.f_Syncu_initu
  no_Sync_shown : NoAttr K A.C_Sync "shown"
  cl_Pass : Cls K A.C_Pass
  mk_Pass : Mk K A.C_Pass A.f_Passu_initu
  no_Pass_shown : NoAttr K A.C_Pass "shown"
  no_Pass_stretch : NoAttr K A.C_Pass "stretch"
  n_len : mg "len" = none
  n_abs : mg "abs" = none
  n_int : mg "int" = none
  n_list : mg "list" = none
  n_range : mg "range" = none
  n_isinstance : mg "isinstance" = none
  n_bool : mg "bool" = none
  n_str : mg "str" = none
  n_tuple : mg "tuple" = none
  n_ValueError : mg "ValueError" = none
  n_repr : mg "repr" = none
  n_enumerate : mg "enumerate" = none
  g_MOST_ADDRESS : ∃ t, mg "MOST_ADDRESS" = some (.int 23 t)
  g_CodeError : mg "CodeError" = some (.ref A.C_CodeError)
  g_BadInput : mg "BadInput" = some (.ref A.C_BadInput)
  g_NotRight : mg "NotRight" = some (.ref A.C_NotRight)
  g_NoWay : mg "NoWay" = some (.ref A.C_NoWay)
  g_BadStep : mg "BadStep" = some (.ref A.C_BadStep)
  g_Word : mg "Word" = some (.ref A.C_Word)
  g_BadByte : mg "BadByte" = some (.ref A.C_BadByte)
  ox_BadByte : OexC K A.C_BadByte
  i_BadByte : PySem.W.findIn K (.ref A.C_BadByte) "__init__" = some (some (.ref A.f_BadByteu_initu))
  ti_BadByte : PySem.W.typeIn K (.ref A.f_BadByteu_initu) = some (.type "function")
  no_BadByte_at : PySem.W.findIn K (.ref A.C_BadByte) "at" = some none
  xf_BadByte : XfC K A.C_BadByte
  ec_BadByte : ExcC K A.C_BadByte
  F_BadByteu_initu : Vc.FunS PySem.Challenge.pw_codestitch_k23_prices_and_single_steps K mg "__init__" "BadByte.__init__" s_BadByteu_initu A.f_BadByteu_initu A.d_BadByteu_initu A.C_BadByte "self"
  b_BadByteu_initu : Binds K A.d_BadByteu_initu ["self", "at"] []
  g_BadAddress : mg "BadAddress" = some (.ref A.C_BadAddress)
  ox_BadAddress : OexC K A.C_BadAddress
  i_BadAddress : PySem.W.findIn K (.ref A.C_BadAddress) "__init__" = some (some (.ref A.f_BadAddressu_initu))
  ti_BadAddress : PySem.W.typeIn K (.ref A.f_BadAddressu_initu) = some (.type "function")
  no_BadAddress_at : PySem.W.findIn K (.ref A.C_BadAddress) "at" = some none
  xf_BadAddress : XfC K A.C_BadAddress
  ec_BadAddress : ExcC K A.C_BadAddress
  F_BadAddressu_initu : Vc.FunS PySem.Challenge.pw_codestitch_k23_prices_and_single_steps K mg "__init__" "BadAddress.__init__" s_BadAddressu_initu A.f_BadAddressu_initu A.d_BadAddressu_initu A.C_BadAddress "self"
  b_BadAddressu_initu : Binds K A.d_BadAddressu_initu ["self", "at"] []
  kit_BadByte_BadInput : PySem.W.kitOne K (.ref A.C_BadByte) (.ref A.C_BadInput) = some true
  kit_BadByte_NotRight : PySem.W.kitOne K (.ref A.C_BadByte) (.ref A.C_NotRight) = some false
  kit_BadByte_NoWay : PySem.W.kitOne K (.ref A.C_BadByte) (.ref A.C_NoWay) = some false
  kit_BadByte_ValueError : PySem.W.kitOne K (.ref A.C_BadByte) (.type "ValueError") = some true
  kit_BadByte_BadStep : PySem.W.kitOne K (.ref A.C_BadByte) (.ref A.C_BadStep) = some false
  kit_BadByte_BadAddress : PySem.W.kitOne K (.ref A.C_BadByte) (.ref A.C_BadAddress) = some false
  kit_BadByte_BadByte : PySem.W.kitOne K (.ref A.C_BadByte) (.ref A.C_BadByte) = some true
  kit_BadAddress_BadInput : PySem.W.kitOne K (.ref A.C_BadAddress) (.ref A.C_BadInput) = some true
  kit_BadAddress_NotRight : PySem.W.kitOne K (.ref A.C_BadAddress) (.ref A.C_NotRight) = some false
  kit_BadAddress_NoWay : PySem.W.kitOne K (.ref A.C_BadAddress) (.ref A.C_NoWay) = some false
  kit_BadAddress_ValueError : PySem.W.kitOne K (.ref A.C_BadAddress) (.type "ValueError") = some true
  kit_BadAddress_BadStep : PySem.W.kitOne K (.ref A.C_BadAddress) (.ref A.C_BadStep) = some false
  kit_BadAddress_BadAddress : PySem.W.kitOne K (.ref A.C_BadAddress) (.ref A.C_BadAddress) = some true
  kit_BadAddress_BadByte : PySem.W.kitOne K (.ref A.C_BadAddress) (.ref A.C_BadByte) = some false
  kit_Write_Step : PySem.W.kitOne K (.ref A.C_Write) (.ref A.C_Step) = some true
  kit_Write_Word : PySem.W.kitOne K (.ref A.C_Write) (.ref A.C_Word) = some false
  kit_Write_Sync : PySem.W.kitOne K (.ref A.C_Write) (.ref A.C_Sync) = some false
  kit_Write_Pass : PySem.W.kitOne K (.ref A.C_Write) (.ref A.C_Pass) = some false
  kit_Sync_Step : PySem.W.kitOne K (.ref A.C_Sync) (.ref A.C_Step) = some true
  kit_Sync_Word : PySem.W.kitOne K (.ref A.C_Sync) (.ref A.C_Word) = some true
  kit_Sync_Write : PySem.W.kitOne K (.ref A.C_Sync) (.ref A.C_Write) = some false
  kit_Sync_Pass : PySem.W.kitOne K (.ref A.C_Sync) (.ref A.C_Pass) = some false
  kit_Pass_Step : PySem.W.kitOne K (.ref A.C_Pass) (.ref A.C_Step) = some true
  kit_Pass_Word : PySem.W.kitOne K (.ref A.C_Pass) (.ref A.C_Word) = some true
  kit_Pass_Write : PySem.W.kitOne K (.ref A.C_Pass) (.ref A.C_Write) = some false
  kit_Pass_Sync : PySem.W.kitOne K (.ref A.C_Pass) (.ref A.C_Sync) = some false
  exm_BadByte_CodeError : PySem.W.exmOne K (.ref A.C_BadByte) (.ref A.C_CodeError) = some true
  exm_BadAddress_CodeError : PySem.W.exmOne K (.ref A.C_BadAddress) (.ref A.C_CodeError) = some true
  ic_Price : C8.InsC K A.C_Price
  ic_Write : C8.InsC K A.C_Write
  ic_Sync : C8.InsC K A.C_Sync
  ic_Pass : C8.InsC K A.C_Pass
  eq_Price : Vc.EqM K A.C_Price A.f_Priceu_equ
  ne_Price : Vc.NeM K A.C_Price A.f_Priceu_equ
  kt_tuple_Price : PySem.W.kitOne K (.type "tuple") (.ref A.C_Price) = some false
  kt_tuple_Step : PySem.W.kitOne K (.type "tuple") (.ref A.C_Step) = some false
  kt_str_Step : PySem.W.kitOne K (.type "str") (.ref A.C_Step) = some false
  kt_int_Step : PySem.W.kitOne K (.type "int") (.ref A.C_Step) = some false
  nf_Price_Price : PySem.W.notFirst K A.C_Price (.ref A.C_Price) = true
  nf_tuple_Price : PySem.W.notFirst K A.C_Price (.type "tuple") = true
  nf_Write_Write : PySem.W.notFirst K A.C_Write (.ref A.C_Write) = true
  nf_Sync_Write : PySem.W.notFirst K A.C_Write (.ref A.C_Sync) = true
  nf_Pass_Write : PySem.W.notFirst K A.C_Write (.ref A.C_Pass) = true
  nf_tuple_Write : PySem.W.notFirst K A.C_Write (.type "tuple") = true
  nf_str_Write : PySem.W.notFirst K A.C_Write (.type "str") = true
  nf_int_Write : PySem.W.notFirst K A.C_Write (.type "int") = true
  nf_Write_Sync : PySem.W.notFirst K A.C_Sync (.ref A.C_Write) = true
  nf_Sync_Sync : PySem.W.notFirst K A.C_Sync (.ref A.C_Sync) = true
  nf_Pass_Sync : PySem.W.notFirst K A.C_Sync (.ref A.C_Pass) = true
  nf_tuple_Sync : PySem.W.notFirst K A.C_Sync (.type "tuple") = true
  nf_str_Sync : PySem.W.notFirst K A.C_Sync (.type "str") = true
  nf_int_Sync : PySem.W.notFirst K A.C_Sync (.type "int") = true
  nf_Write_Pass : PySem.W.notFirst K A.C_Pass (.ref A.C_Write) = true
  nf_Sync_Pass : PySem.W.notFirst K A.C_Pass (.ref A.C_Sync) = true
  nf_Pass_Pass : PySem.W.notFirst K A.C_Pass (.ref A.C_Pass) = true
  nf_tuple_Pass : PySem.W.notFirst K A.C_Pass (.type "tuple") = true
  nf_str_Pass : PySem.W.notFirst K A.C_Pass (.type "str") = true
  nf_int_Pass : PySem.W.notFirst K A.C_Pass (.type "int") = true
  sp_Price_Priceu_addu : Vc.SpM K A.C_Price A.f_Priceu_addu "__add__"
  sp_Price_Priceu_stru : Vc.SpM K A.C_Price A.f_Priceu_stru "__str__"
  sf_Price : PySem.W.selfFirst K A.C_Price = true
  sp_Write_price : PropOf K A.C_Write "price" A.pr_Step_price A.f_Step_price
  se_Write : Vc.EqM K A.C_Write A.f_Stepu_equ
  sn_Write : Vc.NeM K A.C_Write A.f_Stepu_equ
  ss_Write : Vc.SpM K A.C_Write A.f_Stepu_stru "__str__"
  sw_Write : ∃ u, Con K A.C_Write "WORDS" (.int 0) u
  sr_Write : ∃ u, Con K A.C_Write "WRITES" (.int 1) u
  sp_Sync_price : PropOf K A.C_Sync "price" A.pr_Step_price A.f_Step_price
  se_Sync : Vc.EqM K A.C_Sync A.f_Stepu_equ
  sn_Sync : Vc.NeM K A.C_Sync A.f_Stepu_equ
  ss_Sync : Vc.SpM K A.C_Sync A.f_Stepu_stru "__str__"
  sw_Sync : ∃ u, Con K A.C_Sync "WORDS" (.int 1) u
  sr_Sync : ∃ u, Con K A.C_Sync "WRITES" (.int 0) u
  sp_Pass_price : PropOf K A.C_Pass "price" A.pr_Step_price A.f_Step_price
  se_Pass : Vc.EqM K A.C_Pass A.f_Stepu_equ
  sn_Pass : Vc.NeM K A.C_Pass A.f_Stepu_equ
  ss_Pass : Vc.SpM K A.C_Pass A.f_Stepu_stru "__str__"
  sw_Pass : ∃ u, Con K A.C_Pass "WORDS" (.int 1) u
  sr_Pass : ∃ u, Con K A.C_Pass "WRITES" (.int 0) u
end My
namespace My
open PySem PySem.Spec PyProof.Rows L2
theorem ok_BadByteu_initu {w : World} {K : PySem.W.Frag} {mg : Str → Option Value} {base : Heap} {A : Ad} (T : Txt K mg A) : FnOk PySem.Challenge.pw_codestitch_k23_prices_and_single_steps w K mg base CX0 1 A.f_BadByteu_initu A.d_BadByteu_initu ["self", "at"] (Vc.spErr1 A.C_BadByte "at") := by
  refine T.F_BadByteu_initu.ok sc_BadByteu_initu T.ox_BadByte rfl rfl rfl (fun vs H Q E h => ?_) (fun X => pe_str) (fun _ _ _ => rfl) (fun _ _ _ => rfl) (fun _ _ _ => rfl) (fun _ _ _ => rfl) (fun cda cc Ar outer s H vs Q E h => ?_)
  · obtain ⟨_, _, rfl, _⟩ := h
    rfl
  · obtain ⟨a, h1, h2, h3⟩ := Vc.err_ends1 T.ox_BadByte T.no_BadByte_at h
    exact ⟨a, h1, h2, _, pss_one (ps_ost (pv 0) (pv 1)), h3⟩
theorem ok_BadAddressu_initu {w : World} {K : PySem.W.Frag} {mg : Str → Option Value} {base : Heap} {A : Ad} (T : Txt K mg A) : FnOk PySem.Challenge.pw_codestitch_k23_prices_and_single_steps w K mg base CX0 1 A.f_BadAddressu_initu A.d_BadAddressu_initu ["self", "at"] (Vc.spErr1 A.C_BadAddress "at") := by
  refine T.F_BadAddressu_initu.ok sc_BadAddressu_initu T.ox_BadAddress rfl rfl rfl (fun vs H Q E h => ?_) (fun X => pe_str) (fun _ _ _ => rfl) (fun _ _ _ => rfl) (fun _ _ _ => rfl) (fun _ _ _ => rfl) (fun cda cc Ar outer s H vs Q E h => ?_)
  · obtain ⟨_, _, rfl, _⟩ := h
    rfl
  · obtain ⟨a, h1, h2, h3⟩ := Vc.err_ends1 T.ox_BadAddress T.no_BadAddress_at h
    exact ⟨a, h1, h2, _, pss_one (ps_ost (pv 0) (pv 1)), h3⟩
end My
namespace My
open PySem PySem.Spec PyProof.Rows L2
/-! ### data of ints: laid out, equal -/
theorem lay_ints : ∀ ns : List Int, PyData.canLayAll0 (ns.map PyData.int) = true
  | [] => rfl
  | n :: r => by
    rw [List.map_cons, PyData.canLayAll0, lay_ints r]; rfl
theorem dep_ints : ∀ ns : List Int, PyData.depthAll (ns.map PyData.int) = 0
  | [] => rfl
  | n :: r => by
    rw [List.map_cons, PyData.depthAll, dep_ints r]; rfl
theorem shp_list (ns : List Int) : SeqAt.shaped (.list (ns.map PyData.int)) = true := by
  unfold SeqAt.shaped
  rw [PyData.canLay0, lay_ints, PyData.depth, dep_ints]; rfl
theorem shp_tup (ns : List Int) : SeqAt.shaped (.tuple (ns.map PyData.int)) = true := by
  unfold SeqAt.shaped
  rw [PyData.canLay0, lay_ints, PyData.depth, dep_ints]; rfl
theorem eqv_ints : ∀ ns ms : List Int, PyData.eqvAll (ns.map PyData.int) (ms.map PyData.int) = decide (ns = ms)
  | [], [] => rfl
  | [], _ :: _ => rfl
  | _ :: _, [] => rfl
  | n :: r, m :: q => by
    rw [List.map_cons, List.map_cons, PyData.eqvAll, eqv_ints r q, Bool.eq_iff_iff]
    show ((n == m) && decide (r = q)) = true ↔ _
    simp
theorem eqv_lists (ns ms : List Int) : PyData.eqv (.list (ns.map PyData.int)) (.list (ms.map PyData.int)) = decide (ns = ms) := by rw [PyData.eqv]; exact eqv_ints ns ms
theorem eqv_tups (ns ms : List Int) : PyData.eqv (.tuple (ns.map PyData.int)) (.tuple (ms.map PyData.int)) = decide (ns = ms) := by rw [PyData.eqv]; exact eqv_ints ns ms
theorem dp_ints {K : PySem.W.Frag} {H : Hp} : ∀ (ns : List Int), DpAll K H (ns.map V.int) (ns.map PyData.int)
  | [] => .nil
  | n :: r => .cons (.int n) (dp_ints r)
section
variable {K : PySem.W.Frag} {H : Hp} {Q : VK} {p q : Addr} {ns ms : List Int}
/-- two lists of ints compared -/
theorem go_neLs (e1 : SqL K H p (ns.map V.int)) (e2 : SqL K H q (ms.map V.int)) (h : Q (.bl (!decide (ns = ms))) H) : rNeD K (.ref p) (.ref q) H Q :=
  ⟨_, _, .lst e1 (dp_ints ns), .lst e2 (dp_ints ms), shp_list _, shp_list _, by rw [eqv_lists]; exact h⟩
theorem go_eqLs (e1 : SqL K H p (ns.map V.int)) (e2 : SqL K H q (ms.map V.int)) (h : Q (.bl (decide (ns = ms))) H) : rEqD K (.ref p) (.ref q) H Q :=
  ⟨_, _, .lst e1 (dp_ints ns), .lst e2 (dp_ints ms), shp_list _, shp_list _, by rw [eqv_lists]; exact h⟩
end

/-! ### flat values as data -/
def vD : V → PyData
  | .bl b => .bool b
  | .int i => .int i
  | .str z => .str z
  | _ => .none
def isAt : V → Bool
  | .non => true
  | .bl _ => true
  | .int _ => true
  | .str _ => true
  | _ => false
theorem dp_at {K : PySem.W.Frag} {H : Hp} : ∀ {x : V}, isAt x = true → Dp K H x (vD x)
  | .non, _ => .non
  | .bl b, _ => .bl b
  | .int i, _ => .int i
  | .str z, _ => .str z
theorem dp_ats {K : PySem.W.Frag} {H : Hp} : ∀ {xs : List V}, xs.all isAt = true → DpAll K H xs (xs.map vD)
  | [], _ => .nil
  | x :: r, h => by
    rw [List.all_cons, Bool.and_eq_true] at h
    exact .cons (dp_at h.1) (dp_ats h.2)

end My
namespace My
open PySem PySem.Spec PyProof.Rows L2
/-! ### data without truths, compared -/
def PAtom (d : PyData) : Prop := d = .none ∨ (∃ i, d = .int i) ∨ ∃ z, PyData.canLay0 (.str z) = true ∧ d = .str z
def Pl : Nat → PyData → Prop
  | 0, d => PAtom d
  | n + 1, d => PAtom d ∨ ∃ ds, (d = .list ds ∨ d = .tuple ds) ∧ ∀ x ∈ ds, Pl n x
theorem Pl.atom {n : Nat} {d : PyData} (h : PAtom d) : Pl n d := by
  cases n with
  | zero => exact h
  | succ n => exact .inl h
theorem pl_int {n : Nat} (i : Int) : Pl n (.int i) := .atom (.inr (.inl ⟨i, rfl⟩))
theorem pl_non {n : Nat} : Pl n .none := .atom (.inl rfl)
theorem pl_str {n : Nat} {z : Str} (h : PyData.canLay0 (.str z) = true) : Pl n (.str z) := .atom (.inr (.inr ⟨z, h, rfl⟩))
theorem pl_lst {n : Nat} {ds : List PyData} (h : ∀ x ∈ ds, Pl n x) : Pl (n + 1) (.list ds) := .inr ⟨ds, .inl rfl, h⟩
theorem pl_tup {n : Nat} {ds : List PyData} (h : ∀ x ∈ ds, Pl n x) : Pl (n + 1) (.tuple ds) := .inr ⟨ds, .inr rfl, h⟩
theorem pl_ints {n : Nat} (ns : List Int) : ∀ x ∈ ns.map PyData.int, Pl n x := fun x hx => by
  obtain ⟨i, _, rfl⟩ := List.mem_map.mp hx
  exact pl_int i
theorem lay_all : ∀ ds : List PyData, (∀ x ∈ ds, PyData.canLay0 x = true) → PyData.canLayAll0 ds = true
  | [], _ => rfl
  | d :: r, h => by rw [PyData.canLayAll0, h d List.mem_cons_self, lay_all r fun x hx => h x (List.mem_cons_of_mem _ hx)]; rfl
theorem dep_all {n : Nat} : ∀ ds : List PyData, (∀ x ∈ ds, PyData.depth x ≤ n) → PyData.depthAll ds ≤ n
  | [], _ => Nat.zero_le _
  | d :: r, h => by
    rw [PyData.depthAll]
    have := h d List.mem_cons_self
    have := dep_all r fun x hx => h x (List.mem_cons_of_mem _ hx)
    omega
theorem atom_lay {d : PyData} (h : PAtom d) : PyData.canLay0 d = true ∧ PyData.depth d = 0 := by
  rcases h with rfl | ⟨i, rfl⟩ | ⟨z, hz, rfl⟩
  · exact ⟨rfl, rfl⟩
  · exact ⟨rfl, rfl⟩
  · exact ⟨hz, rfl⟩
theorem pl_lay : ∀ (n : Nat) (d : PyData), Pl n d → PyData.canLay0 d = true ∧ PyData.depth d ≤ n
  | 0, d, h => by
    obtain ⟨a, b⟩ := atom_lay h
    exact ⟨a, by omega⟩
  | n + 1, d, h => by
    rcases h with h | ⟨ds, h, hx⟩
    · obtain ⟨a, b⟩ := atom_lay h
      exact ⟨a, by omega⟩
    · have a := lay_all ds fun x hm => (pl_lay n x (hx x hm)).1
      have b := dep_all ds fun x hm => (pl_lay n x (hx x hm)).2
      rcases h with rfl | rfl
      · refine ⟨by rw [PyData.canLay0]; exact a, ?_⟩
        rw [PyData.depth]; omega
      · refine ⟨by rw [PyData.canLay0]; exact a, ?_⟩
        rw [PyData.depth]; omega
theorem pl_shp {n : Nat} {d : PyData} (h : Pl n d) (l : n ≤ 64) : SeqAt.shaped d = true := by
  obtain ⟨a, b⟩ := pl_lay n d h
  unfold SeqAt.shaped
  rw [a, decide_eq_true (by omega)]; rfl
theorem eqv_all : ∀ xs ys : List PyData, (∀ x ∈ xs, ∀ y ∈ ys, (PyData.eqv x y = true ↔ x = y)) → (PyData.eqvAll xs ys = true ↔ xs = ys)
  | [], [], _ => by rw [PyData.eqvAll]; simp
  | [], _ :: _, _ => by rw [PyData.eqvAll]; simp
  | _ :: _, [], _ => by rw [PyData.eqvAll]; simp
  | x :: xs, y :: ys, h => by
    rw [PyData.eqvAll, Bool.and_eq_true, h x List.mem_cons_self y List.mem_cons_self, eqv_all xs ys fun a ha b hb => h a (List.mem_cons_of_mem _ ha) b (List.mem_cons_of_mem _ hb), List.cons.injEq]
theorem atom_eqv {d e : PyData} (h : PAtom d) (k : PAtom e) : PyData.eqv d e = true ↔ d = e := by
  rcases h with rfl | ⟨i, rfl⟩ | ⟨z, _, rfl⟩ <;> rcases k with rfl | ⟨j, rfl⟩ | ⟨y, _, rfl⟩ <;> simp [PyData.eqv]
theorem pl_eqv : ∀ (n : Nat) (d e : PyData), Pl n d → Pl n e → (PyData.eqv d e = true ↔ d = e)
  | 0, d, e, h, k => atom_eqv h k
  | n + 1, d, e, h, k => by
    rcases h with h | ⟨ds, h, hx⟩
    · rcases k with k | ⟨es, k, hy⟩
      · exact atom_eqv h k
      · rcases h with rfl | ⟨i, rfl⟩ | ⟨z, _, rfl⟩ <;> rcases k with rfl | rfl <;> simp [PyData.eqv]
    · rcases k with k | ⟨es, k, hy⟩
      · rcases k with rfl | ⟨i, rfl⟩ | ⟨z, _, rfl⟩ <;> rcases h with rfl | rfl <;> simp [PyData.eqv]
      · have := eqv_all ds es fun x hm y hn => pl_eqv n x y (hx x hm) (hy y hn)
        rcases h with rfl | rfl <;> rcases k with rfl | rfl <;> simp [PyData.eqv, this]
theorem pl_dec {n : Nat} {d e : PyData} {p : Prop} [Decidable p] (h : Pl n d) (k : Pl n e) (i : d = e ↔ p) : PyData.eqv d e = decide p := by
  rw [Bool.eq_iff_iff, pl_eqv n d e h k, i, decide_eq_true_eq]
/-- data compared -/
theorem go_nePl {K : PySem.W.Frag} {H : Hp} {Q : VK} {x y : V} {d e : PyData} {n : Nat} {p : Prop} [Decidable p] (hx : Dp K H x d) (hy : Dp K H y e) (h : Pl n d) (k : Pl n e) (l : n ≤ 64) (i : d = e ↔ p) (q : Q (.bl (!decide p)) H) : rNeD K x y H Q :=
  ⟨d, e, hx, hy, pl_shp h l, pl_shp k l, by rw [pl_dec h k i]; exact q⟩
theorem go_eqPl {K : PySem.W.Frag} {H : Hp} {Q : VK} {x y : V} {d e : PyData} {n : Nat} {p : Prop} [Decidable p] (hx : Dp K H x d) (hy : Dp K H y e) (h : Pl n d) (k : Pl n e) (l : n ≤ 64) (i : d = e ↔ p) (q : Q (.bl (decide p)) H) : rEqD K x y H Q :=
  ⟨d, e, hx, hy, pl_shp h l, pl_shp k l, by rw [pl_dec h k i]; exact q⟩
theorem ints_inj {a b : List Int} : a.map PyData.int = b.map PyData.int ↔ a = b := ⟨fun h => (List.map_inj_right fun x y z => by injection z).mp h, fun h => by rw [h]⟩

end My
namespace My
open PySem PySem.Spec PyProof.Rows L2
/-! ### the pen: what a script's draws come from -/
structure PenS (H : Hp) (b c : Addr) (ns : List Int) (a r : Int) : Prop where
  ob : H b = some (.lst [.ref c, .int a, .int r])
  cl : H c = some (.lst (ns.map V.int))
  len : ns.length ≤ 63
  a0 : 0 ≤ a
  r0 : 0 ≤ r
/-- at most n cells were drawn -/
def Pen (H : Hp) (b c : Addr) (n : Nat) : Prop := ∃ ns a r, PenS H b c ns a r ∧ a ≤ n
theorem Pen.ed {H H' : Hp} {b c : Addr} {n : Nat} {S : List Addr} (h : Pen H b c n) (e : Vc.Ed S H H') (hb : b ∉ S) (hc : c ∉ S) : Pen H' b c n := by
  obtain ⟨ns, a, r, B, l⟩ := h
  exact ⟨ns, a, r, ⟨e.keep _ _ hb B.ob, e.keep _ _ hc B.cl, B.len, B.a0, B.r0⟩, l⟩
theorem Pen.ed0 {H H' : Hp} {b c : Addr} {n : Nat} (e : Vc.Ed [] H H') (h : Pen H b c n) : Pen H' b c n := h.ed e (fun z => nomatch z) (fun z => nomatch z)
theorem Pen.ed1 {H H' : Hp} {b c p : Addr} {n : Nat} (e : Vc.Ed [p] H H') (hb : b ≠ p) (hc : c ≠ p) (h : Pen H b c n) : Pen H' b c n :=
  h.ed e (fun z => hb (List.mem_singleton.mp z)) (fun z => hc (List.mem_singleton.mp z))
theorem Pen.up {H : Hp} {b c : Addr} {n m : Nat} (h : Pen H b c n) (l : n ≤ m) : Pen H b c m := by
  obtain ⟨ns, a, r, B, l'⟩ := h
  exact ⟨ns, a, r, B, by omega⟩
theorem Pen.fb {H : Hp} {b c p : Addr} {n : Nat} (h : Pen H b c n) (q : H p = none) : b ≠ p ∧ c ≠ p := by
  obtain ⟨ns, a, r, B, _⟩ := h
  exact ⟨ne_of_none B.ob q, ne_of_none B.cl q⟩
theorem Pen.lst {H : Hp} {b c : Addr} {n : Nat} (h : Pen H b c n) : ∃ x a r, H b = some (.lst [.ref x, .int a, .int r]) := by
  obtain ⟨ns, a, r, B, _⟩ := h
  exact ⟨_, _, _, B.ob⟩
def LIM : Nat := 1000000
def spDraw : Sp := fun vs H Q _ => ∃ (b c : Addr) (n : Nat) (m : Int), vs = [.ref b, .int m] ∧ Pen H b c n ∧ n ≤ LIM ∧ 1 ≤ m ∧ m < 2 ^ 190 ∧
  ∀ i H', 0 ≤ i → i < m → Vc.Ed [b] H H' → Pen H' b c (n + 1) → Q (.int i) H'
theorem pen_ns {ns : List Int} {a : Int} (h : ns ≠ []) (h0 : 0 ≤ a) : ∃ x, atI (ns.map V.int) (a % (ns.length : Int)) = some (.int x) := by
  have l : 0 < ns.length := List.length_pos_iff.mpr h
  have e0 := Int.emod_nonneg a (show (ns.length : Int) ≠ 0 by omega)
  have e1 := Int.emod_lt_of_pos a (show (0 : Int) < ns.length by omega)
  refine ⟨ns[(a % (ns.length : Int)).toNat]'(by omega), at_of (j := (a % (ns.length : Int)).toNat) (by omega) ?_⟩
  rw [List.getElem?_map, List.getElem?_eq_getElem (by omega)]; rfl
section
variable {P : Program} {w : World} {K : PySem.W.Frag} {mg : Str → Option Value} {base : Heap} {A : Ad}
theorem ok__law_draw (T : Txt K mg A) : FnOk P w K mg base CX0 1 A.f__law_draw A.d__law_draw ["_law_pen_here", "_law_bound"] spDraw := by
  refine T.F__law_draw.ok sc__law_draw (fun vs H Q E h => ?_) (fun cdv Ar outer s H vs Q E hr h => ?_)
  · obtain ⟨b, c, n, m, rfl, _⟩ := h
    rfl
  · obtain ⟨b, c, n, m, rfl, hB, nl, m1, m2, k⟩ := h
    have nl : n ≤ 1000000 := nl
    refine ⟨_, (pss_cons (ps_if (pt_cmpR op_gt (pe_ix ix_list (pv 0) pe_int (fun _ _ => rfl)) pe_int (nomark _)) (pss_cons (ps_set (i := 2) sc__law_draw.nd rfl (Or.inl rfl) (pe_op op_mod (pe_callTy call_int1 (by rfl) T.n_int (by decide +kernel) (pa_cons (pe_ix ix_list (pv 0) pe_int (fun _ _ => rfl)) pa_nil)) (pv 1))) (pss_cons (ps_asg (pe_op op_fdivW (pe_ix ix_list (pv 0) pe_int (fun _ _ => rfl)) (pv 1)) (pg_sub (pv 0) pe_int set_list)) (pss_one (ps_ret (pv 2))))) pss_nil) (pss_cons (ps_set (i := 3) sc__law_draw.nd rfl (Or.inl rfl) (pe_ix ix_list (pv 0) pe_int (fun _ _ => rfl))) (pss_cons (ps_asg (pe_op op_add (pv 3) pe_int) (pg_sub (pv 0) pe_int set_list)) (pss_cons (ps_set (i := 4) sc__law_draw.nd rfl (Or.inl rfl) (pe_op op_add (pe_op op_mulW pe_int (pv 3)) pe_int)) (Evl.pss_cut (ps_if (pt_cmpR (op_neD (by exact hr.units)) (pe_ix ix_list (pv 0) pe_int (fun _ _ => rfl)) (pe_lst pa_nil) (nomark _)) (pss_one (ps_set (i := 4) sc__law_draw.nd rfl (Or.inl rfl) (pe_ix ix_list (pe_ix ix_list (pv 0) pe_int (fun _ _ => rfl)) (pe_op op_mod (pe_callTy call_int1 (by rfl) T.n_int (by decide +kernel) (pa_cons (pv 3) pa_nil)) (pe_callB call_len_seq (by rfl) T.n_len (by decide +kernel) (pa_cons (pe_ix ix_list (pv 0) pe_int (fun _ _ => rfl)) pa_nil))) (fun _ _ => rfl)))) pss_nil) (Evl.pss_cut (ps_if (PW.pt (pw_and (pt_cmpR op_lt (pv 3) (pe_callB call_len_seq (by rfl) T.n_len (by decide +kernel) (pa_cons (pe_ix ix_list (pv 0) pe_int (fun _ _ => rfl)) pa_nil)) (nomark _)) (pw_and1 (pt_cmpR op_ge (pe_callB call_abs (by rfl) T.n_abs (by decide +kernel) (pa_cons (pv 4) pa_nil)) (pe_op op_pow pe_int pe_int) (nomark _))))) (pss_cons (ps_set (i := 5) sc__law_draw.nd rfl (Or.inl rfl) (pe_op op_add (pe_op op_mul pe_int (pe_callB call_abs (by rfl) T.n_abs (by decide +kernel) (pa_cons (pv 4) pa_nil))) (pe_callTy call_int1 (by rfl) T.n_int (by decide +kernel) (pa_cons (pe_cmpR op_lt (pv 4) pe_int (nomark _)) pa_nil)))) (pss_cons (ps_asg (pe_op op_fdivW (pv 5) (pv 1)) (pg_sub (pv 0) pe_int set_list)) (pss_one (ps_ret (pe_op op_mod (pe_callTy call_int1 (by rfl) T.n_int (by decide +kernel) (pa_cons (pv 5) pa_nil)) (pv 1)))))) pss_nil) (Evl.pss_cut (ps_set (i := 6) sc__law_draw.nd rfl (Or.inl rfl) (pe_op op_mod (pe_callTy call_int1 (by rfl) T.n_int (by decide +kernel) (pa_cons (pe_op op_pow (pe_op op_add (pe_op op_add (pe_op op_mod (pe_callTy call_int1 (by rfl) T.n_int (by decide +kernel) (pa_cons (pv 4) pa_nil)) pe_int) (pe_op op_mulW pe_int (pv 3))) pe_int) pe_int) pa_nil)) pe_int)) (pss_cons (ps_set (i := 6) sc__law_draw.nd rfl (Or.inl rfl) (pe_op op_mod (pe_callTy call_int1 (by rfl) T.n_int (by decide +kernel) (pa_cons (pe_op op_pow (pe_op op_add (pe_op op_add (pe_op op_mulW (pv 6) (pe_op op_add (pe_op op_mulW pe_int (pv 3)) pe_int)) (pe_op op_mulW (pe_op op_mulW pe_int (pv 3)) (pv 3))) pe_int) pe_int) pa_nil)) pe_int)) (pss_one (ps_ret (pe_op op_mod (pe_callTy call_int1 (by rfl) T.n_int (by decide +kernel) (pa_cons (pe_op op_fdivW (pv 6) pe_int) pa_nil)) (pv 1)))))))))))), ?_⟩
    obtain ⟨ns, a, r, B, al⟩ := hB
    obtain ⟨hb, hc, hl, ha, hr0⟩ := id B
    have nbc : b ≠ c := fun z => by rw [z, hc] at hb; cases ns with
      | nil => cases hb
      | cons x l => cases hb
    have i0 : atI [V.ref c, .int a, .int r] 0 = some (.ref c) := rfl
    have i1 : atI [V.ref c, .int a, .int r] 1 = some (.int a) := rfl
    have i2 : atI [V.ref c, .int a, .int r] 2 = some (.int r) := rfl
    walk_at "go"
    refine Vc.go_ite (fun h1 => ?_) (fun h1 => ?_)
    · walk_at "go"
      refine Vc.go_setL hb rfl ?_
      generalize hu : upd _ b _ = H1
      obtain ⟨e1, hb1⟩ := Vc.chg hu hb
      walk_at "go"
      exact k _ _ (Int.emod_nonneg _ (by omega)) (Int.emod_lt_of_pos _ (by omega)) e1 ⟨ns, a, _, ⟨hb1, e1.at1 nbc.symm hc, hl, ha, Int.ediv_nonneg hr0 (by omega)⟩, by omega⟩
    walk_at "go"
    refine Vc.go_setL hb rfl ?_
    generalize hu : upd _ b _ = H1
    obtain ⟨e1, hb1⟩ := Vc.chg hu hb
    have hb1 : H1 b = some (.lst [.ref c, .int (a + 1), .int r]) := hb1
    have hc1 := e1.at1 nbc.symm hc
    have j0 : atI [V.ref c, .int (a + 1), .int r] 0 = some (.ref c) := rfl
    have j1 : atI [V.ref c, .int (a + 1), .int r] 1 = some (.int (a + 1)) := rfl
    have fin : ∀ (i : Int) H', 0 ≤ i → i < m → Vc.Ed [] H1 H' → Q (.int i) H' := fun i H' i0 i1 e => k i H' i0 i1 (e1.ex e) ⟨ns, a + 1, r, ⟨e.at0 hb1, e.at0 hc1, hl, by omega, hr0⟩, by omega⟩
    walk_at "go"
    refine Evl.q_cut (M := fun σ H' => ∃ cell : Int, σ = [some (.ref b), some (.int m), none, some (.int a), some (.int cell), none, none] ∧ Vc.Ed [] H1 H') ?_ ?_
    · walk_at "go"
      intro q nq
      generalize hu2 : upd _ q _ = H2
      obtain ⟨e2, hq⟩ := Vc.alloc hu2 nq
      have hb2 := e2.at0 hb1
      have hc2 := e2.at0 hc1
      refine go_neLs (ms := []) (.of hc2) (.of hq) ?_
      walk_at "go"
      refine Vc.go_iten (fun h2 => ?_) (fun h2 => ?_)
      · have hlp : 0 < ns.length := List.length_pos_iff.mpr h2
        obtain ⟨x, hx⟩ := pen_ns (a := a) h2 ha
        walk_at "go"
        rw [List.length_map]
        walk_at "go"
        exact ⟨_, rfl, e2⟩
      · walk_at "go"
        exact ⟨_, rfl, e2⟩
    · rintro σ H2 ⟨cell, rfl, e2⟩
      have hb2 := e2.at0 hb1
      have hc2 := e2.at0 hc1
      walk_at "go"
      refine Evl.q_cut (M := fun σ H' => σ = [some (.ref b), some (.int m), none, some (.int a), some (.int cell), none, none] ∧ H' = H2) ?_ ?_
      · walk_at "go"
        rw [List.length_map]
        refine Vc.go_ite (fun h3 => ?_) (fun h3 => ?_)
        · walk_at "go"
          refine Vc.go_ite (fun h4 => ?_) (fun h4 => ?_)
          · walk_at "go"
            generalize hce : (if cell < 0 then -cell else cell) = cl
            have hc0 : 0 ≤ cl := by rw [← hce]; split <;> omega
            obtain ⟨u, hu0, hg⟩ : ∃ u : Int, 0 ≤ u ∧ (if decide (cell < 0) = true then (1 : Int) else 0) = u := ⟨_, by split <;> omega, rfl⟩
            refine Vc.go_I (.inl ⟨by decide, by decide⟩) ?_
            walk_at "go"
            refine Vc.go_setL hb2 rfl ?_
            generalize hu3 : upd _ b _ = H3
            obtain ⟨e3, hb3⟩ := Vc.chg hu3 hb2
            rw [hg] at hb3
            have hb3 : H3 b = some (.lst [.ref c, .int (a + 1), .int ((2 * cl + u) / m)]) := hb3
            walk_at "go"
            exact k _ _ (Int.emod_nonneg _ (by omega)) (Int.emod_lt_of_pos _ (by omega)) ((e1.ex e2).one e3 (.inl (by simp))) ⟨ns, a + 1, _, ⟨hb3, e3.at1 nbc.symm hc2, hl, by omega, Int.ediv_nonneg (by omega) (by omega)⟩, by omega⟩
          · walk_at "go"
            exact ⟨rfl, rfl⟩
        · walk_at "go"
          exact ⟨rfl, rfl⟩
      · rintro σ H3 ⟨rfl, rfl⟩
        have sq0 : 0 ≤ a * a := Int.mul_nonneg ha ha
        have sq1 : a * a ≤ 1000000 * 1000000 := Int.mul_le_mul (by omega) (by omega) ha (by omega)
        walk_at "go"
        refine Evl.q_cut (M := fun σ H' => ∃ x : Int, σ = [some (.ref b), some (.int m), none, some (.int a), some (.int cell), none, some (.int x)] ∧ 0 ≤ x ∧ x < 2147483648 ∧ H' = H3) ?_ ?_
        · walk_at "go"
          exact ⟨_, rfl, Int.emod_nonneg _ (by decide), Int.lt_of_lt_of_le (Int.emod_lt_of_pos _ (by decide)) (by decide), rfl⟩
        · rintro σ H4 ⟨x, rfl, x0, x1, rfl⟩
          have mx1 : x * (2 * a + 247) ≤ 2147483648 * 3000000 := Int.mul_le_mul (by omega) (by omega) (by omega) (by omega)
          have mx0 : 0 ≤ x * (2 * a + 247) := Int.mul_nonneg x0 (by omega)
          have sq2 : 0 ≤ 61181 * a * a := by rw [Int.mul_assoc]; omega
          have sq3 : 61181 * a * a ≤ 61181 * (1000000 * 1000000) := by rw [Int.mul_assoc]; omega
          walk_at "go"
          exact fin _ _ (Int.emod_nonneg _ (by omega)) (Int.emod_lt_of_pos _ (by omega)) e2
end
section
variable {P : Program} {w : World} {K : PySem.W.Frag} {mg : Str → Option Value} {base : Heap} {A : Ad}
def spPen (K : PySem.W.Frag) : Sp := fun vs H Q _ => ∃ (p : Addr) (ns : List Int), vs = [.ref p] ∧ SqL K H p (ns.map V.int) ∧ ns.length ≤ 63 ∧
  ∀ b c H', Vc.Ed [] H H' → Pen H' b c 0 → H b = none → H c = none → Q (.ref b) H'
theorem cut_ns {ns : List Int} (h : ns.length ≤ 63) : cutV (ns.map V.int) none (some 63) = ns.map V.int := by
  have e := Vc.cut_take (ns.map V.int) 63
  rw [List.take_of_length_le (by rw [List.length_map]; exact h)] at e
  exact e
theorem ok__law_pen (T : Txt K mg A) : FnOk P w K mg base CX0 1 A.f__law_pen A.d__law_pen ["_law_script"] (spPen K) := by
  refine T.F__law_pen.ok sc__law_pen (fun vs H Q E h => ?_) (fun cdv Ar outer s H vs Q E hr h => ?_)
  · obtain ⟨p, ns, rfl, _⟩ := h
    rfl
  · obtain ⟨p, ns, rfl, hS, hl, k⟩ := h
    refine ⟨_, (pss_one (ps_ret (pe_lst (pa_cons (pe_callTy Vc.call_lstD (by rfl) T.n_list (by decide +kernel) (pa_cons (pe_slice sl_list (pv 0) po_none (po_some pe_int)) pa_nil)) (pa_cons pe_int (pa_cons pe_int pa_nil)))))), ?_⟩
    walk_at "go"
    intro q nq
    generalize hu1 : upd _ q _ = H1
    obtain ⟨e1, hq⟩ := Vc.alloc hu1 nq
    walk_at "go"
    intro c nc
    generalize hu2 : upd _ c _ = H2
    obtain ⟨e2, hc⟩ := Vc.alloc hu2 nc
    rw [cut_ns hl] at hc
    walk_at "go"
    intro b nb
    generalize hu3 : upd _ b _ = H3
    obtain ⟨e3, hb⟩ := Vc.alloc hu3 nb
    exact k b c H3 (by walk_at "ed") ⟨ns, 0, 0, ⟨hb, e3.at0 hc, hl, by omega, by omega⟩, by omega⟩ (by walk_at "free") (by walk_at "free")
end

end My
namespace My
open PySem PySem.Spec PyProof.Rows L2
/-! ### prices -/
def prF (t : Addr) : List (Str × V) := [("counted", .ref t)]
def PrAt (A : Ad) (H : Hp) (p : Addr) (x y : Int) : Prop := ∃ dx t, H p = some (.ins A.C_Price dx (prF t)) ∧ H t = some (.tup [.int x, .int y])
theorem pr_cnt {t} : (prF t).lookup ("counted" : Str) = some (.ref t) := rfl
theorem PrAt.ed0 {A : Ad} {H H' : Hp} {p : Addr} {x y : Int} (e : Vc.Ed [] H H') (h : PrAt A H p x y) : PrAt A H' p x y := by
  obtain ⟨dx, t, h, g⟩ := h
  exact ⟨dx, t, e.at0 h, e.tup _ _ g⟩
theorem PrAt.ed1 {A : Ad} {H H' : Hp} {p q : Addr} {x y : Int} (n : p ≠ q) (e : Vc.Ed [q] H H') (h : PrAt A H p x y) : PrAt A H' p x y := by
  obtain ⟨dx, t, h, g⟩ := h
  exact ⟨dx, t, e.at1 n h, e.tup _ _ g⟩
def prText (x y : Int) : Str := Str.empty ++ Str.ofString (toString x) ++ " words, " ++ Str.ofString (toString y) ++ " writes"
def spPriceInit (A : Ad) : Sp := fun vs H Q _ => ∃ (p dx : Addr) (x y : Int), vs = [.ref p, .int x, .int y] ∧ H p = some (.ins A.C_Price dx []) ∧ ∀ H', Vc.Ed [p] H H' → PrAt A H' p x y → Q .non H'
def spPriceX (A : Ad) : Sp := fun vs H Q _ => ∃ (p : Addr) (x y : Int), vs = [.ref p] ∧ PrAt A H p x y ∧ Q (.int x) H
def spPriceY (A : Ad) : Sp := fun vs H Q _ => ∃ (p : Addr) (x y : Int), vs = [.ref p] ∧ PrAt A H p x y ∧ Q (.int y) H
def spUnder (A : Ad) : Sp := fun vs H Q _ => ∃ (p q : Addr) (x y z u : Int), vs = [.ref p, .ref q] ∧ PrAt A H p x y ∧ PrAt A H q z u ∧ Q (.bl (HT.lexLt [x, y] [z, u])) H
def spPriceAdd (A : Ad) : Sp := fun vs H Q _ => ∃ (p q : Addr) (x y z u : Int), vs = [.ref p, .ref q] ∧ PrAt A H p x y ∧ PrAt A H q z u ∧ ∀ r H', Vc.Ed [] H H' → H r = none → PrAt A H' r (x + z) (y + u) → Q (.ref r) H'
def spPriceEq (A : Ad) (K : PySem.W.Frag) : Sp := fun vs H Q _ => ∃ (p : Addr) (v : V) (x y : Int), vs = [.ref p, v] ∧ PrAt A H p x y ∧
  ((∃ q z u, v = .ref q ∧ PrAt A H q z u ∧ Q (.bl (decide ((x, y) = (z, u)))) H) ∨ (∃ t, TyX K H v (.type "tuple") ∧ t = V.bl false ∧ Q t H))
def spPriceStr (A : Ad) : Sp := fun vs H Q _ => ∃ (p : Addr) (x y : Int), vs = [.ref p] ∧ PrAt A H p x y ∧ x.natAbs < 10 ^ 40 ∧ y.natAbs < 10 ^ 40 ∧ Q (.str (prText x y)) H
section
variable {P : Program} {w : World} {K : PySem.W.Frag} {mg : Str → Option Value} {base : Heap} {A : Ad}
theorem ok_Priceu_initu (T : Txt K mg A) : FnOk P w K mg base CX0 1 A.f_Priceu_initu A.d_Priceu_initu ["self", "words", "writes"] (spPriceInit A) := by
  refine T.F_Priceu_initu.ok sc_Priceu_initu (fun vs H Q E h => ?_) (fun cdv Ar outer s H vs Q E hr h => ?_)
  · obtain ⟨p, dx, x, y, rfl, _⟩ := h
    rfl
  · obtain ⟨p, dx, x, y, rfl, hp, k⟩ := h
    have cl := T.cl_Price
    have no1 := T.no_Price_counted
    refine ⟨_, (pss_one (ps_fld (pv 0) (pe_tup (pa_cons (pv 1) (pa_cons (pv 2) pa_nil))) rfl)), ?_⟩
    walk_at "go"
    intro t nt
    generalize hu1 : upd _ t _ = H1
    obtain ⟨e1, ht⟩ := Vc.alloc hu1 nt
    walk_at "go"
    generalize hu2 : upd _ p _ = H2
    obtain ⟨e2, hp2⟩ := Vc.chg hu2 (e1.at0 hp)
    exact k _ ((e1.mono fun _ z => nomatch z).trans e2 fun _ z => .inl z) ⟨dx, t, hp2, e2.tup _ _ ht⟩
theorem ok_Price_words (T : Txt K mg A) : FnOk P w K mg base CX0 1 A.f_Price_words A.d_Price_words ["self"] (spPriceX A) := by
  refine T.F_Price_words.ok sc_Price_words (fun vs H Q E h => ?_) (fun cdv Ar outer s H vs Q E hr h => ?_)
  · obtain ⟨p, x, y, rfl, _⟩ := h
    rfl
  · obtain ⟨p, x, y, rfl, ⟨dx, t, hp, ht⟩, k⟩ := h
    have cl := T.cl_Price
    have no1 := T.no_Price_counted
    refine ⟨_, (pss_one (ps_ret (pe_ix ix_tup (pe_fld (pv 0) rfl) pe_int (fun _ _ => rfl)))), ?_⟩
    walk_at "go"
    exact k
theorem ok_Price_writes (T : Txt K mg A) : FnOk P w K mg base CX0 1 A.f_Price_writes A.d_Price_writes ["self"] (spPriceY A) := by
  refine T.F_Price_writes.ok sc_Price_writes (fun vs H Q E h => ?_) (fun cdv Ar outer s H vs Q E hr h => ?_)
  · obtain ⟨p, x, y, rfl, _⟩ := h
    rfl
  · obtain ⟨p, x, y, rfl, ⟨dx, t, hp, ht⟩, k⟩ := h
    have cl := T.cl_Price
    have no1 := T.no_Price_counted
    refine ⟨_, (pss_one (ps_ret (pe_ix ix_tup (pe_fld (pv 0) rfl) pe_int (fun _ _ => rfl)))), ?_⟩
    walk_at "go"
    exact k
theorem ok_Price_under (T : Txt K mg A) : FnOk P w K mg base CX0 1 A.f_Price_under A.d_Price_under ["self", "other"] (spUnder A) := by
  refine T.F_Price_under.ok sc_Price_under (fun vs H Q E h => ?_) (fun cdv Ar outer s H vs Q E hr h => ?_)
  · obtain ⟨p, q, x, y, z, u, rfl, _⟩ := h
    rfl
  · obtain ⟨p, q, x, y, z, u, rfl, ⟨dx, t, hp, ht⟩, ⟨dy, t', hq, ht'⟩, k⟩ := h
    have cl := T.cl_Price
    have no1 := T.no_Price_counted
    refine ⟨_, (pss_one (ps_ret (pe_cmpR (op_ltT (by exact hr.units0)) (pe_fld (pv 0) rfl) (pe_fld (pv 1) rfl) (nomark _)))), ?_⟩
    walk_at "go"
    exact ⟨t, t', [x, y], [z, u], rfl, rfl, Vc.sqt_of ht, Vc.sqt_of ht', k⟩
theorem ok_Priceu_addu (T : Txt K mg A) : FnOk P w K mg base CX0 3 A.f_Priceu_addu A.d_Priceu_addu ["self", "other"] (spPriceAdd A) := by
  have G_Priceu_initu := ok_Priceu_initu (P := P) (w := w) (base := base) T
  refine T.F_Priceu_addu.ok sc_Priceu_addu (fun vs H Q E h => ?_) (fun cdv Ar outer s H vs Q E hr h => ?_)
  · obtain ⟨p, q, x, y, z, u, rfl, _⟩ := h
    rfl
  · obtain ⟨p, q, x, y, z, u, rfl, ⟨dx, t, hp, ht⟩, ⟨dy, t', hq, ht'⟩, k⟩ := h
    have cl := T.cl_Price
    have no1 := T.no_Price_counted
    refine ⟨_, (pss_one (ps_ret (pe_make T.mk_Price G_Priceu_initu (by exact hr.mono (by decide)) (by rfl) T.g_Price T.b_Priceu_initu .nil pass0 (pa_cons (pe_op op_add (pe_ix ix_tup (pe_fld (pv 0) rfl) pe_int (fun _ _ => rfl)) (pe_ix ix_tup (pe_fld (pv 1) rfl) pe_int (fun _ _ => rfl))) (pa_cons (pe_op op_add (pe_ix ix_tup (pe_fld (pv 0) rfl) pe_int (fun _ _ => rfl)) (pe_ix ix_tup (pe_fld (pv 1) rfl) pe_int (fun _ _ => rfl))) pa_nil))))), ?_⟩
    walk_at "go"
    intro r rx nr nrx ne
    generalize hu1 : upd _ r _ = H1
    obtain ⟨e1, hr1, _⟩ := Vc.allocI hu1 nr nrx ne
    exact ⟨r, rx, _, _, rfl, hr1, fun H' e h => ⟨rfl, k _ _ (e1.one e (.inr nr)) nr h⟩⟩
theorem ok_Priceu_equ (T : Txt K mg A) : FnOk P w K mg base CX0 1 A.f_Priceu_equ A.d_Priceu_equ ["self", "other"] (spPriceEq A K) := by
  refine T.F_Priceu_equ.ok sc_Priceu_equ (fun vs H Q E h => ?_) (fun cdv Ar outer s H vs Q E hr h => ?_)
  · obtain ⟨p, v, x, y, rfl, _⟩ := h
    rfl
  · obtain ⟨p, v, x, y, rfl, ⟨dx, t, hp, ht⟩, k⟩ := h
    have cl := T.cl_Price
    have no1 := T.no_Price_counted
    refine ⟨_, (pss_cons (ps_if (pt_not (pt_val (pe_callB call_isi (by rfl) T.n_isinstance (by decide +kernel) (pa_cons (pv 1) (pa_cons (pe_glob (v := .ref A.C_Price) (by rfl) T.g_Price rfl) pa_nil))))) (pss_one (ps_ret pe_bl)) pss_nil) (pss_one (ps_ret (pe_cmpR (op_eqD (by exact hr.units)) (pe_fld (pv 0) rfl) (pe_fld (pv 1) rfl) (nomark _))))), ?_⟩
    walk_at "go"
    rcases k with ⟨q, z, u, rfl, ⟨dy, t', hq, ht'⟩, k⟩ | ⟨b, ty, rfl, k⟩
    · refine Vc.go_isiC (Vc.ty_ins hq T.ic_Price) T.ic_Price.me ?_
      walk_at "go"
      refine ⟨_, _, .tup (.of ht) (dp_ints [x, y]), .tup (.of ht') (dp_ints [z, u]), shp_tup _, shp_tup _, ?_⟩
      rw [eqv_tups]
      have : decide ([x, y] = [z, u]) = decide ((x, y) = (z, u)) := by simp
      rw [this]
      exact k
    · refine Vc.go_isiC ty T.kt_tuple_Price ?_
      walk_at "go"
      exact k
theorem ok_Priceu_stru (T : Txt K mg A) : FnOk P w K mg base CX0 1 A.f_Priceu_stru A.d_Priceu_stru ["self"] (spPriceStr A) := by
  refine T.F_Priceu_stru.ok sc_Priceu_stru (fun vs H Q E h => ?_) (fun cdv Ar outer s H vs Q E hr h => ?_)
  · obtain ⟨p, x, y, rfl, _⟩ := h
    rfl
  · obtain ⟨p, x, y, rfl, ⟨dx, t, hp, ht⟩, hx, hy, k⟩ := h
    have cl := T.cl_Price
    have no1 := T.no_Price_counted
    have lx := Vc.log10 hx (by decide)
    have ly := Vc.log10 hy (by decide)
    have zx := (Vc.int_sok (by decide) hx).len
    have zy := (Vc.int_sok (by decide) hy).len
    have a1 : (Str.empty ++ Str.ofString (toString x)).length ≤ 1000 := by rw [Vc.sapp_len]; show 0 + _ ≤ _; omega
    have a2 : (Str.empty ++ Str.ofString (toString x) ++ " words, " : Str).length ≤ 1000 := by rw [Vc.sapp_len, Vc.sapp_len]; show 0 + _ + 8 ≤ _; omega
    have a3 : (Str.empty ++ Str.ofString (toString x) ++ " words, " ++ Str.ofString (toString y) : Str).length ≤ 1000 := by rw [Vc.sapp_len, Vc.sapp_len, Vc.sapp_len]; show 0 + _ + 8 + _ ≤ _; omega
    have a4 : (Str.empty ++ Str.ofString (toString x) ++ " words, " ++ Str.ofString (toString y) ++ " writes" : Str).length ≤ 1000 := by rw [Vc.sapp_len, Vc.sapp_len, Vc.sapp_len, Vc.sapp_len]; show 0 + _ + 8 + _ + 7 ≤ _; omega
    refine ⟨_, (pss_one (ps_ret (pe_joined (PJ.cons (pe_fmt (pe_ix ix_tup (pe_fld (pv 0) rfl) pe_int (fun _ _ => rfl))) (PJ.cons pe_str (PJ.cons (pe_fmt (pe_ix ix_tup (pe_fld (pv 0) rfl) pe_int (fun _ _ => rfl))) (PJ.cons pe_str PJ.nil))))))), ?_⟩
    walk_at "go"
    exact k
end

end My
namespace My
open PySem PySem.Spec PyProof.Rows L2
/-! ### steps -/
inductive SD where
  | wr (at_ : Int) (vs : List Int)
  | sy
  | ps (s : Int)
deriving DecidableEq
def SD.shown : SD → List V
  | .wr a vs => .str "write" :: .int a :: vs.map V.int
  | .sy => [.str "sync"]
  | .ps s => [.str "pass", .int s]
def SD.D : SD → List PyData
  | .wr a vs => .str "write" :: .int a :: vs.map .int
  | .sy => [.str "sync"]
  | .ps s => [.str "pass", .int s]
def SD.cls (A : Ad) : SD → Addr
  | .wr _ _ => A.C_Write
  | .sy => A.C_Sync
  | .ps _ => A.C_Pass
def SD.fld (t v : Addr) : SD → List (Str × V)
  | .wr a _ => [("shown", .ref t), ("address", .int a), ("given", .ref v)]
  | .sy => [("shown", .ref t)]
  | .ps s => [("shown", .ref t), ("stretch", .int s)]
def SD.words : SD → Int
  | .wr _ _ => 0
  | _ => 1
def SD.writes : SD → Int
  | .wr _ _ => 1
  | _ => 0
def SD.vals : SD → List Int
  | .wr _ vs => vs
  | _ => []
structure StepAt (A : Ad) (H : Hp) (p : Addr) (d : SD) : Prop where
  ex : ∃ dx t v, H p = some (.ins (d.cls A) dx (d.fld t v)) ∧ H t = some (.tup d.shown) ∧ (∀ a vs, d = .wr a vs → H v = some (.tup (vs.map V.int)))
theorem StepAt.ed0 {A : Ad} {H H' : Hp} {p : Addr} {d : SD} (e : Vc.Ed [] H H') (h : StepAt A H p d) : StepAt A H' p d := by
  obtain ⟨dx, t, v, a, b, c⟩ := h.ex
  exact ⟨dx, t, v, e.at0 a, e.tup _ _ b, fun x vs z => e.tup _ _ (c x vs z)⟩
theorem StepAt.ed1 {A : Ad} {H H' : Hp} {p q : Addr} {d : SD} (n : p ≠ q) (e : Vc.Ed [q] H H') (h : StepAt A H p d) : StepAt A H' p d := by
  obtain ⟨dx, t, v, a, b, c⟩ := h.ex
  exact ⟨dx, t, v, e.at1 n a, e.tup _ _ b, fun x vs z => e.tup _ _ (c x vs z)⟩
/-- what the three kinds have in common -/
structure StepC (K : PySem.W.Frag) (A : Ad) (C : Addr) (x y : Int) : Prop where
  cl : Cls K C
  no : NoAttr K C "shown"
  pr : PropOf K C "price" A.pr_Step_price A.f_Step_price
  eq : Vc.EqM K C A.f_Stepu_equ
  ne : Vc.NeM K C A.f_Stepu_equ
  st : Vc.SpM K C A.f_Stepu_stru "__str__"
  wo : ∃ u, Con K C "WORDS" (.int x) u
  wr : ∃ u, Con K C "WRITES" (.int y) u
  ic : C8.InsC K C
  kt : PySem.W.kitOne K (.ref C) (.ref A.C_Step) = some true
theorem stepC {K : PySem.W.Frag} {mg : Str → Option Value} {A : Ad} (T : Txt K mg A) : ∀ d : SD, StepC K A (d.cls A) d.words d.writes
  | .wr _ _ => ⟨T.cl_Write, T.no_Write_shown, T.sp_Write_price, T.se_Write, T.sn_Write, T.ss_Write, T.sw_Write, T.sr_Write, T.ic_Write, T.kit_Write_Step⟩
  | .sy => ⟨T.cl_Sync, T.no_Sync_shown, T.sp_Sync_price, T.se_Sync, T.sn_Sync, T.ss_Sync, T.sw_Sync, T.sr_Sync, T.ic_Sync, T.kit_Sync_Step⟩
  | .ps _ => ⟨T.cl_Pass, T.no_Pass_shown, T.sp_Pass_price, T.se_Pass, T.sn_Pass, T.ss_Pass, T.sw_Pass, T.sr_Pass, T.ic_Pass, T.kit_Pass_Step⟩
theorem stepNf {K : PySem.W.Frag} {mg : Str → Option Value} {A : Ad} (T : Txt K mg A) : ∀ c d : SD, PySem.W.notFirst K (c.cls A) (.ref (d.cls A)) = true
  | .wr _ _, .wr _ _ => T.nf_Write_Write
  | .wr _ _, .sy => T.nf_Sync_Write
  | .wr _ _, .ps _ => T.nf_Pass_Write
  | .sy, .wr _ _ => T.nf_Write_Sync
  | .sy, .sy => T.nf_Sync_Sync
  | .sy, .ps _ => T.nf_Pass_Sync
  | .ps _, .wr _ _ => T.nf_Write_Pass
  | .ps _, .sy => T.nf_Sync_Pass
  | .ps _, .ps _ => T.nf_Pass_Pass
theorem fld_shown (t v : Addr) : ∀ d : SD, (d.fld t v).lookup ("shown" : Str) = some (.ref t)
  | .wr _ _ => rfl
  | .sy => rfl
  | .ps _ => rfl
theorem fld_wo (t v : Addr) : ∀ d : SD, (d.fld t v).lookup ("WORDS" : Str) = none
  | .wr _ _ => rfl
  | .sy => rfl
  | .ps _ => rfl
theorem fld_wr (t v : Addr) : ∀ d : SD, (d.fld t v).lookup ("WRITES" : Str) = none
  | .wr _ _ => rfl
  | .sy => rfl
  | .ps _ => rfl
theorem dp_sd {K : PySem.W.Frag} {H : Hp} : ∀ d : SD, DpAll K H d.shown d.D
  | .wr a vs => .cons (.str _) (.cons (.int _) (dp_ints vs))
  | .sy => .cons (.str _) .nil
  | .ps s => .cons (.str _) (.cons (.int _) .nil)
/-- the words of a step's text -/
def SD.ws : SD → List Str
  | .wr a vs => "write" :: Str.ofString (toString a) :: vs.map fun v : Int => Str.ofString (toString v)
  | .sy => ["sync"]
  | .ps s => ["pass", Str.ofString (toString s)]
def SD.text (d : SD) : Str := Txt.join " " d.ws
/-- small numbers -/
def SD.Sm : SD → Prop
  | .wr a vs => a.natAbs < 10 ^ 40 ∧ vs.length ≤ 20 ∧ ∀ v ∈ vs, v.natAbs < 10 ^ 40
  | .sy => True
  | .ps s => s.natAbs < 10 ^ 40
def spIsByte : Sp := fun vs H Q _ => ∃ n : Int, vs = [.int n] ∧ ∀ H', Vc.Ed [] H H' → Q (.bl (decide (0 ≤ n ∧ n ≤ 255))) H'
section
variable {P : Program} {w : World} {K : PySem.W.Frag} {mg : Str → Option Value} {base : Heap} {A : Ad}
theorem ok_is_byte (T : Txt K mg A) : FnOk P w K mg base CX0 1 A.f_is_byte A.d_is_byte ["value"] spIsByte := by
  refine T.F_is_byte.ok sc_is_byte (fun vs H Q E h => ?_) (fun cdv Ar outer s H vs Q E hr h => ?_)
  · obtain ⟨n, rfl, _⟩ := h
    rfl
  · obtain ⟨n, rfl, k⟩ := h
    refine ⟨_, (pss_one (ps_ret (pe_and (pe_callB call_isi (by rfl) T.n_isinstance (by decide +kernel) (pa_cons (pv 0) (pa_cons (pe_bltn (v := .ty "int") (by rfl) T.n_int (by decide +kernel) rfl) pa_nil))) (pe_and (pe_not (pe_callB call_isi (by rfl) T.n_isinstance (by decide +kernel) (pa_cons (pv 0) (pa_cons (pe_bltn (v := .ty "bool") (by rfl) T.n_bool (by decide +kernel) rfl) pa_nil)))) (pe_one (pe_chain op_le op_le pe_int (pv 0) pe_int)))))), ?_⟩
    walk_at "go"
    refine Vc.go_ite (fun h1 => ?_) (fun h1 => ?_)
    · walk_at "go"
      have e : decide (0 ≤ n ∧ n ≤ 255) = decide (n ≤ 255) := by rw [Bool.eq_iff_iff]; simp [h1]
      have := k H Vc.Ed.refl
      rw [e] at this
      exact this
    · have e : decide (0 ≤ n ∧ n ≤ 255) = false := decide_eq_false (by omega)
      have := k H Vc.Ed.refl
      rw [e] at this
      exact this
end
theorem findIdx_at {α : Type} {f : α → Bool} : ∀ {xs : List α} {i : Nat} {x : α}, xs[i]? = some x → (∀ y ∈ xs.take i, f y = false) → f x = true → xs.findIdx? f = some i
  | [], _, _, h, _, _ => nomatch h
  | a :: xs, 0, x, h, _, hx => by
    have : a = x := Option.some.inj h
    subst this
    rw [List.findIdx?_cons, hx]; rfl
  | a :: xs, i + 1, x, h, hall, hx => by
    have ha : f a = false := hall a List.mem_cons_self
    rw [List.findIdx?_cons, ha, findIdx_at (xs := xs) (i := i) (by simpa using h) (fun y hy => hall y (by rw [List.take_succ_cons]; exact List.mem_cons_of_mem _ hy)) hx]; rfl
theorem findIdx_none {α : Type} {f : α → Bool} {xs : List α} (h : ∀ y ∈ xs, f y = false) : xs.findIdx? f = none :=
  List.findIdx?_eq_none_iff.mpr h
theorem walk_enumT {K : PySem.W.Frag} {a : Addr} {xs : List V} : Walk (Vc.IteT K a) xs.length (fun H => SqT K H a xs) (YPair (fun i => some (.int (i : Nat))) (fun i => xs[i]?)) := by
  refine ⟨fun i _ hi q => ⟨xs, xs[i], q, by simp [hi]⟩, fun _ q => ⟨xs, q, Nat.le_refl _⟩, fun i H v H' _ q y => ?_⟩
  obtain ⟨T, x, h1, h2, h3, h4⟩ := y
  exact ⟨T, .int (i : Nat), x, h1, h2, h3, rfl, h4 xs q⟩

theorem take_suc {α : Type} {xs : List α} {i : Nat} {x : α} (h : xs[i]? = some x) : xs.take (i + 1) = xs.take i ++ [x] := by
  rw [List.take_add_one, h]; rfl
def notByte (n : Int) : Bool := !decide (0 ≤ n ∧ n ≤ 255)
/-- what may be said against a write: true: its address, false: the index of a value -/
def wrErr (a : Int) (ns : List Int) : Option (Bool × Int) := if a < 0 ∨ 23 < a then some (true, a) else (ns.findIdx? notByte).map fun j : Nat => (false, (j : Int))
theorem pl_sd : ∀ d : SD, Pl 1 (.tuple d.D)
  | .wr a vs => pl_tup fun x hx => by
    rcases List.mem_cons.mp hx with rfl | hx
    · exact pl_str (by decide +kernel)
    · rcases List.mem_cons.mp hx with rfl | hx
      · exact pl_int _
      · exact pl_ints vs x hx
  | .sy => pl_tup fun x hx => by
    rw [List.mem_singleton.mp hx]
    exact pl_str (by decide +kernel)
  | .ps s => pl_tup fun x hx => by
    rcases List.mem_cons.mp hx with rfl | hx
    · exact pl_str (by decide +kernel)
    · rw [List.mem_singleton.mp hx]
      exact pl_int _
theorem sd_ne1 : ("write" : Str) ≠ "sync" := by decide +kernel
theorem sd_ne2 : ("write" : Str) ≠ "pass" := by decide +kernel
theorem sd_ne3 : ("sync" : Str) ≠ "pass" := by decide +kernel
theorem sd_inj : ∀ d e : SD, PyData.tuple d.D = .tuple e.D ↔ d = e
  | .wr a vs, .wr b us => by simp [SD.D, ints_inj]
  | .wr a vs, .sy => by simp [SD.D]
  | .wr a vs, .ps s => by simp [SD.D, sd_ne2]
  | .sy, .wr b us => by simp [SD.D]
  | .sy, .sy => by simp
  | .sy, .ps s => by simp [SD.D]
  | .ps s, .wr b us => by simp [SD.D, sd_ne2.symm]
  | .ps s, .sy => by simp [SD.D]
  | .ps s, .ps s' => by simp [SD.D]
theorem sd_len : ∀ d : SD, d.ws.length = d.shown.length
  | .wr a vs => by simp [SD.ws, SD.shown]
  | .sy => rfl
  | .ps s => rfl
theorem sd_22 : ∀ d : SD, d.Sm → d.shown.length ≤ 22
  | .wr a vs, h => by have := h.2.1; simp [SD.shown]; omega
  | .sy, _ => by decide
  | .ps s, _ => by show 2 ≤ 22; decide
theorem sd_at {d : SD} (sm : d.Sm) {i : Nat} {x : V} (h : d.shown[i]? = some x) : ∃ z, d.ws[i]? = some z ∧ (x = .str z ∨ ∃ n : Int, x = .int n ∧ z = Str.ofString (toString n) ∧ n.natAbs < 10 ^ 40) := by
  match d, sm, i, h with
  | .wr a vs, sm, 0, h => exact ⟨_, rfl, .inl (Option.some.inj h).symm⟩
  | .wr a vs, sm, 1, h => exact ⟨_, rfl, .inr ⟨a, (Option.some.inj h).symm, rfl, sm.1⟩⟩
  | .wr a vs, sm, i + 2, h =>
    have h : (vs.map V.int)[i]? = some x := h
    rw [List.getElem?_map] at h
    obtain ⟨n, hn, rfl⟩ := Option.map_eq_some_iff.mp h
    refine ⟨Str.ofString (toString n), ?_, .inr ⟨n, rfl, rfl, sm.2.2 n (List.mem_of_getElem? hn)⟩⟩
    show (vs.map fun v : Int => Str.ofString (toString v))[i]? = _
    rw [List.getElem?_map, hn]; rfl
  | .sy, sm, 0, h => exact ⟨_, rfl, .inl (Option.some.inj h).symm⟩
  | .ps s, sm, 0, h => exact ⟨_, rfl, .inl (Option.some.inj h).symm⟩
  | .ps s, sm, 1, h => exact ⟨_, rfl, .inr ⟨s, (Option.some.inj h).symm, rfl, sm⟩⟩
theorem sd_w : ∀ {d : SD}, d.Sm → ∀ z ∈ d.ws, Vc.SOk z 41
  | .wr a vs, sm, z, h => by
    rcases List.mem_cons.mp h with rfl | h
    · exact ⟨by decide +kernel, by decide +kernel⟩
    rcases List.mem_cons.mp h with rfl | h
    · exact Vc.int_sok (by decide) sm.1
    · obtain ⟨n, hn, rfl⟩ := List.mem_map.mp h
      exact Vc.int_sok (by decide) (sm.2.2 n hn)
  | .sy, _, z, h => by rw [List.mem_singleton.mp h]; exact ⟨by decide +kernel, by decide +kernel⟩
  | .ps s, sm, z, h => by
    rcases List.mem_cons.mp h with rfl | h
    · exact ⟨by decide +kernel, by decide +kernel⟩
    · rw [List.mem_singleton.mp h]; exact Vc.int_sok (by decide) sm
theorem sum_le {ys : List Str} {n : Nat} (h : ∀ z ∈ ys, z.length ≤ n) : (ys.map (·.length)).sum ≤ ys.length * n := by
  induction ys with
  | nil => exact Nat.zero_le _
  | cons y r ih =>
    rw [List.map_cons, List.sum_cons, List.length_cons, Nat.add_mul, Nat.one_mul]
    have := h y List.mem_cons_self
    have := ih fun z hz => h z (List.mem_cons_of_mem _ hz)
    omega
theorem go_join2 {K : PySem.W.Frag} {H : Hp} {p : Addr} {ys : List Str} {R : Str → List Str → Prop} (e : SqL K H p (ys.map V.str)) (h : ∀ z ∈ ys, z.length ≤ 1000) (l : ys.length ≤ 1000) (q : R " " ys) : ∃ a q ys, V.str (" " : Str) = .str a ∧ [V.ref p] = [.ref q] ∧ (SqL K H q (ys.map V.str) ∨ SqT K H q (ys.map V.str)) ∧ (ys.map (·.length)).sum + ys.length * a.length ≤ 16777216 ∧ R a ys :=
  ⟨" ", p, ys, rfl, rfl, .inl e, by
    have := sum_le h
    have e1 : (" " : Str).length = 1 := by decide +kernel
    rw [e1]
    have : ys.length * 1000 ≤ 1000 * 1000 := Nat.mul_le_mul_right _ l
    omega, q⟩
def spStepInit (K : PySem.W.Frag) : Sp := fun vs H Q _ => ∃ (p C dx t : Addr), vs = [.ref p, .ref t] ∧ H p = some (.ins C dx []) ∧ Cls K C ∧ NoAttr K C "shown" ∧ ∀ H', Vc.Ed [p] H H' → H' p = some (.ins C dx [("shown", .ref t)]) → Q .non H'
def spStepPrice (A : Ad) : Sp := fun vs H Q _ => ∃ (p : Addr) (d : SD), vs = [.ref p] ∧ StepAt A H p d ∧ ∀ r H', Vc.Ed [] H H' → H r = none → PrAt A H' r d.words d.writes → Q (.ref r) H'
def spStepEq (A : Ad) (K : PySem.W.Frag) : Sp := fun vs H Q _ => ∃ (p : Addr) (v : V) (d : SD), vs = [.ref p, v] ∧ StepAt A H p d ∧
  ((∃ q e, v = .ref q ∧ StepAt A H q e ∧ Q (.bl (decide (d = e))) H) ∨ (∃ t, TyX K H v t ∧ PySem.W.kitOne K t (.ref A.C_Step) = some false ∧ Q (.bl false) H))
def spStepStr (A : Ad) : Sp := fun vs H Q _ => ∃ (p : Addr) (d : SD), vs = [.ref p] ∧ StepAt A H p d ∧ d.Sm ∧ ∀ H', Vc.Ed [] H H' → Q (.str d.text) H'
def spWrite (A : Ad) : Sp := fun vs H Q E => ∃ (p dx v : Addr) (a : Int) (ns : List Int), vs = [.ref p, .int a, .ref v] ∧ H p = some (.ins A.C_Write dx []) ∧ H v = some (.tup (ns.map V.int)) ∧ ns.length ≤ 20 ∧
  (∀ b i, wrErr a ns = some (b, i) → ∀ d H', Vc.Ed [] H H' → H' d = some (.xd [("at", .int i)]) → E (.ref (if b = true then A.C_BadAddress else A.C_BadByte)) (some d) H') ∧
  (wrErr a ns = none → ∀ H', Vc.Ed [p] H H' → StepAt A H' p (.wr a ns) → Q .non H')
def spSync (A : Ad) : Sp := fun vs H Q _ => ∃ (p dx : Addr), vs = [.ref p] ∧ H p = some (.ins A.C_Sync dx []) ∧ ∀ H', Vc.Ed [p] H H' → StepAt A H' p .sy → Q .non H'
def spPass (A : Ad) : Sp := fun vs H Q _ => ∃ (p dx : Addr) (s : Int), vs = [.ref p, .int s] ∧ H p = some (.ins A.C_Pass dx []) ∧ ∀ H', Vc.Ed [p] H H' → StepAt A H' p (.ps s) → Q .non H'
section
variable {P : Program} {w : World} {K : PySem.W.Frag} {mg : Str → Option Value} {base : Heap} {A : Ad}
theorem ok_Stepu_initu (T : Txt K mg A) : FnR P w K mg base CX0 1 A.f_Stepu_initu (Vc.spV 1 (spStepInit K)) := by
  refine Vc.Fun.okVX StX.cxUp_none T.F_Stepu_initu T.b_Stepu_initu sc_Stepu_initu (fun cdv Ar outer s H vs Q E hr h => ?_)
  obtain ⟨p, C, dx, t, rfl, hp, cl, no, k⟩ := h
  refine ⟨_, (pss_one (ps_fld (pv 0) (pv 1) rfl)), ?_⟩
  walk_at "go"
  generalize hu2 : upd _ p _ = H2
  obtain ⟨e2, hp2⟩ := Vc.chg hu2 hp
  exact k _ e2 hp2
theorem ok_Step_price (T : Txt K mg A) : FnOk P w K mg base CX0 3 A.f_Step_price A.d_Step_price ["self"] (spStepPrice A) := by
  have G_Priceu_initu := ok_Priceu_initu (P := P) (w := w) (base := base) T
  refine T.F_Step_price.ok sc_Step_price (fun vs H Q E h => ?_) (fun cdv Ar outer s H vs Q E hr h => ?_)
  · obtain ⟨p, d, rfl, _⟩ := h
    rfl
  · obtain ⟨p, d, rfl, hS, k⟩ := h
    obtain ⟨dx, t, v, hp, ht, hv⟩ := hS.ex
    have C := stepC T d
    obtain ⟨u, hu⟩ := C.wo
    obtain ⟨u2, hu2⟩ := C.wr
    refine ⟨_, (pss_one (ps_ret (pe_make T.mk_Price G_Priceu_initu (by exact hr.mono (by decide)) (by rfl) T.g_Price T.b_Priceu_initu .nil pass0 (pa_cons (pe_con (pv 0) rfl) (pa_cons (pe_con (pv 0) rfl) pa_nil))))), ?_⟩
    walk_at "go"
    refine ⟨_, rfl, p, _, dx, _, _, u, rfl, hp, C.cl, hu, fld_wo t v d, ?_⟩
    walk_at "go"
    refine ⟨_, rfl, p, _, dx, _, _, u2, rfl, hp, C.cl, hu2, fld_wr t v d, ?_⟩
    walk_at "go"
    intro r rx nr nrx ne
    generalize hu1 : upd _ r _ = H1
    obtain ⟨e1, hr1, _⟩ := Vc.allocI hu1 nr nrx ne
    exact ⟨r, rx, _, _, rfl, hr1, fun H' e h => ⟨rfl, k _ _ (e1.one e (.inr nr)) nr h⟩⟩
theorem ok_Stepu_equ (T : Txt K mg A) : FnOk P w K mg base CX0 1 A.f_Stepu_equ A.d_Stepu_equ ["self", "other"] (spStepEq A K) := by
  refine T.F_Stepu_equ.ok sc_Stepu_equ (fun vs H Q E h => ?_) (fun cdv Ar outer s H vs Q E hr h => ?_)
  · obtain ⟨p, v, d, rfl, _⟩ := h
    rfl
  · obtain ⟨p, v, d, rfl, hS, k⟩ := h
    obtain ⟨dx, t, v1, hp, ht, hv⟩ := hS.ex
    have C := stepC T d
    have cl := C.cl
    have no := C.no
    have l1 := fld_shown t v1 d
    refine ⟨_, (pss_cons (ps_if (pt_not (pt_val (pe_callB call_isi (by rfl) T.n_isinstance (by decide +kernel) (pa_cons (pv 1) (pa_cons (pe_glob (v := .ref A.C_Step) (by rfl) T.g_Step rfl) pa_nil))))) (pss_one (ps_ret pe_bl)) pss_nil) (pss_one (ps_ret (pe_cmpR (op_eqD (by exact hr.units)) (pe_fld (pv 0) rfl) (pe_fld (pv 1) rfl) (nomark _))))), ?_⟩
    walk_at "go"
    rcases k with ⟨q, e, rfl, hS2, k⟩ | ⟨b, ty, kt, k⟩
    · obtain ⟨dy, t', v2, hq, ht', hv'⟩ := hS2.ex
      have C2 := stepC T e
      have cl2 := C2.cl
      have no2 := C2.no
      have l2 := fld_shown t' v2 e
      refine Vc.go_isiC (Vc.ty_ins hq C2.ic) C2.kt ?_
      walk_at "go"
      exact go_eqPl (.tup (.of ht) (dp_sd d)) (.tup (.of ht') (dp_sd e)) (pl_sd d) (pl_sd e) (by decide) (sd_inj d e) k
    · refine Vc.go_isiC ty kt ?_
      walk_at "go"
      exact k
theorem ok_Stepu_stru (T : Txt K mg A) : FnOk P w K mg base CX0 1 A.f_Stepu_stru A.d_Stepu_stru ["self"] (spStepStr A) := by
  refine T.F_Stepu_stru.ok sc_Stepu_stru (fun vs H Q E h => ?_) (fun cdv Ar outer s H vs Q E hr h => ?_)
  · obtain ⟨p, d, rfl, _⟩ := h
    rfl
  · obtain ⟨p, d, rfl, hS, sm, k⟩ := h
    obtain ⟨dx, t, v1, hp, ht, hv⟩ := hS.ex
    have C := stepC T d
    have cl := C.cl
    have no := C.no
    have l1 := fld_shown t v1 d
    refine ⟨_, (pss_one (ps_ret (pe_join pe_str (pe_lc (own := [("part", 1)]) (g := gName 1) rfl sc_Stepu_stru.nd (pi_tup (pe_fld (pv 0) rfl)) (blkOk_by (own := [("part", 1)]) (N := ["self", "part"]) (sc := defScope s_Stepu_stru) (by decide +kernel)) (fun _ _ _ _ _ => by exact (pg_name (i := 1) sc_Stepu_stru.nd rfl (Or.inl rfl))) (fun _ _ _ _ _ => by exact pts_nil) (fun _ _ _ _ _ => by (refine' Vc.blkE ?h ?q; (case h => exact (pe_callTy (Vc.call_or SkE.call_str_str call_str_int) (by rfl) T.n_str (by decide +kernel) (pa_cons (pv 1) pa_nil))); (case q => first | exact rfl | (dsimp only; done) | (dsimp only; exact rfl)))))))), ?_⟩
    walk_at "go"
    refine ⟨⟨_, .of ht⟩, Vc.lc_by (walk_tup (xs := d.shown)) (fun D i H' => Vc.Ed [] H H' ∧ H' D = some (.lst ((d.ws.take i).map V.str))) (fun D H1 nD e1 hD => ⟨e1, hD⟩) (fun D i H' _ _ q => .of (q.1.tup _ _ ht)) (fun D i x H1 H2 nD hi q y => ?_) fun D H1 nD q => ?_⟩
    · obtain ⟨rfl, hx⟩ := y
      obtain ⟨e1, hD⟩ := q
      obtain ⟨z, hz, hx⟩ := sd_at sm hx
      have fin : d.ws.take i ++ [z] = d.ws.take (i + 1) := (take_suc hz).symm
      walk_at "go"
      refine ⟨rfl, ?_⟩
      walk_at "go"
      have small : ((d.ws.take i).map V.str).length < sizeLine := small1000 (by rw [List.length_map]; have := List.length_take_le i d.ws; have := sd_len d; have := sd_22 d sm; omega)
      have fin2 : ∀ H5, upd H2 D (.lst ((d.ws.take i).map V.str ++ [.str z])) = H5 → Vc.Ed [] H H5 ∧ H5 D = some (.lst ((d.ws.take (i + 1)).map V.str)) := fun H5 hu5 => by
        obtain ⟨e5, hD5⟩ := Vc.chg hu5 hD
        exact ⟨e1.one e5 (.inr nD), by rw [hD5, ← fin, List.map_append]; rfl⟩
      rcases hx with rfl | ⟨n, rfl, rfl, hn⟩
      · exact .inl ⟨z, rfl, _, hD, small, fin2 _ rfl⟩
      · exact .inr ⟨n, rfl, Vc.log10 hn (by decide), _, hD, small, fin2 _ rfl⟩
    · obtain ⟨e1, hD⟩ := q
      rw [← sd_len, List.take_of_length_le (Nat.le_refl _)] at hD
      walk_at "go"
      refine go_join2 (.of hD) (fun z hz => Nat.le_trans (sd_w sm z hz).len (by decide)) (by have := sd_22 d sm; have := sd_len d; omega) ?_
      walk_at "go"
      exact k _ e1
theorem ok_Syncu_initu {A : Ad} (T : Txt K mg A) : FnOk PG w K mg base CX0 2 A.f_Syncu_initu A.d_Syncu_initu ["self"] (spSync A) := by
  have G_Stepu_initu := ok_Stepu_initu (P := PG) (w := w) (base := base) T
  refine T.F_Syncu_initu.ok sc_Syncu_initu (fun vs H Q E h => ?_) (fun cda cc Ar outer s H vs Q E hSF hr h => ?_)
  · obtain ⟨p, dx, rfl, _⟩ := h
    rfl
  · obtain ⟨p, dx, rfl, hp, k⟩ := h
    refine ⟨_, (Vc.psa_super sc_Syncu_initu hSF G_Stepu_initu (by exact hr.mono (by decide)) pass0 rfl rfl (pa_cons pe_str pa_nil) (Vc.psa_of pss_nil) rfl rfl rfl rfl rfl), ?_⟩
    refine ⟨p, dx, [], rfl, hp, fun q nq => ?_⟩
    generalize hu1 : upd _ q _ = H1
    obtain ⟨e1, hq⟩ := Vc.alloc hu1 nq
    walk_at "go"
    refine ⟨hq, [.ref p], [.str "sync"], rfl, rfl, by show 1 ≤ sizeLine; decide, fun t nt => ?_⟩
    generalize hu2 : upd _ t _ = H2
    obtain ⟨e2, ht⟩ := Vc.alloc hu2 nt
    have hp2 := e2.at0 (e1.at0 hp)
    refine ⟨p, _, dx, t, rfl, hp2, T.cl_Sync, T.no_Sync_shown, fun H3 e3 hp3 => ?_⟩
    walk_at "go"
    have e13 := ((e1.ex e2).mono (fun _ z => nomatch z) : Vc.Ed [p] _ _).trans e3 fun _ z => .inl z
    exact k _ e13 ⟨dx, t, t, hp3, e3.tup _ _ ht, fun _ _ z => nomatch z⟩
theorem ok_Passu_initu {A : Ad} (T : Txt K mg A) : FnOk PG w K mg base CX0 2 A.f_Passu_initu A.d_Passu_initu ["self", "stretch"] (spPass A) := by
  have G_Stepu_initu := ok_Stepu_initu (P := PG) (w := w) (base := base) T
  refine T.F_Passu_initu.ok sc_Passu_initu (fun vs H Q E h => ?_) (fun cda cc Ar outer s H vs Q E hSF hr h => ?_)
  · obtain ⟨p, dx, s, rfl, _⟩ := h
    rfl
  · obtain ⟨p, dx, s, rfl, hp, k⟩ := h
    have cl := T.cl_Pass
    have no := T.no_Pass_stretch
    refine ⟨_, (Vc.psa_super sc_Passu_initu hSF G_Stepu_initu (by exact hr.mono (by decide)) pass0 rfl rfl (pa_cons pe_str (pa_cons (pv 1) pa_nil)) (Vc.psa_of (pss_one (ps_fld (pv 0) (pv 1) rfl))) rfl rfl rfl rfl rfl), ?_⟩
    refine ⟨p, dx, [], rfl, hp, fun q nq => ?_⟩
    generalize hu1 : upd _ q _ = H1
    obtain ⟨e1, hq⟩ := Vc.alloc hu1 nq
    walk_at "go"
    refine ⟨hq, [.ref p], [.str "pass", .int s], rfl, rfl, by show 2 ≤ sizeLine; decide, fun t nt => ?_⟩
    generalize hu2 : upd _ t _ = H2
    obtain ⟨e2, ht⟩ := Vc.alloc hu2 nt
    have hp2 := e2.at0 (e1.at0 hp)
    refine ⟨p, _, dx, t, rfl, hp2, T.cl_Pass, T.no_Pass_shown, fun H3 e3 hp3 => ?_⟩
    walk_at "go"
    generalize hu4 : upd _ p _ = H4
    obtain ⟨e4, hp4⟩ := Vc.chg hu4 hp3
    have e14 := (((e1.ex e2).mono (fun _ z => nomatch z) : Vc.Ed [p] _ _).trans e3 fun _ z => .inl z).trans e4 fun _ z => .inl z
    exact k _ e14 ⟨dx, t, t, hp4, e4.tup _ _ (e3.tup _ _ ht), fun _ _ z => nomatch z⟩
theorem ok_Writeu_initu {A : Ad} (T : Txt K mg A) : FnR PG w K mg base (CX PG w) 4 A.f_Writeu_initu (Vc.spV 2 (spWrite A)) := by
  have G_Stepu_initu := ok_Stepu_initu (P := PG) (w := w) (base := base) T
  have G_is_byte := ok_is_byte (P := PG) (w := w) (base := base) T
  have G_BadAddressu_initu := ok_BadAddressu_initu (w := w) (base := base) T
  have G_BadByteu_initu := ok_BadByteu_initu (w := w) (base := base) T
  obtain ⟨_, gc_MOST_ADDRESS⟩ := T.g_MOST_ADDRESS
  refine T.F_Writeu_initu.okV T.b_Writeu_initu sc_Writeu_initu (fun cda cc Ar outer s H vs Q E hSF hr h => ?_)
  obtain ⟨p, dx, v, a, ns, rfl, hp, hv, l20, kE, kQ⟩ := h
  have cl := T.cl_Write
  have no := T.no_Write_address
  have no2 := T.no_Write_given
  refine ⟨_, (Vc.psa_cons (ps_if (PW.pt (pw_or (pt_cmpR op_lt (pv 1) pe_int (nomark _)) (pw_or1 (pt_cmpR op_gt (pv 1) (pe_glob (v := .int 23) (by rfl) gc_MOST_ADDRESS ⟨_, rfl⟩) (nomark _))))) (pss_one (Vc.ps_raiseT rfl (takes_of rfl rfl rfl rfl) (pmk_oex T.ox_BadAddress T.i_BadAddress T.ti_BadAddress G_BadAddressu_initu (by exact hr.mono (by decide)) T.b_BadAddressu_initu .nil pass0 (by rfl) T.g_BadAddress (pa_cons (pv 1) pa_nil)))) pss_nil) (Vc.psa_cons (ps_for (passes_of rfl) rfl (Vc.pi_enumT (by rfl) T.n_enumerate (pa_cons (pv 2) pa_nil)) (pg_tup rfl (pgs_cons (pg_name (i := 3) sc_Writeu_initu.nd rfl (Or.inl rfl)) (pgs_cons (pg_name (i := 4) sc_Writeu_initu.nd rfl (Or.inl rfl)) pgs_nil))) (pss_one (ps_if (pt_not (pt_val (pe_call G_is_byte (by exact hr.mono (by decide)) (by rfl) T.g_is_byte T.F_is_byte.kp T.b_is_byte .nil pass0 (pa_cons (pv 4) pa_nil)))) (pss_one (Vc.ps_raiseT rfl (takes_of rfl rfl rfl rfl) (pmk_oex T.ox_BadByte T.i_BadByte T.ti_BadByte G_BadByteu_initu (by exact hr.mono (by decide)) T.b_BadByteu_initu .nil pass0 (by rfl) T.g_BadByte (pa_cons (pv 3) pa_nil)))) pss_nil))) (Vc.psa_superS sc_Writeu_initu hSF G_Stepu_initu (by exact hr.mono (by decide)) pass0 rfl rfl (pa_cons pe_str (pa_cons (pv 1) (Vc.pa_starK (K := K) rfl (pv 2) pa_nil (by rfl)))) (Vc.psa_of (pss_cons (ps_fld (pv 0) (pv 1) rfl) (pss_one (ps_fld (pv 0) (pv 2) rfl)))) rfl rfl rfl rfl rfl))), ?_⟩
  walk_at "go"
  have bad1 : (a < 0 ∨ 23 < a) → ∀ d H', H d = none → Vc.Ed [] H H' → H' d = some (.xd [("at", .int a)]) → E (.ref A.C_BadAddress) (some d) H' := fun g d H' _ e2 h => kE true a (by unfold wrErr; rw [if_pos g]) d H' e2 h
  refine Vc.go_ite (fun h1 => ?_) (fun h1 => ?_)
  · walk_at "go"
    exact bad1 (.inl h1)
  walk_at "go"
  refine Vc.go_ite (fun h2 => ?_) (fun h2 => ?_)
  · walk_at "go"
    exact bad1 (.inr h2)
  walk_at "go"
  refine Vc.go_iEnumT ?_
  walk_at "go"
  refine ⟨v, _, rfl, .of hv, for_it (walk_enumT (xs := ns.map V.int)) (fun i σ H' => ∃ y z : Option V, σ = [some (.ref p), some (.int a), some (.ref v), y, z] ∧ Vc.Ed [] H H' ∧ ∀ x ∈ ns.take i, notByte x = false) ⟨_, _, rfl, .refl, fun c h => nomatch h⟩ (fun i σ' H' _ h => (by obtain ⟨_, _, _, e, _⟩ := h; exact .of (e.tup _ _ hv))) (fun i u σ' H5 H6 hi hp1 hy => ?_) fun σ' H5 hp1 => ?_⟩
  · obtain ⟨y, z, rfl, e5, hall⟩ := hp1
    obtain ⟨t, a', b, rfl, nt, q, ha, hbx⟩ := hy
    subst q
    cases ha
    have hbx : (ns.map V.int)[i]? = some b := hbx
    rw [List.getElem?_map] at hbx
    obtain ⟨n, hn, rfl⟩ := Option.map_eq_some_iff.mp hbx
    generalize hu6 : upd _ t _ = H6
    obtain ⟨e6, ht6⟩ := Vc.alloc hu6 nt
    refine ⟨t, _, rfl, .of ht6, rfl, _, _, rfl, ?_⟩
    walk_at "go"
    refine ⟨_, _, rfl, ?_⟩
    walk_at "go"
    refine ⟨rfl, ?_⟩
    walk_at "go"
    refine ⟨n, rfl, fun H7 e7 => ?_⟩
    have e07 := (e5.ex e6).ex e7
    by_cases hb : 0 ≤ n ∧ n ≤ 255
    · rw [decide_eq_true hb]
      walk_at "go"
      refine ⟨_, _, rfl, e07, fun x hx => ?_⟩
      rw [take_suc hn] at hx
      rcases List.mem_append.mp hx with hx | hx
      · exact hall x hx
      · rw [List.mem_singleton.mp hx]; unfold notByte; rw [decide_eq_true hb]; rfl
    · rw [decide_eq_false hb]
      walk_at "go"
      intro d H8 _ e8 hd
      refine kE false (i : Nat) ?_ d H8 (e07.ex e8) hd
      unfold wrErr
      rw [if_neg (by omega), findIdx_at hn hall (by unfold notByte; rw [decide_eq_false hb]; rfl)]
      rfl
  · obtain ⟨y, z, rfl, e5, hall⟩ := hp1
    have nob : wrErr a ns = none := by
      unfold wrErr
      rw [List.length_map, List.take_of_length_le (Nat.le_refl _)] at hall
      rw [if_neg (by omega), findIdx_none hall]
      rfl
    have hp5 := e5.at0 hp
    refine ⟨p, dx, [], rfl, hp5, fun q nq => ?_⟩
    generalize hu1 : upd _ q _ = H1
    obtain ⟨e1, hq⟩ := Vc.alloc hu1 nq
    walk_at "go"
    refine Vc.go_star ?_
    walk_at "go"
    refine ⟨v, _, rfl, .inl (.of (e1.tup _ _ (e5.tup _ _ hv))), ?_⟩
    walk_at "go"
    refine ⟨hq, [.ref p], .str "write" :: .int a :: (ns.map V.int ++ []), rfl, rfl, by rw [List.append_nil, List.length_cons, List.length_cons, List.length_map]; exact Nat.le_of_lt (small1000 (by omega)), fun t nt => ?_⟩
    rw [List.append_nil]
    generalize hu2 : upd _ t _ = H2
    obtain ⟨e2, ht⟩ := Vc.alloc hu2 nt
    have hp2 := e2.at0 (e1.at0 hp5)
    have hv2 := e2.tup _ _ (e1.tup _ _ (e5.tup _ _ hv))
    refine ⟨p, _, dx, t, rfl, hp2, T.cl_Write, T.no_Write_shown, fun H3 e3 hp3 => ?_⟩
    walk_at "go"
    generalize hu4 : upd _ p _ = H4
    obtain ⟨e4, hp4⟩ := Vc.chg hu4 hp3
    walk_at "go"
    generalize hu6 : upd _ p _ = H6
    obtain ⟨e6, hp6⟩ := Vc.chg hu6 hp4
    have e16 := (((((e5.ex e1).ex e2).mono (fun _ z => nomatch z) : Vc.Ed [p] _ _).trans e3 fun _ z => .inl z).trans e4 fun _ z => .inl z).trans e6 fun _ z => .inl z
    refine kQ nob _ e16 ⟨dx, t, v, hp6, e6.tup _ _ (e4.tup _ _ (e3.tup _ _ ht)), fun x vs z => ?_⟩
    cases z
    exact e6.tup _ _ (e4.tup _ _ (e3.tup _ _ hv2))
end

end My
namespace My
open PySem PySem.Spec PyProof.Rows L2
def gkb_Price_under_1_other {α : Type} (us ws : List α) : List α := match us, ws with
  | [u0], [w0] => [u0, w0]
  | _, _ => []
theorem kb_Price_under_1_other {K : PySem.W.Frag} {f : Addr} {fd : FuncData} (F : Fun K "under" "Price.under" s_Price_under f fd) : KBinds K fd ["self", "other"] ["other"] gkb_Price_under_1_other gkb_Price_under_1_other := by
  refine Vc.kbinds F (fun kV doc pm an cdv ct us ws hl => ?_) (fun {vs us zs ws} r rz => ?_)
  · unfold gkb_Price_under_1_other at hl ⊢
    split at hl
    · rfl
    · cases hl
  · rcases r with _ | ⟨hu0, _ | ⟨_, _⟩⟩ <;> rcases rz with _ | ⟨hw0, _ | ⟨_, _⟩⟩ <;> first | exact .nil | exact (.cons hu0 (.cons hw0 .nil))
def gkb_Priceu_initu_1_writes_words {α : Type} (us ws : List α) : List α := match us, ws with
  | [u0], [w0, w1] => [u0, w1, w0]
  | _, _ => []
theorem kb_Priceu_initu_1_writes_words {K : PySem.W.Frag} {f : Addr} {fd : FuncData} (F : Fun K "__init__" "Price.__init__" s_Priceu_initu f fd) : KBinds K fd ["self", "words", "writes"] ["writes", "words"] gkb_Priceu_initu_1_writes_words gkb_Priceu_initu_1_writes_words := by
  refine Vc.kbinds F (fun kV doc pm an cdv ct us ws hl => ?_) (fun {vs us zs ws} r rz => ?_)
  · unfold gkb_Priceu_initu_1_writes_words at hl ⊢
    split at hl
    · rfl
    · cases hl
  · rcases r with _ | ⟨hu0, _ | ⟨_, _⟩⟩ <;> rcases rz with _ | ⟨hw0, _ | ⟨hw1, _ | ⟨_, _⟩⟩⟩ <;> first | exact .nil | exact (.cons hu0 (.cons hw1 (.cons hw0 .nil)))
/-! ### k23: prices -/
theorem emp_app (z : Str) : Str.empty ++ z = z := by
  show (⟨#[] ++ z.cps⟩ : Str) = z
  simp
theorem fw_ints {w k : Nat} {ns : List Int} (j : Nat) (h : ∀ n ∈ ns, n.natAbs < 10 ^ j) (j0 : 0 < j := by decide) (j1 : j ≤ 480 := by decide) (l : j + 1 ≤ w := by decide) : ∀ x ∈ ns.map PyData.int, Vc.Fw x w k := fun x hx => by
  obtain ⟨i, hi, rfl⟩ := List.mem_map.mp hx
  exact Vc.fw_int j (h i hi) j0 j1 l
def spNumber : Sp := fun vs H Q _ => ∃ (b c : Addr) (n : Nat), vs = [.ref b] ∧ Pen H b c n ∧ n ≤ 1000 ∧ ∀ i H', 0 ≤ i → i ≤ 10 ^ 12 → Vc.Ed [b] H H' → Pen H' b c (n + 4) → Q (.int i) H'
def spPricesRight : Sp := fun vs H Q _ => ∃ (b c : Addr) (n : Nat), vs = [.ref b] ∧ Pen H b c n ∧ n ≤ 900 ∧ ∀ H', Vc.Ed [b] H H' → Pen H' b c (n + 20) → Q (.bl true) H'
theorem pr_dec (x y z u : Int) : decide ([x, y] = [z, u]) = decide ((x, y) = (z, u)) := by simp
theorem lex_same (x y : Int) : HT.lexLt [x, y] [x, y] = false := by simp [HT.lexLt]
theorem num40 {i : Int} (h0 : 0 ≤ i) (h1 : i ≤ 10 ^ 12) : i.natAbs < 10 ^ 40 := by omega
theorem prText_eq (x y : Int) : Str.ofString (toString x) ++ " words, " ++ Str.ofString (toString y) ++ " writes" = prText x y := by
  unfold prText
  rw [emp_app]
theorem prText_ok {x y : Int} (hx : x.natAbs < 10 ^ 40) (hy : y.natAbs < 10 ^ 40) : Vc.SOk (prText x y) 100 := by
  rw [← prText_eq]
  have a : Vc.SOk (" words, " : Str) 8 := ⟨by decide +kernel, by decide +kernel⟩
  have b : Vc.SOk (" writes" : Str) 7 := ⟨by decide +kernel, by decide +kernel⟩
  exact ((((Vc.int_sok (by decide) hx).app a).app (Vc.int_sok (by decide) hy)).app b).mono (by decide)
section
variable {P : Program} {w : World} {K : PySem.W.Frag} {mg : Str → Option Value} {base : Heap} {A : Ad}
theorem ok__law_number (T : Txt K mg A) : FnOk P w K mg base CX0 2 A.f__law_number A.d__law_number ["_law_pen_here"] spNumber := by
  have G__law_draw := ok__law_draw (P := P) (w := w) (base := base) T
  refine T.F__law_number.ok sc__law_number (fun vs H Q E h => ?_) (fun cdv Ar outer s H vs Q E hr h => ?_)
  · obtain ⟨b, c, n, rfl, _⟩ := h
    rfl
  · obtain ⟨b, c, n, rfl, hB, nl, k⟩ := h
    refine ⟨_, (pss_one (ps_ret (pe_ix ix_list (pe_lst (pa_cons (pe_call G__law_draw (by exact hr.mono (by decide)) (by rfl) T.g__law_draw T.F__law_draw.kp T.b__law_draw .nil pass0 (pa_cons (pv 0) (pa_cons pe_int pa_nil))) (pa_cons (pe_op op_sub (pe_op op_pow pe_int pe_int) (pe_call G__law_draw (by exact hr.mono (by decide)) (by rfl) T.g__law_draw T.F__law_draw.kp T.b__law_draw .nil pass0 (pa_cons (pv 0) (pa_cons pe_int pa_nil)))) (pa_cons (pe_call G__law_draw (by exact hr.mono (by decide)) (by rfl) T.g__law_draw T.F__law_draw.kp T.b__law_draw .nil pass0 (pa_cons (pv 0) (pa_cons (pe_op op_pow pe_int pe_int) pa_nil))) pa_nil)))) (pe_call G__law_draw (by exact hr.mono (by decide)) (by rfl) T.g__law_draw T.F__law_draw.kp T.b__law_draw .nil pass0 (pa_cons (pv 0) (pa_cons pe_int pa_nil))) (fun _ _ => rfl)))), ?_⟩
    walk_at "go"
    refine ⟨b, c, n, 3, rfl, hB, by show n ≤ 1000000; omega, by omega, by omega, fun x H1 x0 x1 e1 hB1 => ?_⟩
    walk_at "go"
    refine ⟨b, c, n + 1, 3, rfl, hB1, by show n + 1 ≤ 1000000; omega, by omega, by omega, fun y H2 y0 y1 e2 hB2 => ?_⟩
    walk_at "go"
    refine ⟨b, c, n + 1 + 1, 10 ^ Int.toNat 12, rfl, hB2, by show n + 2 ≤ 1000000; omega, by decide, by decide, fun z H3 z0 z1 e3 hB3 => ?_⟩
    walk_at "go"
    intro l nl4
    generalize hu4 : upd _ l _ = H4
    obtain ⟨e4, hl⟩ := Vc.alloc hu4 nl4
    have hB4 := hB3.ed0 e4
    walk_at "go"
    refine ⟨b, c, n + 1 + 1 + 1, 3, rfl, hB4, by show n + 3 ≤ 1000000; omega, by omega, by omega, fun i H5 i0 i1 e5 hB5 => ?_⟩
    have lb : l ≠ b := (hB3.fb nl4).1.symm
    have hl5 := e5.at1 lb hl
    have z1 : z < 1000000000000 := z1
    have e15 : Vc.Ed [b] H H5 := ((((e1.trans e2 fun _ z => .inl z).trans e3 fun _ z => .inl z).ex e4).trans e5 fun _ z => .inl z)
    have fin : ∀ v : Int, 0 ≤ v → v ≤ 10 ^ 12 → Q (.int v) H5 := fun v v0 v1 => k v H5 v0 v1 e15 hB5
    obtain ⟨v, hv, v0, v1⟩ : ∃ v : Int, atI [V.int x, .int (10 ^ Int.toNat 12 - y), .int z] i = some (.int v) ∧ 0 ≤ v ∧ v ≤ 10 ^ 12 := by
      have : i = 0 ∨ i = 1 ∨ i = 2 := by omega
      have t12 : (10 : Int) ^ Int.toNat 12 = 1000000000000 := by decide
      rcases this with rfl | rfl | rfl
      · exact ⟨_, rfl, x0, by omega⟩
      · exact ⟨_, rfl, by omega, by omega⟩
      · exact ⟨_, rfl, z0, by omega⟩
    walk_at "go"
    exact fin v v0 v1
theorem ok__law_prices_right (T : Txt K mg A) : Vc.FnG P w K mg base CX0 7 A.f__law_prices_right A.d__law_prices_right ["_law_pen_here"] spPricesRight := by
  have G__law_draw := ok__law_draw (P := P) (w := w) (base := base) T
  have G__law_number := ok__law_number (P := P) (w := w) (base := base) T
  have G_Priceu_initu := ok_Priceu_initu (P := P) (w := w) (base := base) T
  have G_Price_words := ok_Price_words (P := P) (w := w) (base := base) T
  have G_Price_writes := ok_Price_writes (P := P) (w := w) (base := base) T
  have G_Price_under := ok_Price_under (P := P) (w := w) (base := base) T
  have G_Priceu_addu := ok_Priceu_addu (P := P) (w := w) (base := base) T
  have G_Priceu_equ := ok_Priceu_equ (P := P) (w := w) (base := base) T
  have G_Priceu_stru := ok_Priceu_stru (P := P) (w := w) (base := base) T
  refine Vc.Fun.okG T.F__law_prices_right sc__law_prices_right (fun vs H Q E h => ?_) (fun cdv Ar outer s H vs Q E hgd hr h => ?_)
  · obtain ⟨b, c, n, rfl, _⟩ := h
    rfl
  · obtain ⟨b, c, n, rfl, hB, nl, k⟩ := h
    refine ⟨_, (pss_cons (ps_set (i := 1) sc__law_prices_right.nd rfl (Or.inl rfl) (pe_tup (pa_cons (pe_call G__law_number (by exact hr.mono (by decide)) (by rfl) T.g__law_number T.F__law_number.kp T.b__law_number .nil pass0 (pa_cons (pv 0) pa_nil)) (pa_cons (pe_call G__law_number (by exact hr.mono (by decide)) (by rfl) T.g__law_number T.F__law_number.kp T.b__law_number .nil pass0 (pa_cons (pv 0) pa_nil)) pa_nil)))) (Evl.pss_cut (ps_set (i := 2) sc__law_prices_right.nd rfl (Or.inl rfl) (pe_ix ix_list (pe_lst (pa_cons (pe_tup (pa_cons (pe_ix ix_tup (pv 1) pe_int (fun _ _ => rfl)) (pa_cons (pe_call G__law_number (by exact hr.mono (by decide)) (by rfl) T.g__law_number T.F__law_number.kp T.b__law_number .nil pass0 (pa_cons (pv 0) pa_nil)) pa_nil))) (pa_cons (pe_tup (pa_cons (pe_call G__law_number (by exact hr.mono (by decide)) (by rfl) T.g__law_number T.F__law_number.kp T.b__law_number .nil pass0 (pa_cons (pv 0) pa_nil)) (pa_cons (pe_ix ix_tup (pv 1) pe_int (fun _ _ => rfl)) pa_nil))) (pa_cons (pv 1) (pa_cons (Vc.pe_rev2 (pv 1)) pa_nil))))) (pe_call G__law_draw (by exact hr.mono (by decide)) (by rfl) T.g__law_draw T.F__law_draw.kp T.b__law_draw .nil pass0 (pa_cons (pv 0) (pa_cons pe_int pa_nil))) (fun _ _ => rfl))) (pss_cons (ps_par (i := 3) (j := 4) (by rfl) sc__law_prices_right.nd rfl rfl (by decide) rfl rfl (pa_cons (pe_make T.mk_Price G_Priceu_initu (by exact hr.mono (by decide)) (by rfl) T.g_Price T.b_Priceu_initu .nil pass0 (pa_cons (pe_ix ix_tup (pv 1) pe_int (fun _ _ => rfl)) (pa_cons (pe_ix ix_tup (pv 1) pe_int (fun _ _ => rfl)) pa_nil))) (pa_cons (Vc.pe_makeK0 T.mk_Price G_Priceu_initu (by exact hr.mono (by decide)) (by rfl) T.g_Price (kb_Priceu_initu_1_writes_words T.F_Priceu_initu) pass0 (pk_cons (pe_ix ix_tup (pv 2) pe_int (fun _ _ => rfl)) (pk_cons (pe_ix ix_tup (pv 2) pe_int (fun _ _ => rfl)) pk_nil))) pa_nil)) (by rfl)) (pss_cons (ps_set (i := 5) sc__law_prices_right.nd rfl (Or.inl rfl) (pe_lst (pa_cons (pe_prop (pv 3) T.cl_Price T.p_Price_words G_Price_words (by exact hr.mono (by decide)) T.b_Price_words .nil pass0 (by rfl)) (pa_cons (pe_prop (pv 3) T.cl_Price T.p_Price_writes G_Price_writes (by exact hr.mono (by decide)) T.b_Price_writes .nil pass0 (by rfl)) (pa_cons (pe_prop (pv 4) T.cl_Price T.p_Price_words G_Price_words (by exact hr.mono (by decide)) T.b_Price_words .nil pass0 (by rfl)) (pa_cons (pe_prop (pv 4) T.cl_Price T.p_Price_writes G_Price_writes (by exact hr.mono (by decide)) T.b_Price_writes .nil pass0 (by rfl)) (pa_cons (pe_callTy (Vc.call_strO G_Priceu_stru (by exact hr.mono (by decide)) T.sp_Price_Priceu_stru T.b_Priceu_stru) (by rfl) T.n_str (by decide +kernel) (pa_cons (pv 3) pa_nil)) (pa_cons (pe_callTy (Vc.call_strO G_Priceu_stru (by exact hr.mono (by decide)) T.sp_Price_Priceu_stru T.b_Priceu_stru) (by rfl) T.n_str (by decide +kernel) (pa_cons (pv 4) pa_nil)) pa_nil)))))))) (pss_cons (ps_set (i := 6) sc__law_prices_right.nd rfl (Or.inl rfl) (pe_lst (pa_cons (pe_ix ix_tup (pv 1) pe_int (fun _ _ => rfl)) (pa_cons (pe_ix ix_tup (pv 1) pe_int (fun _ _ => rfl)) (pa_cons (pe_ix ix_tup (pv 2) pe_int (fun _ _ => rfl)) (pa_cons (pe_ix ix_tup (pv 2) pe_int (fun _ _ => rfl)) pa_nil)))))) (pss_cons (ps_set (i := 6) sc__law_prices_right.nd rfl (Or.inl rfl) (pe_op op_cat (pv 6) (pe_lc (own := [("_law_pair", 8)]) (g := gName 8) rfl sc__law_prices_right.nd (pi_tup (pe_tup (pa_cons (pv 1) (pa_cons (pv 2) pa_nil)))) (blkOk_by (own := [("_law_pair", 8)]) (N := ["_law_pen_here", "_law_one", "_law_two", "_law_left", "_law_right", "_law_told", "_law_due", "_law_total", "_law_pair"]) (sc := defScope s__law_prices_right) (by decide +kernel)) (fun _ _ _ _ _ => by exact (pg_name (i := 8) sc__law_prices_right.nd rfl (Or.inl rfl))) (fun _ _ _ _ _ => by exact pts_nil) (fun _ _ _ _ _ => by (refine' Vc.blkE ?h ?q; (case h => exact (pe_op op_add_str (pe_op op_add_str (pe_op op_add_str (pe_callTy call_str_int (by rfl) T.n_str (by decide +kernel) (pa_cons (pe_ix ix_tup (pv 8) pe_int (fun _ _ => rfl)) pa_nil)) pe_str) (pe_callTy call_str_int (by rfl) T.n_str (by decide +kernel) (pa_cons (pe_ix ix_tup (pv 8) pe_int (fun _ _ => rfl)) pa_nil))) pe_str)); (case q => first | exact rfl | (dsimp only; done) | (dsimp only; exact rfl))))))) (pss_cons (ps_if (pt_cmpR op_ne (pe_callB (Vc.call_reprD hgd (Vc.room64 hr)) (by rfl) T.n_repr (by decide +kernel) (pa_cons (pv 5) pa_nil)) (pe_callB (Vc.call_reprD hgd (Vc.room64 hr)) (by rfl) T.n_repr (by decide +kernel) (pa_cons (pv 6) pa_nil)) (nomark _)) (pss_one (ps_ret pe_bl)) pss_nil) (pss_cons (ps_set (i := 5) sc__law_prices_right.nd rfl (Or.inl rfl) (pe_lst (pa_cons (pe_meth (pv 3) T.cl_Price T.m_Price_under G_Price_under (by exact hr.mono (by decide)) T.b_Price_under .nil pass0 (pa_cons (pv 4) pa_nil)) (pa_cons (pe_meth (pv 4) T.cl_Price T.m_Price_under G_Price_under (by exact hr.mono (by decide)) T.b_Price_under .nil pass0 (pa_cons (pv 3) pa_nil)) (pa_cons (Vc.pe_methK0 (pv 3) T.cl_Price T.m_Price_under G_Price_under (by exact hr.mono (by decide)) (kb_Price_under_1_other T.F_Price_under) pass0 (pk_cons (pv 3) pk_nil)) pa_nil))))) (pss_cons (ps_set (i := 5) sc__law_prices_right.nd rfl (Or.inl rfl) (pe_op op_cat (pv 5) (pe_lst (pa_cons (pe_cmpR (Vc.op_eqO G_Priceu_equ (by exact hr.mono (by decide)) T.eq_Price T.b_Priceu_equ) (pv 3) (pv 4) (nomark _)) (pa_cons (pe_cmpR (Vc.op_neO G_Priceu_equ (by exact hr.mono (by decide)) T.ne_Price T.b_Priceu_equ) (pv 3) (pv 4) (nomark _)) (pa_cons (pe_cmpR (Vc.op_eqO G_Priceu_equ (by exact hr.mono (by decide)) T.eq_Price T.b_Priceu_equ) (pv 3) (pv 1) (nomark _)) pa_nil)))))) (pss_cons (ps_if (pt_cmpR op_ne (pe_callB (Vc.call_reprD hgd (Vc.room64 hr)) (by rfl) T.n_repr (by decide +kernel) (pa_cons (pv 5) pa_nil)) (pe_callB (Vc.call_reprD hgd (Vc.room64 hr)) (by rfl) T.n_repr (by decide +kernel) (pa_cons (pe_lst (pa_cons (pe_cmpR (op_ltT (by exact hr.units0)) (pv 1) (pv 2) (nomark _)) (pa_cons (pe_cmpR (op_ltT (by exact hr.units0)) (pv 2) (pv 1) (nomark _)) (pa_cons pe_bl (pa_cons (pe_cmpR (op_eqD (by exact hr.units)) (pv 1) (pv 2) (nomark _)) (pa_cons (pe_cmpR (op_neD (by exact hr.units)) (pv 1) (pv 2) (nomark _)) (pa_cons pe_bl pa_nil))))))) pa_nil)) (nomark _)) (pss_one (ps_ret pe_bl)) pss_nil) (pss_cons (ps_set (i := 7) sc__law_prices_right.nd rfl (Or.inl rfl) (pe_op (Vc.op_addO G_Priceu_addu (by exact hr.mono (by decide)) T.sp_Price_Priceu_addu T.sf_Price T.b_Priceu_addu) (pv 3) (pv 4))) (pss_cons (ps_if (pt_cmpR op_ne (pe_callB (Vc.call_reprD hgd (Vc.room64 hr)) (by rfl) T.n_repr (by decide +kernel) (pa_cons (pe_lst (pa_cons (pe_prop (pv 7) T.cl_Price T.p_Price_words G_Price_words (by exact hr.mono (by decide)) T.b_Price_words .nil pass0 (by rfl)) (pa_cons (pe_prop (pv 7) T.cl_Price T.p_Price_writes G_Price_writes (by exact hr.mono (by decide)) T.b_Price_writes .nil pass0 (by rfl)) pa_nil))) pa_nil)) (pe_callB (Vc.call_reprD hgd (Vc.room64 hr)) (by rfl) T.n_repr (by decide +kernel) (pa_cons (pe_lst (pa_cons (pe_op op_add (pe_ix ix_tup (pv 1) pe_int (fun _ _ => rfl)) (pe_ix ix_tup (pv 2) pe_int (fun _ _ => rfl))) (pa_cons (pe_op op_add (pe_ix ix_tup (pv 1) pe_int (fun _ _ => rfl)) (pe_ix ix_tup (pv 2) pe_int (fun _ _ => rfl))) pa_nil))) pa_nil)) (nomark _)) (pss_one (ps_ret pe_bl)) pss_nil) (pss_one (ps_ret (pe_and (pe_cmpR (Vc.op_eqO G_Priceu_equ (by exact hr.mono (by decide)) T.eq_Price T.b_Priceu_equ) (pv 7) (pe_op (Vc.op_addO G_Priceu_addu (by exact hr.mono (by decide)) T.sp_Price_Priceu_addu T.sf_Price T.b_Priceu_addu) (pv 4) (pv 3)) (nomark _)) (pe_one (pe_cmpR op_eq (pe_callB (Vc.call_reprD hgd (Vc.room64 hr)) (by rfl) T.n_repr (by decide +kernel) (pa_cons (pe_lst (pa_cons (pe_prop (pv 3) T.cl_Price T.p_Price_words G_Price_words (by exact hr.mono (by decide)) T.b_Price_words .nil pass0 (by rfl)) (pa_cons (pe_prop (pv 4) T.cl_Price T.p_Price_writes G_Price_writes (by exact hr.mono (by decide)) T.b_Price_writes .nil pass0 (by rfl)) pa_nil))) pa_nil)) (pe_callB (Vc.call_reprD hgd (Vc.room64 hr)) (by rfl) T.n_repr (by decide +kernel) (pa_cons (pe_lst (pa_cons (pe_ix ix_tup (pv 1) pe_int (fun _ _ => rfl)) (pa_cons (pe_ix ix_tup (pv 2) pe_int (fun _ _ => rfl)) pa_nil))) pa_nil)) (nomark _)))))))))))))))))), ?_⟩
    walk_at "go"
    refine ⟨b, c, n, rfl, hB, by omega, fun x H1 x0 x1 e1 hB1 => ?_⟩
    walk_at "go"
    refine ⟨b, c, n + 4, rfl, hB1, by omega, fun y H2 y0 y1 e2 hB2 => ?_⟩
    walk_at "go"
    intro t1 nt1
    generalize hu3 : upd _ t1 _ = H3
    obtain ⟨e3, ht1⟩ := Vc.alloc hu3 nt1
    have hB3 := hB2.ed0 e3
    have e03 : Vc.Ed [b] H H3 := (e1.trans e2 fun _ z => .inl z).ex e3
    walk_at "go"
    refine Evl.q_cut (M := fun σ H' => ∃ (t2 : Addr) (z u : Int), σ = [some (.ref b), some (.ref t1), some (.ref t2), none, none, none, none, none, none] ∧ Vc.Ed [b] H3 H' ∧ Pen H' b c (n + 17) ∧ H' t2 = some (.tup [.int z, .int u]) ∧ 0 ≤ z ∧ z ≤ 10 ^ 12 ∧ 0 ≤ u ∧ u ≤ 10 ^ 12) ?_ ?_
    · walk_at "go"
      refine ⟨b, c, n + 4 + 4, rfl, hB3, by omega, fun v1 H4 v10 v11 e4 hB4 => ?_⟩
      have nt1b : t1 ≠ b := (hB2.fb nt1).1.symm
      walk_at "go"
      intro a1 na1
      generalize hu5 : upd _ a1 _ = H5
      obtain ⟨e5, ha1⟩ := Vc.alloc hu5 na1
      have hB5 := hB4.ed0 e5
      walk_at "go"
      refine ⟨b, c, n + 4 + 4 + 4, rfl, hB5, by omega, fun v2 H6 v20 v21 e6 hB6 => ?_⟩
      have e36 : Vc.Ed [b] H3 H6 := (e4.ex e5).trans e6 fun _ z => .inl z
      have ht16 := e36.tup _ _ ht1
      walk_at "go"
      intro a2 na2
      generalize hu7 : upd _ a2 _ = H7
      obtain ⟨e7, ha2⟩ := Vc.alloc hu7 na2
      have ht17 := e7.tup _ _ ht16
      walk_at "go"
      refine Vc.go_rev2 ?_
      walk_at "go"
      refine ⟨t1, .int x, .int y, rfl, Vc.sqt_of ht17, fun a3 na3 => ?_⟩
      generalize hu8 : upd _ a3 _ = H8
      obtain ⟨e8, ha3⟩ := Vc.alloc hu8 na3
      walk_at "go"
      intro l nl8
      generalize hu9 : upd _ l _ = H9
      obtain ⟨e9, hl⟩ := Vc.alloc hu9 nl8
      have e69 : Vc.Ed [] H6 H9 := (e7.ex e8).ex e9
      have hB9 := hB6.ed0 e69
      walk_at "go"
      refine ⟨b, c, n + 4 + 4 + 4 + 4, 4, rfl, hB9, by show n + 4 + 4 + 4 + 4 ≤ 1000000; omega, by omega, by omega, fun i H10 i0 i1 e10 hB10 => ?_⟩
      have lb : l ≠ b := ((hB6.ed0 (e7.ex e8)).fb nl8).1.symm
      have hl10 := e10.at1 lb hl
      have e310 : Vc.Ed [b] H3 H10 := (e36.ex e69).trans e10 fun _ z => .inl z
      have g1 := e10.tup _ _ (e69.tup _ _ (e6.tup _ _ ha1))
      have g2 := e10.tup _ _ (e9.tup _ _ (e8.tup _ _ ha2))
      have g3 := e10.tup _ _ (e9.tup _ _ ha3)
      have g0 := e310.tup _ _ ht1
      obtain ⟨a, hv, z, u, hz, z0, z1, u0, u1⟩ : ∃ a : Addr, atI [V.ref a1, .ref a2, .ref t1, .ref a3] i = some (.ref a) ∧ ∃ z u : Int, H10 a = some (.tup [.int z, .int u]) ∧ 0 ≤ z ∧ z ≤ 10 ^ 12 ∧ 0 ≤ u ∧ u ≤ 10 ^ 12 := by
        have : i = 0 ∨ i = 1 ∨ i = 2 ∨ i = 3 := by omega
        rcases this with rfl | rfl | rfl | rfl
        · exact ⟨_, rfl, _, _, g1, x0, x1, v10, v11⟩
        · exact ⟨_, rfl, _, _, g2, v20, v21, y0, y1⟩
        · exact ⟨_, rfl, _, _, g0, x0, x1, y0, y1⟩
        · exact ⟨_, rfl, _, _, g3, y0, y1, x0, x1⟩
      walk_at "go"
      exact ⟨a, z, u, rfl, e310, hB10, hz, z0, z1, u0, u1⟩
    · rintro σ H4 ⟨t2, z, u, rfl, e4, hB4, ht2, z0, z1, u0, u1⟩
      have ht1 := e4.tup _ _ ht1
      have e04 : Vc.Ed [b] H H4 := e03.trans e4 fun _ z => .inl z
      refine Vc.go_par ?_
      walk_at "go"
      intro p px np npx npe
      generalize hu5 : upd _ p _ = H5
      obtain ⟨e5, hp5, _⟩ := Vc.allocI hu5 np npx npe
      refine ⟨p, px, x, y, rfl, hp5, fun H6 e6 hP => ⟨rfl, ?_⟩⟩
      have e46 : Vc.Ed [] H4 H6 := e5.one e6 (.inr np)
      have ht16 := e46.tup _ _ ht1
      have ht26 := e46.tup _ _ ht2
      walk_at "go"
      intro q qx nq nqx nqe
      generalize hu7 : upd _ q _ = H7
      obtain ⟨e7, hq7, _⟩ := Vc.allocI hu7 nq nqx nqe
      refine ⟨q, qx, z, u, rfl, hq7, fun H8 e8 hQ => ⟨rfl, ?_⟩⟩
      have e68 : Vc.Ed [] H6 H8 := e7.one e8 (.inr nq)
      have hP8 := hP.ed0 e68
      have ht18 := e68.tup _ _ ht16
      have ht28 := e68.tup _ _ ht26
      have e48 := e46.ex e68
      walk_at "go"
      refine ⟨_, _, rfl, ?_⟩
      obtain ⟨dxp, tp, rp, rtp⟩ := id hP8
      obtain ⟨dxq, tq, rq, rtq⟩ := id hQ
      walk_at "go"
      refine ⟨p, x, y, rfl, hP8, ?_⟩
      walk_at "go"
      refine ⟨p, x, y, rfl, hP8, ?_⟩
      walk_at "go"
      refine ⟨q, z, u, rfl, hQ, ?_⟩
      walk_at "go"
      refine ⟨q, z, u, rfl, hQ, ?_⟩
      walk_at "go"
      refine ⟨p, x, y, rfl, hP8, num40 x0 x1, num40 y0 y1, _, rfl, ?_⟩
      walk_at "go"
      refine ⟨q, z, u, rfl, hQ, num40 z0 z1, num40 u0 u1, _, rfl, ?_⟩
      walk_at "go"
      intro l1 nl1
      generalize hu9 : upd _ l1 _ = H9
      obtain ⟨e9, hl1⟩ := Vc.alloc hu9 nl1
      walk_at "go"
      intro l2 nl2
      generalize hu10 : upd _ l2 _ = H10
      obtain ⟨e10, hl2⟩ := Vc.alloc hu10 nl2
      walk_at "go"
      intro a4 na4
      generalize hu11 : upd _ a4 _ = H11
      obtain ⟨e11, ha4⟩ := Vc.alloc hu11 na4
      have e811 : Vc.Ed [] H8 H11 := (e9.ex e10).ex e11
      have ht111 := e811.tup _ _ ht18
      have ht211 := e811.tup _ _ ht28
      have hl211 := e11.at0 hl2
      have hl111 := e11.at0 (e10.at0 hl1)
      walk_at "go"
      refine ⟨⟨_, .of ha4⟩, Vc.lc_by (walk_tup (xs := [V.ref t1, .ref t2])) (fun D i H' => Vc.Ed [] H11 H' ∧ H' D = some (.lst (([prText x y, prText z u].take i).map V.str))) (fun D H12 nD e12 hD => ⟨e12, hD⟩) (fun D i H' _ _ q => .of (q.1.tup _ _ ha4)) (fun D i v H12 H13 nD hi q hv => ?_) fun D H12 nD q => ?_⟩
      · obtain ⟨rfl, hv⟩ := hv
        obtain ⟨e12, hD⟩ := q
        obtain ⟨tt, r, s, rfl, htt, hr0, hs0, hz⟩ : ∃ (tt : Addr) (r s : Int), v = .ref tt ∧ H13 tt = some (.tup [.int r, .int s]) ∧ r.natAbs < 10 ^ 40 ∧ s.natAbs < 10 ^ 40 ∧ [prText x y, prText z u][i]? = some (prText r s) := by
          match i, hi, hv with
          | 0, _, hv => exact ⟨t1, x, y, (Option.some.inj hv).symm, e12.tup _ _ ht111, num40 x0 x1, num40 y0 y1, rfl⟩
          | 1, _, hv => exact ⟨t2, z, u, (Option.some.inj hv).symm, e12.tup _ _ ht211, num40 z0 z1, num40 u0 u1, rfl⟩
        have lr := Vc.log10 hr0 (by decide)
        have ls := Vc.log10 hs0 (by decide)
        have zr := (Vc.int_sok (by decide) hr0).len
        have zs := (Vc.int_sok (by decide) hs0).len
        have w1 : (" words, " : Str).length = 8 := by decide +kernel
        have w2 : (" writes" : Str).length = 7 := by decide +kernel
        have a1 : (Str.ofString (toString r)).length + (" words, " : Str).length ≤ 1000 := by omega
        have a2 : (Str.ofString (toString r) ++ " words, ").length + (Str.ofString (toString s)).length ≤ 1000 := by rw [Vc.sapp_len]; omega
        have a3 : (Str.ofString (toString r) ++ " words, " ++ Str.ofString (toString s)).length + (" writes" : Str).length ≤ 1000 := by rw [Vc.sapp_len, Vc.sapp_len]; omega
        walk_at "go"
        refine ⟨rfl, ?_⟩
        walk_at "go"
        rw [prText_eq]
        refine ⟨_, hD, small1000 (by rw [List.length_map]; have := List.length_take_le i [prText x y, prText z u]; have : i < 2 := hi; omega), ?_⟩
        generalize hu14 : upd _ D _ = H14
        obtain ⟨e14, hD14⟩ := Vc.chg hu14 hD
        refine ⟨e12.one e14 (.inr nD), ?_⟩
        rw [hD14, take_suc hz, List.map_append]
        rfl
      · obtain ⟨e12, hD⟩ := q
        have hD : H12 D = some (.lst [.str (prText x y), .str (prText z u)]) := hD
        walk_at "go"
        refine Vc.go_cat (e12.at0 hl211) hD (by show 4 + 2 ≤ 1000; omega) fun l3 nl3 => ?_
        generalize hu13 : upd _ l3 _ = H13
        obtain ⟨e13, hl3⟩ := Vc.alloc hu13 nl3
        have e813 : Vc.Ed [] H8 H13 := (e811.ex e12).ex e13
        have hl113 := e13.at0 (e12.at0 hl111)
        have hP13 := hP8.ed0 e813
        have hQ13 := hQ.ed0 e813
        have ht113 := e813.tup _ _ ht18
        have ht213 := e813.tup _ _ ht28
        have hB13 := ((hB4.ed0 e48).ed0 e813)
        have e013 := (e04.ex e48).ex e813
        clear hl111 hl211 hD ha4
        have hl3 : H13 l3 = some (.lst [.int x, .int y, .int z, .int u, .str (prText x y), .str (prText z u)]) := hl3
        have ft : Vc.Fits (.list ([V.int x, .int y, .int z, .int u, .str (prText x y), .str (prText z u)].map vD)) :=
          (Vc.fw_lst (w := 1010) (k := 0) (W := 10000) (Vc.fw_cons (Vc.fw_int 40 (num40 x0 x1)) (Vc.fw_cons (Vc.fw_int 40 (num40 y0 y1)) (Vc.fw_cons (Vc.fw_int 40 (num40 z0 z1)) (Vc.fw_cons (Vc.fw_int 40 (num40 u0 u1)) (Vc.fw_cons (Vc.fw_str (prText_ok (num40 x0 x1) (num40 y0 y1))) (Vc.fw_cons (Vc.fw_str (prText_ok (num40 z0 z1) (num40 u0 u1))) Vc.fw_nil)))))) (by show 6 * 1012 + 4 ≤ 10000; decide)).fits
        walk_at "go"
        refine Vc.go_repr (.lst (.of hl113) (dp_ats rfl)) ft ?_
        walk_at "go"
        refine Vc.go_repr (.lst (.of hl3) (dp_ats rfl)) ft ?_
        walk_at "go"
        clear hl3 hl113 ft rp rtp rq rtq
        obtain ⟨dxp, tp, rp, rtp⟩ := id hP13
        obtain ⟨dxq, tq, rq, rtq⟩ := id hQ13
        walk_at "go"
        refine ⟨p, q, x, y, z, u, rfl, hP13, hQ13, ?_⟩
        walk_at "go"
        refine ⟨q, p, z, u, x, y, rfl, hQ13, hP13, ?_⟩
        walk_at "go"
        refine ⟨p, p, x, y, x, y, rfl, hP13, hP13, ?_⟩
        walk_at "go"
        intro l4 nl4
        generalize hu14 : upd _ l4 _ = H14
        obtain ⟨e14, hl4⟩ := Vc.alloc hu14 nl4
        have hP14 := hP13.ed0 e14
        have hQ14 := hQ13.ed0 e14
        have rp14 := e14.at0 rp
        have rq14 := e14.at0 rq
        have ht114 := e14.tup _ _ ht113
        have ht214 := e14.tup _ _ ht213
        clear rp rtp rq rtq ht113 ht213
        walk_at "go"
        refine Vc.go_eqO rp14 (Vc.ty_ins rq14 T.ic_Price) T.nf_Price_Price ⟨p, _, x, y, rfl, hP14, .inl ⟨q, z, u, rfl, hQ14, _, rfl, ?_⟩⟩
        walk_at "go"
        refine Vc.go_neO rfl rp14 (Vc.ty_ins rq14 T.ic_Price) T.nf_Price_Price ⟨p, _, x, y, rfl, hP14, .inl ⟨q, z, u, rfl, hQ14, _, rfl, ?_⟩⟩
        walk_at "go"
        have tyt := Vc.tyT (K := K) (Vc.sqt_of ht114)
        refine Vc.go_eqO rp14 tyt T.nf_tuple_Price ⟨p, _, x, y, rfl, hP14, .inr ⟨_, tyt, rfl, _, rfl, ?_⟩⟩
        walk_at "go"
        intro l5 nl5
        generalize hu15 : upd _ l5 _ = H15
        obtain ⟨e15, hl5⟩ := Vc.alloc hu15 nl5
        refine Vc.go_cat (e15.at0 hl4) hl5 (by show 3 + 3 ≤ 1000; omega) fun l6 nl6 => ?_
        generalize hu16 : upd _ l6 _ = H16
        obtain ⟨e16, hl6⟩ := Vc.alloc hu16 nl6
        have hl6 : H16 l6 = some (.lst [.bl (HT.lexLt [x, y] [z, u]), .bl (HT.lexLt [z, u] [x, y]), .bl (HT.lexLt [x, y] [x, y]), .bl (decide ((x, y) = (z, u))), .bl (!decide ((x, y) = (z, u))), .bl false]) := hl6
        rw [lex_same] at hl6
        have e1416 := e15.ex e16
        have ht116 := e1416.tup _ _ ht114
        have ht216 := e1416.tup _ _ ht214
        have ft : ∀ b1 b2 b3 b4 b5 b6 : Bool, Vc.Fits (.list ([V.bl b1, .bl b2, .bl b3, .bl b4, .bl b5, .bl b6].map vD)) := fun b1 b2 b3 b4 b5 b6 =>
          (Vc.fw_lst (w := 10) (k := 0) (W := 100) (Vc.fw_cons (Vc.fw_bl b1) (Vc.fw_cons (Vc.fw_bl b2) (Vc.fw_cons (Vc.fw_bl b3) (Vc.fw_cons (Vc.fw_bl b4) (Vc.fw_cons (Vc.fw_bl b5) (Vc.fw_cons (Vc.fw_bl b6) Vc.fw_nil)))))) (by show 6 * 12 + 4 ≤ 100; decide)).fits
        walk_at "go"
        refine Vc.go_repr (.lst (.of hl6) (dp_ats rfl)) (ft _ _ _ _ _ _) ?_
        walk_at "go"
        refine ⟨t1, t2, [x, y], [z, u], rfl, rfl, Vc.sqt_of ht116, Vc.sqt_of ht216, ?_⟩
        walk_at "go"
        refine ⟨t2, t1, [z, u], [x, y], rfl, rfl, Vc.sqt_of ht216, Vc.sqt_of ht116, ?_⟩
        walk_at "go"
        refine ⟨_, _, .tup (.of ht116) (dp_ints [x, y]), .tup (.of ht216) (dp_ints [z, u]), shp_tup _, shp_tup _, ?_⟩
        rw [eqv_tups, pr_dec]
        walk_at "go"
        refine ⟨_, _, .tup (.of ht116) (dp_ints [x, y]), .tup (.of ht216) (dp_ints [z, u]), shp_tup _, shp_tup _, ?_⟩
        rw [eqv_tups, pr_dec]
        walk_at "go"
        intro l7 nl7
        generalize hu17 : upd _ l7 _ = H17
        obtain ⟨e17, hl7⟩ := Vc.alloc hu17 nl7
        walk_at "go"
        refine Vc.go_repr (.lst (.of hl7) (dp_ats rfl)) (ft _ _ _ _ _ _) ?_
        walk_at "go"
        have e1417 := e1416.ex e17
        have hP17 := hP14.ed0 e1417
        have hQ17 := hQ14.ed0 e1417
        have rp17 := e1417.at0 rp14
        have rq17 := e1417.at0 rq14
        have ht117 := e1417.tup _ _ ht114
        have ht217 := e1417.tup _ _ ht214
        have hB17 := (hB13.ed0 e14).ed0 e1417
        have e017 := (e013.ex e14).ex e1417
        clear hl7 hl6 hl5 hl4 rp14 rq14 ht114 ht214 ht116 ht216 ft hP14 hQ14 hP13 hQ13
        refine Vc.go_addO rp17 (Vc.ty_ins rq17 T.ic_Price) ⟨p, q, x, y, z, u, rfl, hP17, hQ17, fun r H18 e18 nr hR => ⟨_, rfl, ?_⟩⟩
        obtain ⟨dxr, tr, rr, rtr⟩ := id hR
        have ht118 := e18.tup _ _ ht117
        have ht218 := e18.tup _ _ ht217
        walk_at "go"
        refine ⟨r, x + z, y + u, rfl, hR, ?_⟩
        walk_at "go"
        refine ⟨r, x + z, y + u, rfl, hR, ?_⟩
        walk_at "go"
        intro l8 nl8
        generalize hu19 : upd _ l8 _ = H19
        obtain ⟨e19, hl8⟩ := Vc.alloc hu19 nl8
        have ht119 := e19.tup _ _ ht118
        have ht219 := e19.tup _ _ ht218
        have ft2 : ∀ i j : Int, i.natAbs < 10 ^ 40 → j.natAbs < 10 ^ 40 → Vc.Fits (.list ([V.int i, .int j].map vD)) := fun i j hi hj =>
          (Vc.fw_lst (w := 50) (k := 0) (W := 200) (Vc.fw_cons (Vc.fw_int 40 hi) (Vc.fw_cons (Vc.fw_int 40 hj) Vc.fw_nil)) (by show 2 * 52 + 4 ≤ 200; decide)).fits
        have ft3 := ft2 (x + z) (y + u) (by omega) (by omega)
        walk_at "go"
        refine Vc.go_repr (.lst (.of hl8) (dp_ats rfl)) ft3 ?_
        walk_at "go"
        intro l9 nl9
        generalize hu20 : upd _ l9 _ = H20
        obtain ⟨e20, hl9⟩ := Vc.alloc hu20 nl9
        walk_at "go"
        refine Vc.go_repr (.lst (.of hl9) (dp_ats rfl)) ft3 ?_
        walk_at "go"
        have e1720 := (e18.ex e19).ex e20
        have hP20 := hP17.ed0 e1720
        have hQ20 := hQ17.ed0 e1720
        have hR20 := hR.ed0 (e19.ex e20)
        have rp20 := e1720.at0 rp17
        have rq20 := e1720.at0 rq17
        refine Vc.go_addO rq20 (Vc.ty_ins rp20 T.ic_Price) ⟨q, p, z, u, x, y, rfl, hQ20, hP20, fun s H21 e21 ns hS => ⟨_, rfl, ?_⟩⟩
        obtain ⟨dxs, ts, rs, rts⟩ := id hS
        have hR21 := hR20.ed0 e21
        obtain ⟨dxr2, tr2, rr2, rtr2⟩ := id hR21
        refine Vc.go_eqO rr2 (Vc.ty_ins rs T.ic_Price) T.nf_Price_Price ⟨r, _, x + z, y + u, rfl, hR21, .inl ⟨s, z + x, u + y, rfl, hS, _, rfl, ?_⟩⟩
        have hP21 := hP20.ed0 e21
        have hQ21 := hQ20.ed0 e21
        obtain ⟨dxp2, tp2, rp2, rtp2⟩ := id hP21
        obtain ⟨dxq2, tq2, rq2, rtq2⟩ := id hQ21
        have ht121 := e21.tup _ _ (e20.tup _ _ ht119)
        have ht221 := e21.tup _ _ (e20.tup _ _ ht219)
        clear rr rtr rs rts rr2 rtr2 rp20 rq20 rp17 rq17 hl8 hl9 ht117 ht118 ht119 ht217 ht218 ht219
        rw [decide_eq_true (by rw [Int.add_comm x z, Int.add_comm y u])]
        walk_at "go"
        refine ⟨p, x, y, rfl, hP21, ?_⟩
        walk_at "go"
        refine ⟨q, z, u, rfl, hQ21, ?_⟩
        walk_at "go"
        intro l10 nl10
        generalize hu22 : upd _ l10 _ = H22
        obtain ⟨e22, hl10⟩ := Vc.alloc hu22 nl10
        walk_at "go"
        have ft4 := ft2 x u (num40 x0 x1) (num40 u0 u1)
        refine Vc.go_repr (.lst (.of hl10) (dp_ats rfl)) ft4 ?_
        walk_at "go"
        intro l11 nl11
        generalize hu23 : upd _ l11 _ = H23
        obtain ⟨e23, hl11⟩ := Vc.alloc hu23 nl11
        walk_at "go"
        refine Vc.go_repr (.lst (.of hl11) (dp_ats rfl)) ft4 ?_
        walk_at "go"
        rw [decide_eq_true rfl]
        have e1723 := ((e1720.ex e21).ex e22).ex e23
        exact k _ (e017.ex e1723) ((hB17.ed0 e1723).up (by omega))
end

end My
namespace My
open PySem PySem.Spec PyProof.Rows L2
def gkb_Passu_initu_1_stretch {α : Type} (us ws : List α) : List α := match us, ws with
  | [u0], [w0] => [u0, w0]
  | _, _ => []
theorem kb_Passu_initu_1_stretch {K : PySem.W.Frag} {f : Addr} {fd : FuncData} {P : Program} {mg : Str → Option Value} {C g0 : Addr} (F : Vc.FunQ P K mg "__init__" "Pass.__init__" s_Passu_initu f fd C g0 "self") : KBinds K fd ["self", "stretch"] ["stretch"] gkb_Passu_initu_1_stretch gkb_Passu_initu_1_stretch := by
  refine Vc.kbindsQ F (fun kV doc pm an cda cc ct us ws hl => ?_) (fun {vs us zs ws} r rz => ?_)
  · unfold gkb_Passu_initu_1_stretch at hl ⊢
    split at hl
    · rfl
    · cases hl
  · rcases r with _ | ⟨hu0, _ | ⟨_, _⟩⟩ <;> rcases rz with _ | ⟨hw0, _ | ⟨_, _⟩⟩ <;> first | exact .nil | exact (.cons hu0 (.cons hw0 .nil))
/-! ### k23: steps drawn and made -/
/-- a step as the law draws it -/
structure OneAt (H : Hp) (t : Addr) (d : SD) : Prop where
  at_ : match d with
    | .wr a vs => ∃ v, H t = some (.tup [.str "write", .int a, .ref v]) ∧ H v = some (.tup (vs.map V.int))
    | .sy => H t = some (.tup [.str "sync"])
    | .ps s => H t = some (.tup [.str "pass", .int s])
theorem OneAt.ed {S : List Addr} {H H' : Hp} {t : Addr} {d : SD} (e : Vc.Ed S H H') (h : OneAt H t d) : OneAt H' t d := by
  have h := h.at_
  match d, h with
  | .wr a vs, ⟨v, h1, h2⟩ => exact ⟨v, e.tup _ _ h1, e.tup _ _ h2⟩
  | .sy, h => exact ⟨e.tup _ _ h⟩
  | .ps s, h => exact ⟨e.tup _ _ h⟩
/-- within what the law draws -/
def SD.Dr : SD → Prop
  | .wr a vs => 0 ≤ a ∧ a < 24 ∧ 1 ≤ vs.length ∧ vs.length ≤ 4 ∧ ∀ v ∈ vs, 0 ≤ v ∧ v < 256
  | .sy => True
  | .ps s => 0 ≤ s ∧ s < 6
theorem SD.Dr.sm : ∀ {d : SD}, d.Dr → d.Sm
  | .wr a vs, ⟨h1, h2, _, h4, h5⟩ => ⟨show a.natAbs < 10 ^ 40 by omega, show vs.length ≤ 20 by omega, fun v hv => by have := h5 v hv; omega⟩
  | .sy, _ => trivial
  | .ps s, ⟨h1, h2⟩ => show s.natAbs < 10 ^ 40 by omega
theorem wr_none {a : Int} {vs : List Int} (h : (SD.wr a vs).Dr) : wrErr a vs = none := by
  obtain ⟨h1, h2, _, _, h5⟩ := h
  have hb : ∀ v ∈ vs, notByte v = false := fun v hv => by
    have := h5 v hv
    unfold notByte
    rw [decide_eq_true (by omega)]
    rfl
  unfold wrErr
  rw [if_neg (by omega), findIdx_none hb]
  rfl
theorem go_ixG {K : PySem.W.Frag} {H : Hp} {Q : VK} {g : Addr} {xs : List V} {i : Int} {v : V} (hg : SqL K H g xs ∨ SqT K H g xs) (h : atI xs i = some v) (q : Q v H) : rIx K (.ref g) (.int i) H Q :=
  hg.elim (fun hl => .inl ⟨g, xs, i, v, rfl, rfl, hl, h, q⟩) fun ht => .inr (.inl ⟨g, xs, i, v, rfl, rfl, ht, h, q⟩)
def spLawWrite (A : Ad) (K : PySem.W.Frag) : Sp := fun vs H Q E => ∃ (a : Int) (g : Addr) (ns : List Int), vs = [.int a, .ref g] ∧ (SqL K H g (ns.map V.int) ∨ SqT K H g (ns.map V.int)) ∧ 1 ≤ ns.length ∧ ns.length ≤ 4 ∧
  (∀ b i, wrErr a ns = some (b, i) → ∀ d H', Vc.Ed [] H H' → H' d = some (.xd [("at", .int i)]) → E (.ref (if b = true then A.C_BadAddress else A.C_BadByte)) (some d) H') ∧
  (wrErr a ns = none → ∀ p H', Vc.Ed [] H H' → H p = none → StepAt A H' p (.wr a ns) → Q (.ref p) H')
def spDrawn : Sp := fun vs H Q _ => ∃ (b c : Addr) (n : Nat), vs = [.ref b] ∧ Pen H b c n ∧ n ≤ 900 ∧ ∀ t d H', Vc.Ed [b] H H' → Pen H' b c (n + 10) → OneAt H' t d → d.Dr → Q (.ref t) H'
def spNear23 : Sp := fun vs H Q _ => ∃ (b c t : Addr) (d : SD) (n : Nat), vs = [.ref b, .ref t] ∧ Pen H b c n ∧ n ≤ 800 ∧ OneAt H t d ∧ d.Dr ∧ ∀ u e H', Vc.Ed [b] H H' → Pen H' b c (n + 20) → OneAt H' u e → e.Dr → Q (.ref u) H'
def spLawStep (A : Ad) : Sp := fun vs H Q _ => ∃ (t : Addr) (d : SD), vs = [.ref t] ∧ OneAt H t d ∧ d.Dr ∧ ∀ p H', Vc.Ed [] H H' → H p = none → StepAt A H' p d → Q (.ref p) H'
section
variable {w : World} {K : PySem.W.Frag} {mg : Str → Option Value} {base : Heap} {A : Ad}
theorem ok__law_write (T : Txt K mg A) : FnOk PG w K mg base (CX PG w) 6 A.f__law_write A.d__law_write ["_law_at", "_law_given"] (spLawWrite A K) := by
  have G_Writeu_initu := ok_Writeu_initu (w := w) (base := base) T
  refine T.F__law_write.okX sc__law_write (fun vs H Q E h => ?_) (fun cdv Ar outer s H vs Q E hr h => ?_)
  · obtain ⟨a, g, ns, rfl, _⟩ := h
    rfl
  · obtain ⟨a, g, ns, rfl, hg, l1, l4, kE, kQ⟩ := h
    have mk : ∀ (p px v : Addr) (H1 : Hp), H p = none → H px = none → px ≠ p → upd (upd H px (.own p)) p (.ins A.C_Write px []) = H1 → H1 v = none → spWrite A [.ref p, .int a, .ref v] (upd H1 v (.tup (ns.map V.int))) (fun v H2 => v = .non ∧ Q (.ref p) H2) E := fun p px v H1 np npx ne hu nv => by
      obtain ⟨e1, hp, _⟩ := Vc.allocI hu np npx ne
      generalize hu2 : upd _ v _ = H2
      obtain ⟨e2, hv⟩ := Vc.alloc hu2 nv
      refine ⟨p, px, v, a, ns, rfl, e2.at0 hp, hv, by omega, fun b i he d H' e hd => kE b i he d H' ((e1.ex e2).ex e) hd, fun he H' e hS => ⟨rfl, kQ he p H' ((e1.ex e2).one e (.inr np)) np hS⟩⟩
    refine ⟨_, (pss_cons (ps_if (pt_cmpR op_lt (pe_callB call_len_seq (by rfl) T.n_len (by decide +kernel) (pa_cons (pv 1) pa_nil)) pe_int (nomark _)) (pss_one (ps_ret (pe_ifExp (pt_cmpR op_eq (pe_callB call_len_seq (by rfl) T.n_len (by decide +kernel) (pa_cons (pv 1) pa_nil)) pe_int (nomark _)) (Vc.pe_makeV T.mk_Write G_Writeu_initu (by exact hr.mono (by decide)) (by rfl) T.g_Write (fun σ => passAt (takes_of rfl rfl rfl rfl) σ) (pa_cons (pv 0) (pa_cons (pe_ix ix_seq (pv 1) pe_int (fun _ _ => rfl)) pa_nil))) (Vc.pe_makeV T.mk_Write G_Writeu_initu (by exact hr.mono (by decide)) (by rfl) T.g_Write (fun σ => passAt (takes_of rfl rfl rfl rfl) σ) (pa_cons (pv 0) (pa_cons (pe_ix ix_seq (pv 1) pe_int (fun _ _ => rfl)) (pa_cons (pe_ix ix_seq (pv 1) pe_int (fun _ _ => rfl)) pa_nil))))))) pss_nil) (pss_cons (ps_if (pt_cmpR op_eq (pe_callB call_len_seq (by rfl) T.n_len (by decide +kernel) (pa_cons (pv 1) pa_nil)) pe_int (nomark _)) (pss_one (ps_ret (Vc.pe_makeV T.mk_Write G_Writeu_initu (by exact hr.mono (by decide)) (by rfl) T.g_Write (fun σ => passAt (takes_of rfl rfl rfl rfl) σ) (pa_cons (pv 0) (pa_cons (pe_ix ix_seq (pv 1) pe_int (fun _ _ => rfl)) (pa_cons (pe_ix ix_seq (pv 1) pe_int (fun _ _ => rfl)) (pa_cons (pe_ix ix_seq (pv 1) pe_int (fun _ _ => rfl)) pa_nil))))))) pss_nil) (pss_one (ps_ret (Vc.pe_makeV T.mk_Write G_Writeu_initu (by exact hr.mono (by decide)) (by rfl) T.g_Write (fun σ => passAt (takes_of rfl rfl rfl rfl) σ) (pa_cons (pv 0) (pa_cons (pe_ix ix_seq (pv 1) pe_int (fun _ _ => rfl)) (pa_cons (pe_ix ix_seq (pv 1) pe_int (fun _ _ => rfl)) (pa_cons (pe_ix ix_seq (pv 1) pe_int (fun _ _ => rfl)) (pa_cons (pe_ix ix_seq (pv 1) pe_int (fun _ _ => rfl)) pa_nil)))))))))), ?_⟩
    rcases ns with _ | ⟨n1, _ | ⟨n2, _ | ⟨n3, _ | ⟨n4, _ | ⟨n5, r⟩⟩⟩⟩⟩
    · exact absurd l1 (by decide)
    · walk_at "go"
      refine ⟨g, _, rfl, hg, ?_⟩
      walk_at "go"
      refine Vc.go_iteT' (by show (1 : Int) < 3; decide) ?_
      walk_at "go"
      refine ⟨g, _, rfl, hg, ?_⟩
      walk_at "go"
      refine Vc.go_iteT' (by show (1 : Int) = 1; rfl) ?_
      walk_at "go"
      refine go_ixG hg rfl ?_
      walk_at "go"
      intro p px np npx ne
      refine ⟨[.ref p, .int a], [.int n1], rfl, rfl, by show 1 ≤ sizeLine; decide, fun v nv => ?_⟩
      exact mk p px v _ np npx ne rfl nv
    · walk_at "go"
      refine ⟨g, _, rfl, hg, ?_⟩
      walk_at "go"
      refine Vc.go_iteT' (by show (2 : Int) < 3; decide) ?_
      walk_at "go"
      refine ⟨g, _, rfl, hg, ?_⟩
      walk_at "go"
      refine Vc.go_iteF' (by show ¬ (2 : Int) = 1; decide) ?_
      walk_at "go"
      refine go_ixG hg rfl ?_
      walk_at "go"
      refine go_ixG hg rfl ?_
      walk_at "go"
      intro p px np npx ne
      refine ⟨[.ref p, .int a], [.int n1, .int n2], rfl, rfl, by show 2 ≤ sizeLine; decide, fun v nv => ?_⟩
      exact mk p px v _ np npx ne rfl nv
    · walk_at "go"
      refine ⟨g, _, rfl, hg, ?_⟩
      walk_at "go"
      refine Vc.go_iteF' (by show ¬ (3 : Int) < 3; decide) ?_
      walk_at "go"
      refine ⟨g, _, rfl, hg, ?_⟩
      walk_at "go"
      refine Vc.go_iteT' (by show (3 : Int) = 3; rfl) ?_
      walk_at "go"
      refine go_ixG hg rfl ?_
      walk_at "go"
      refine go_ixG hg rfl ?_
      walk_at "go"
      refine go_ixG hg rfl ?_
      walk_at "go"
      intro p px np npx ne
      refine ⟨[.ref p, .int a], [.int n1, .int n2, .int n3], rfl, rfl, by show 3 ≤ sizeLine; decide, fun v nv => ?_⟩
      exact mk p px v _ np npx ne rfl nv
    · walk_at "go"
      refine ⟨g, _, rfl, hg, ?_⟩
      walk_at "go"
      refine Vc.go_iteF' (by show ¬ (4 : Int) < 3; decide) ?_
      walk_at "go"
      refine ⟨g, _, rfl, hg, ?_⟩
      walk_at "go"
      refine Vc.go_iteF' (by show ¬ (4 : Int) = 3; decide) ?_
      walk_at "go"
      refine go_ixG hg rfl ?_
      walk_at "go"
      refine go_ixG hg rfl ?_
      walk_at "go"
      refine go_ixG hg rfl ?_
      walk_at "go"
      refine go_ixG hg rfl ?_
      walk_at "go"
      intro p px np npx ne
      refine ⟨[.ref p, .int a], [.int n1, .int n2, .int n3, .int n4], rfl, rfl, by show 4 ≤ sizeLine; decide, fun v nv => ?_⟩
      exact mk p px v _ np npx ne rfl nv
    · simp only [List.length_cons] at l4
      omega
theorem ok__law_drawn (T : Txt K mg A) : FnOk PG w K mg base CX0 2 A.f__law_drawn A.d__law_drawn ["_law_pen_here"] spDrawn := by
  have G__law_draw := ok__law_draw (P := PG) (w := w) (base := base) T
  refine T.F__law_drawn.ok sc__law_drawn (fun vs H Q E h => ?_) (fun cdv Ar outer s H vs Q E hr h => ?_)
  · obtain ⟨b, c, n, rfl, _⟩ := h
    rfl
  · obtain ⟨b, c, n, rfl, hB, nl, k⟩ := h
    refine ⟨_, (pss_cons (ps_set (i := 1) sc__law_drawn.nd rfl (Or.inl rfl) (pe_call G__law_draw (by exact hr.mono (by decide)) (by rfl) T.g__law_draw T.F__law_draw.kp T.b__law_draw .nil pass0 (pa_cons (pv 0) (pa_cons pe_int pa_nil)))) (pss_cons (ps_if (pt_cmpR op_lt (pv 1) pe_int (nomark _)) (pss_one (ps_ret (pe_ix ix_list (pe_lst (pa_cons (pe_tup (pa_cons pe_str pa_nil)) (pa_cons (pe_tup (pa_cons pe_str (pa_cons (pe_call G__law_draw (by exact hr.mono (by decide)) (by rfl) T.g__law_draw T.F__law_draw.kp T.b__law_draw .nil pass0 (pa_cons (pv 0) (pa_cons pe_int pa_nil))) pa_nil))) pa_nil))) (pv 1) (fun _ _ => rfl)))) pss_nil) (pss_one (ps_ret (pe_tup (pa_cons pe_str (pa_cons (pe_call G__law_draw (by exact hr.mono (by decide)) (by rfl) T.g__law_draw T.F__law_draw.kp T.b__law_draw .nil pass0 (pa_cons (pv 0) (pa_cons pe_int pa_nil))) (pa_cons (pe_callTy Vc.call_tupD (by rfl) T.n_tuple (by decide +kernel) (pa_cons (pe_lc (own := [("_law_k", 2)]) (g := gName 2) rfl sc__law_drawn.nd (pi_range1 (by rfl) T.n_range (pa_cons (pe_op op_add pe_int (pe_call G__law_draw (by exact hr.mono (by decide)) (by rfl) T.g__law_draw T.F__law_draw.kp T.b__law_draw .nil pass0 (pa_cons (pv 0) (pa_cons pe_int pa_nil)))) pa_nil)) (blkOk_by (own := [("_law_k", 2)]) (N := ["_law_pen_here", "_law_way", "_law_k"]) (sc := defScope s__law_drawn) (by decide +kernel)) (fun _ _ _ _ _ => by exact (pg_name (i := 2) sc__law_drawn.nd rfl (Or.inl rfl))) (fun _ _ _ _ _ => by exact pts_nil) (fun _ _ _ _ _ => by (refine' Vc.blkE ?h ?q; (case h => exact (pe_call G__law_draw (by exact hr.mono (by decide)) (by rfl) T.g__law_draw T.F__law_draw.kp T.b__law_draw .nil pass0 (pa_cons (pv 0) (pa_cons pe_int pa_nil)))); (case q => first | exact rfl | (dsimp only; done) | (dsimp only; exact rfl))))) pa_nil)) pa_nil)))))))), ?_⟩
    walk_at "go"
    refine ⟨b, c, n, 4, rfl, hB, by show n ≤ 1000000; omega, by omega, by omega, fun i H1 i0 i1 e1 hB1 => ?_⟩
    walk_at "go"
    refine Vc.go_ite (fun h1 => ?_) (fun h1 => ?_)
    · walk_at "go"
      intro a1 na1
      generalize hu2 : upd _ a1 _ = H2
      obtain ⟨e2, ha1⟩ := Vc.alloc hu2 na1
      have hB2 := hB1.ed0 e2
      walk_at "go"
      refine ⟨b, c, n + 1, 6, rfl, hB2, by show n + 1 ≤ 1000000; omega, by omega, by omega, fun s H3 s0 s1 e3 hB3 => ?_⟩
      walk_at "go"
      intro a2 na2
      generalize hu4 : upd _ a2 _ = H4
      obtain ⟨e4, ha2⟩ := Vc.alloc hu4 na2
      walk_at "go"
      intro l nl5
      generalize hu5 : upd _ l _ = H5
      obtain ⟨e5, hl⟩ := Vc.alloc hu5 nl5
      have e15 : Vc.Ed [b] H H5 := (((e1.ex e2).trans e3 fun _ z => .inl z).ex e4).ex e5
      have g1 := e5.tup _ _ (e4.tup _ _ (e3.tup _ _ ha1))
      have g2 := e5.tup _ _ ha2
      obtain ⟨a, d, hv, hO, hD⟩ : ∃ (a : Addr) (d : SD), atI [V.ref a1, .ref a2] i = some (.ref a) ∧ OneAt H5 a d ∧ d.Dr := by
        have : i = 0 ∨ i = 1 := by omega
        rcases this with rfl | rfl
        · exact ⟨a1, .sy, rfl, ⟨g1⟩, trivial⟩
        · exact ⟨a2, .ps s, rfl, ⟨g2⟩, s0, s1⟩
      walk_at "go"
      exact k a d H5 e15 (((hB3.ed0 e4).ed0 e5).up (by omega)) hO hD
    · walk_at "go"
      refine ⟨b, c, n + 1, 24, rfl, hB1, by show n + 1 ≤ 1000000; omega, by omega, by omega, fun a H2 a0 a1 e2 hB2 => ?_⟩
      walk_at "go"
      refine ⟨b, c, n + 1 + 1, 4, rfl, hB2, by show n + 1 + 1 ≤ 1000000; omega, by omega, by omega, fun m H3 m0 m1 e3 hB3 => ?_⟩
      walk_at "go"
      refine ⟨by omega, by omega, Vc.lc_by walk_range (fun L j H' => Vc.Ed [b] H3 H' ∧ Pen H' b c (n + 1 + 1 + 1 + j) ∧ ∃ vs : List Int, vs.length = j ∧ (∀ v ∈ vs, 0 ≤ v ∧ v < 256) ∧ H' L = some (.lst (vs.map V.int))) (fun L H4 nL e4 hL => ⟨e4.mono (fun _ z => nomatch z), hB3.ed0 e4, [], rfl, (fun _ z => nomatch z), hL⟩) (fun _ _ _ _ _ _ => trivial) ?_ ?_⟩
      · rintro L j x H4 H5 nL hj ⟨e4, hB4, vs, lv, hv, hL⟩ ⟨rfl, rfl⟩
        walk_at "go"
        refine ⟨rfl, ?_⟩
        walk_at "go"
        have j4 : j < 4 := by omega
        refine ⟨b, c, n + 1 + 1 + 1 + j, 256, rfl, hB4, by show n + 1 + 1 + 1 + j ≤ 1000000; omega, by omega, by omega, fun v H6 v0 v1 e6 hB6 => ?_⟩
        have nb := hB3.fb nL
        have hL6 := e6.at1 nb.1.symm hL
        refine ⟨_, hL6, small1000 (by rw [List.length_map]; omega), ?_⟩
        generalize hu7 : upd _ L _ = H7
        obtain ⟨e7, hL7⟩ := Vc.chg hu7 hL6
        refine ⟨(e4.trans e6 fun _ z => .inl z).one e7 (.inr nL), hB6.ed1 e7 nb.1 nb.2, vs ++ [v], by rw [List.length_append, lv]; rfl, fun u hu => ?_, by rw [List.map_append]; exact hL7⟩
        rcases List.mem_append.mp hu with h | h
        · exact hv u h
        · rw [List.mem_singleton.mp h]; exact ⟨v0, v1⟩
      · rintro L H4 nL ⟨e4, hB4, vs, lv, hv, hL⟩
        walk_at "go"
        intro v nv
        generalize hu5 : upd _ v _ = H5
        obtain ⟨e5, hv5⟩ := Vc.alloc hu5 nv
        walk_at "go"
        intro t nt
        generalize hu6 : upd _ t _ = H6
        obtain ⟨e6, ht6⟩ := Vc.alloc hu6 nt
        have e06 : Vc.Ed [b] H H6 := (((((e1.trans e2 fun _ z => .inl z).trans e3 fun _ z => .inl z).trans e4 fun _ z => .inl z).ex e5).ex e6)
        exact k t (.wr a vs) H6 e06 (((hB4.ed0 e5).ed0 e6).up (by omega)) ⟨v, ht6, e6.tup _ _ hv5⟩ ⟨a0, a1, by omega, by omega, hv⟩
theorem catA_any {H : Hp} {Q : VK} {a b : Addr} {xs ys : List Int} (ha : H a = some (.tup (xs.map V.int))) (hb : H b = some (.tup (ys.map V.int))) (l : xs.length + ys.length ≤ 1000)
    (k : ∀ q H', Vc.Ed [] H H' → H' q = some (.tup ((xs ++ ys).map V.int)) → Q (.ref q) H') : rCatA K (.ref a) (.ref b) H Q := by
  refine ⟨a, b, xs.map V.int, ys.map V.int, rfl, rfl, .of ha, .of hb, by rw [List.length_map, List.length_map]; exact Nat.le_of_lt (small1000 l), fun z => ?_, fun _ z => ?_, fun _ _ q nq => ?_⟩
  · refine k b H .refl ?_
    rw [List.map_append, z]; exact hb
  · refine k a H .refl ?_
    rw [List.map_append, z, List.append_nil]; exact ha
  · refine k q _ (.new nq) ?_
    rw [List.map_append]; exact upd_same
theorem ok__law_near (T : Txt K mg A) : FnOk PG w K mg base CX0 3 A.f__law_near A.d__law_near ["_law_pen_here", "_law_one"] spNear23 := by
  have G__law_draw := ok__law_draw (P := PG) (w := w) (base := base) T
  have G__law_drawn := ok__law_drawn (w := w) (base := base) T
  refine T.F__law_near.ok sc__law_near (fun vs H Q E h => ?_) (fun cdv Ar outer s H vs Q E hr h => ?_)
  · obtain ⟨b, c, t, d, n, rfl, _⟩ := h
    rfl
  · obtain ⟨b, c, t, d, n, rfl, hB, nl, hO, hD, k⟩ := h
    refine ⟨_, (Evl.pss_cut (ps_if (PW.pt (pw_and (pt_cmpR op_eq (pe_ix ix_tup (pv 1) pe_int (fun _ _ => rfl)) pe_str (nomark _)) (pw_and1 (pt_cmpR op_eq (pe_call G__law_draw (by exact hr.mono (by decide)) (by rfl) T.g__law_draw T.F__law_draw.kp T.b__law_draw .nil pass0 (pa_cons (pv 0) (pa_cons pe_int pa_nil))) pe_int (nomark _))))) (pss_cons (ps_par (i := 2) (j := 3) (by rfl) sc__law_near.nd rfl rfl (by decide) rfl rfl (pa_cons (pe_call G__law_draw (by exact hr.mono (by decide)) (by rfl) T.g__law_draw T.F__law_draw.kp T.b__law_draw .nil pass0 (pa_cons (pv 0) (pa_cons (pe_callB call_len_seq (by rfl) T.n_len (by decide +kernel) (pa_cons (pe_ix ix_tup (pv 1) pe_int (fun _ _ => rfl)) pa_nil)) pa_nil))) (pa_cons (pe_ix ix_tup (pv 1) pe_int (fun _ _ => rfl)) pa_nil)) (by rfl)) (pss_cons (ps_if (pt_cmpR op_eq (pe_call G__law_draw (by exact hr.mono (by decide)) (by rfl) T.g__law_draw T.F__law_draw.kp T.b__law_draw .nil pass0 (pa_cons (pv 0) (pa_cons pe_int pa_nil))) pe_int (nomark _)) (pss_one (ps_ret (pe_tup (pa_cons pe_str (pa_cons (pe_op op_mod (pe_callTy call_int1 (by rfl) T.n_int (by decide +kernel) (pa_cons (pe_op op_add (pe_ix ix_tup (pv 1) pe_int (fun _ _ => rfl)) pe_int) pa_nil)) pe_int) (pa_cons (pv 3) pa_nil)))))) pss_nil) (pss_one (ps_ret (pe_tup (pa_cons pe_str (pa_cons (pe_ix ix_tup (pv 1) pe_int (fun _ _ => rfl)) (pa_cons (pe_op op_catA (pe_op op_catA (pe_slice sl_tup (pv 3) po_none (po_some (pv 2))) (pe_tup (pa_cons (pe_op op_mod (pe_callTy call_int1 (by rfl) T.n_int (by decide +kernel) (pa_cons (pe_op op_add (pe_ix ix_tup (pv 3) (pv 2) (fun _ _ => rfl)) (pe_call G__law_draw (by exact hr.mono (by decide)) (by rfl) T.g__law_draw T.F__law_draw.kp T.b__law_draw .nil pass0 (pa_cons (pv 0) (pa_cons pe_int pa_nil)))) pa_nil)) pe_int) pa_nil))) (pe_slice sl_tup (pv 3) (po_some (pe_op op_add (pv 2) pe_int)) po_none)) pa_nil)))))))) pss_nil) (Evl.pss_cut (ps_if (PW.pt (pw_and (pt_cmpR op_eq (pe_ix ix_tup (pv 1) pe_int (fun _ _ => rfl)) pe_str (nomark _)) (pw_and1 (pt_cmpR op_eq (pe_call G__law_draw (by exact hr.mono (by decide)) (by rfl) T.g__law_draw T.F__law_draw.kp T.b__law_draw .nil pass0 (pa_cons (pv 0) (pa_cons pe_int pa_nil))) pe_int (nomark _))))) (pss_one (ps_ret (pe_tup (pa_cons pe_str (pa_cons (pe_op op_mod (pe_callTy call_int1 (by rfl) T.n_int (by decide +kernel) (pa_cons (pe_op op_add (pe_ix ix_tup (pv 1) pe_int (fun _ _ => rfl)) (pe_call G__law_draw (by exact hr.mono (by decide)) (by rfl) T.g__law_draw T.F__law_draw.kp T.b__law_draw .nil pass0 (pa_cons (pv 0) (pa_cons pe_int pa_nil)))) pa_nil)) pe_int) pa_nil))))) pss_nil) (pss_one (ps_ret (pe_ix ix_list (pe_lst (pa_cons (pv 1) (pa_cons (pe_call G__law_drawn (by exact hr.mono (by decide)) (by rfl) T.g__law_drawn T.F__law_drawn.kp T.b__law_drawn .nil pass0 (pa_cons (pv 0) pa_nil)) pa_nil))) (pe_call G__law_draw (by exact hr.mono (by decide)) (by rfl) T.g__law_draw T.F__law_draw.kp T.b__law_draw .nil pass0 (pa_cons (pv 0) (pa_cons pe_int pa_nil))) (fun _ _ => rfl)))))), ?_⟩
    have ho := hO.at_
    have ex : ∃ (z : Str) (r : List V), H t = some (.tup (.str z :: r)) := by
      match d, ho with
      | .wr a vs, ⟨v, ht, hv⟩ => exact ⟨_, _, ht⟩
      | .sy, ht => exact ⟨_, _, ht⟩
      | .ps s, ht => exact ⟨_, _, ht⟩
    obtain ⟨z, r, hz⟩ := ex
    have z0 : atI (V.str z :: r) 0 = some (.str z) := at_of (j := 0) (by omega) rfl
    refine Evl.q_cut (M := fun σ H' => σ = [some (.ref b), some (.ref t), none, none] ∧ Vc.Ed [b] H H' ∧ Pen H' b c (n + 1)) ?_ ?_
    · walk_at "go"
      refine Vc.go_ite (fun g => ?_) (fun g => ?_)
      · match d, hD, ho with
        | .sy, hD, ht =>
          have ht : H t = some (.tup [.str "sync"]) := ht
          rw [ht] at hz
          cases hz
          exact absurd g (by decide +kernel)
        | .ps s, hD, ht =>
          have ht : H t = some (.tup [.str "pass", .int s]) := ht
          rw [ht] at hz
          cases hz
          exact absurd g (by decide +kernel)
        | .wr a vs, hD, ⟨v, ht, hv⟩ =>
          have d1 : 0 ≤ a := hD.1
          have d2 : a < 24 := hD.2.1
          have d3 : 1 ≤ vs.length := hD.2.2.1
          have d4 : vs.length ≤ 4 := hD.2.2.2.1
          have d5 : ∀ v ∈ vs, 0 ≤ v ∧ v < 256 := hD.2.2.2.2
          walk_at "go"
          refine ⟨b, c, n, 2, rfl, hB, by show n ≤ 1000000; omega, by omega, by omega, fun i H1 i0 i1 e1 hB1 => ?_⟩
          have ht1 := e1.tup _ _ ht
          have hv1 := e1.tup _ _ hv
          walk_at "go"
          refine Vc.go_ite (fun h1 => ?_) (fun h1 => ?_)
          · walk_at "go"
            refine Vc.go_par ?_
            walk_at "go"
            rw [List.length_map]
            refine ⟨b, c, n + 1, vs.length, rfl, hB1, by show n + 1 ≤ 1000000; omega, by omega, by omega, fun j H2 j0 j1 e2 hB2 => ?_⟩
            have ht2 := e2.tup _ _ ht1
            have hv2 := e2.tup _ _ hv1
            walk_at "go"
            refine ⟨_, _, rfl, ?_⟩
            walk_at "go"
            refine ⟨b, c, n + 1 + 1, 3, rfl, hB2, by show n + 1 + 1 ≤ 1000000; omega, by omega, by omega, fun m H3 m0 m1 e3 hB3 => ?_⟩
            have ht3 := e3.tup _ _ ht2
            have hv3 := e3.tup _ _ hv2
            have e03 : Vc.Ed [b] H H3 := ((e1.trans e2 fun _ z => .inl z).trans e3 fun _ z => .inl z)
            walk_at "go"
            refine Vc.go_ite (fun h2 => ?_) (fun h2 => ?_)
            · walk_at "go"
              intro u nu
              generalize hu4 : upd _ u _ = H4
              obtain ⟨e4, hu4'⟩ := Vc.alloc hu4 nu
              exact k u (.wr ((a + 1) % 24) vs) H4 (e03.ex e4) ((hB3.ed0 e4).up (by omega)) ⟨v, hu4', e4.tup _ _ hv3⟩ ⟨Int.emod_nonneg _ (by decide), Int.emod_lt_of_pos _ (by decide), d3, d4, d5⟩
            · obtain ⟨jn, rfl⟩ : ∃ jn : Nat, j = jn := ⟨j.toNat, by omega⟩
              obtain ⟨y, hy⟩ : ∃ y, vs[jn]? = some y := ⟨_, List.getElem?_eq_getElem (by omega)⟩
              have yb := d5 y (List.mem_of_getElem? hy)
              have hyv : atI (vs.map V.int) (jn : Int) = some (.int y) := at_of (j := jn) (by omega) (by rw [List.getElem?_map, hy]; rfl)
              walk_at "go"
              refine ⟨v, _, rfl, .of hv3, fun z => ?_, fun p1 np1 => ?_⟩
              · have := z.2
                rw [HT.sIx_nat, List.length_map] at this
                omega
              generalize hu4 : upd _ p1 _ = H4
              obtain ⟨e4, hp1⟩ := Vc.alloc hu4 np1
              rw [Vc.cut_take, ← List.map_take] at hp1
              have hv4 := e4.tup _ _ hv3
              walk_at "go"
              refine ⟨b, c, n + 1 + 1 + 1, 2, rfl, hB3.ed0 e4, by show n + 1 + 1 + 1 ≤ 1000000; omega, by omega, by omega, fun q H5 q0 q1 e5 hB5 => ?_⟩
              walk_at "go"
              intro p2 np2
              generalize hu6 : upd _ p2 _ = H6
              obtain ⟨e6, hp2⟩ := Vc.alloc hu6 np2
              have hp2 : H6 p2 = some (.tup ([(y + q) % 256].map V.int)) := hp2
              have hp16 := e6.tup _ _ (e5.tup _ _ hp1)
              walk_at "go"
              refine catA_any hp16 hp2 (by have := List.length_take_le jn vs; show _ + 1 ≤ 1000; omega) fun p3 H7 e7 hp3 => ?_
              have hv7 := e7.tup _ _ (e6.tup _ _ (e5.tup _ _ hv4))
              walk_at "go"
              refine ⟨v, _, rfl, .of hv7, fun z => ?_, fun p4 np4 => ?_⟩
              · have := z.1
                rw [show ((jn : Int) + 1) = ((jn + 1 : Nat) : Int) by omega, HT.sIx_nat, List.length_map] at this
                omega
              generalize hu8 : upd _ p4 _ = H8
              obtain ⟨e8, hp4⟩ := Vc.alloc hu8 np4
              rw [show ((jn : Int) + 1) = ((jn + 1 : Nat) : Int) by omega, Vc.cut_drop, ← List.map_drop] at hp4
              walk_at "go"
              refine catA_any (e8.tup _ _ hp3) hp4 (by rw [List.length_append, List.length_drop]; have := List.length_take_le jn vs; show _ + 1 + _ ≤ 1000; omega) fun p5 H9 e9 hp5 => ?_
              walk_at "go"
              intro u nu
              generalize hu10 : upd _ u _ = H10
              obtain ⟨e10, hu'⟩ := Vc.alloc hu10 nu
              have e510 : Vc.Ed [] H5 H10 := (((e6.ex e7).ex e8).ex e9).ex e10
              have e010 : Vc.Ed [b] H H10 := ((e03.ex e4).trans e5 fun _ z => .inl z).ex e510
              refine k u (.wr a (vs.take jn ++ [(y + q) % 256] ++ vs.drop (jn + 1))) H10 e010 ((hB5.ed0 e510).up (by omega)) ⟨p5, hu', e10.tup _ _ hp5⟩ ⟨d1, d2, ?_, ?_, fun w hw => ?_⟩
              · rw [List.length_append, List.length_append]
                show 1 ≤ _ + 1 + _
                omega
              · rw [List.length_append, List.length_append, List.length_take, List.length_drop]
                show _ + 1 + _ ≤ 4
                omega
              · rcases List.mem_append.mp hw with hw | hw
                · rcases List.mem_append.mp hw with hw | hw
                  · exact d5 w (List.mem_of_mem_take hw)
                  · rw [List.mem_singleton.mp hw]
                    exact ⟨Int.emod_nonneg _ (by decide), Int.emod_lt_of_pos _ (by decide)⟩
                · exact d5 w (List.mem_of_mem_drop hw)
          · walk_at "go"
            exact ⟨rfl, e1, hB1⟩
      · walk_at "go"
        exact ⟨rfl, .refl, hB.up (by omega)⟩
    rintro σ H1 ⟨rfl, e1, hB1⟩
    have hz1 := e1.tup _ _ hz
    refine Evl.q_cut (M := fun σ H' => σ = [some (.ref b), some (.ref t), none, none] ∧ Vc.Ed [b] H H' ∧ Pen H' b c (n + 1 + 1)) ?_ ?_
    · walk_at "go"
      refine Vc.go_ite (fun g => ?_) (fun g => ?_)
      · match d, hD, ho with
        | .sy, hD, ht =>
          have ht : H t = some (.tup [.str "sync"]) := ht
          rw [ht] at hz
          cases hz
          exact absurd g (by decide +kernel)
        | .wr a vs, hD, ⟨v, ht, hv⟩ =>
          rw [ht] at hz
          cases hz
          exact absurd g (by decide +kernel)
        | .ps s, hD, ht =>
          have ht : H t = some (.tup [.str "pass", .int s]) := ht
          have ht1 := e1.tup _ _ ht
          walk_at "go"
          refine ⟨b, c, n + 1, 2, rfl, hB1, by show n + 1 ≤ 1000000; omega, by omega, by omega, fun i H2 i0 i1 e2 hB2 => ?_⟩
          have ht2 := e2.tup _ _ ht1
          walk_at "go"
          refine Vc.go_ite (fun h1 => ?_) (fun h1 => ?_)
          · walk_at "go"
            refine ⟨b, c, n + 1 + 1, 2, rfl, hB2, by show n + 1 + 1 ≤ 1000000; omega, by omega, by omega, fun j H3 j0 j1 e3 hB3 => ?_⟩
            walk_at "go"
            intro u nu
            generalize hu4 : upd _ u _ = H4
            obtain ⟨e4, hu4'⟩ := Vc.alloc hu4 nu
            exact k u (.ps ((s + j) % 6)) H4 (((e1.trans e2 fun _ z => .inl z).trans e3 fun _ z => .inl z).ex e4) ((hB3.ed0 e4).up (by omega)) ⟨hu4'⟩ ⟨Int.emod_nonneg _ (by decide), Int.emod_lt_of_pos _ (by decide)⟩
          · walk_at "go"
            exact ⟨rfl, e1.trans e2 fun _ z => .inl z, hB2⟩
      · walk_at "go"
        exact ⟨rfl, e1, hB1.up (by omega)⟩
    rintro σ H2 ⟨rfl, e2, hB2⟩
    walk_at "go"
    refine ⟨b, c, n + 1 + 1, rfl, hB2, by omega, fun u e H3 e3 hB3 hO3 hD3 => ?_⟩
    walk_at "go"
    intro l nl4
    generalize hu4 : upd _ l _ = H4
    obtain ⟨e4, hl⟩ := Vc.alloc hu4 nl4
    have hB4 := hB3.ed0 e4
    walk_at "go"
    refine ⟨b, c, n + 1 + 1 + 10, 2, rfl, hB4, by show n + 1 + 1 + 10 ≤ 1000000; omega, by omega, by omega, fun i H5 i0 i1 e5 hB5 => ?_⟩
    have hl5 := e5.at1 (hB3.fb nl4).1.symm hl
    have e25 : Vc.Ed [b] H2 H5 := (e3.ex e4).trans e5 fun _ z => .inl z
    have e05 : Vc.Ed [b] H H5 := e2.trans e25 fun _ z => .inl z
    obtain ⟨q, f, hv, hq, hf⟩ : ∃ (q : Addr) (f : SD), atI [V.ref t, .ref u] i = some (.ref q) ∧ OneAt H5 q f ∧ f.Dr := by
      have : i = 0 ∨ i = 1 := by omega
      rcases this with rfl | rfl
      · exact ⟨t, d, rfl, hO.ed e05, hD⟩
      · exact ⟨u, e, rfl, (hO3.ed e4).ed e5, hD3⟩
    walk_at "go"
    exact k q f H5 e05 (hB5.up (by omega)) hq hf
theorem ok__law_step (T : Txt K mg A) : FnOk PG w K mg base CX0 7 A.f__law_step A.d__law_step ["_law_one"] (spLawStep A) := by
  have G__law_write := ok__law_write (w := w) (base := base) T
  have G_Syncu_initu := ok_Syncu_initu (w := w) (base := base) T
  have G_Passu_initu := ok_Passu_initu (w := w) (base := base) T
  refine T.F__law_step.ok sc__law_step (fun vs H Q E h => ?_) (fun cdv Ar outer s H vs Q E hr h => ?_)
  · obtain ⟨t, d, rfl, _⟩ := h
    rfl
  · obtain ⟨t, d, rfl, hO, hD, k⟩ := h
    refine ⟨_, (pss_cons (ps_if (pt_cmpR op_eq (pe_ix ix_tup (pv 0) pe_int (fun _ _ => rfl)) pe_str (nomark _)) (pss_one (ps_ret (pe_call G__law_write (by exact hr.mono (by decide)) (by rfl) T.g__law_write T.F__law_write.kp T.b__law_write .nil passL (pa_cons (pe_ix ix_tup (pv 0) pe_int (fun _ _ => rfl)) (pa_cons (pe_ix ix_tup (pv 0) pe_int (fun _ _ => rfl)) pa_nil))))) pss_nil) (pss_one (ps_ret (pe_ifExp (pt_cmpR op_eq (pe_ix ix_tup (pv 0) pe_int (fun _ _ => rfl)) pe_str (nomark _)) (pe_make0 T.mk_Sync G_Syncu_initu (by exact hr.mono (by decide)) (by rfl) T.g_Sync T.b_Syncu_initu .nil pass0) (Vc.pe_makeK0 T.mk_Pass G_Passu_initu (by exact hr.mono (by decide)) (by rfl) T.g_Pass (kb_Passu_initu_1_stretch T.F_Passu_initu) pass0 (pk_cons (pe_ix ix_tup (pv 0) pe_int (fun _ _ => rfl)) pk_nil)))))), ?_⟩
    have ho := hO.at_
    match d, hD, ho with
    | .wr a vs, hD, ⟨v, ht, hv⟩ =>
      have n0 := wr_none hD
      obtain ⟨d1, d2, d3, d4, d5⟩ := hD
      walk_at "go"
      refine ⟨a, v, vs, rfl, .inr (.of hv), d3, d4, fun b i he => (by rw [n0] at he; cases he), fun _ p H' e np hS => k p H' e np hS⟩
    | .sy, hD, ht =>
      have ht : H t = some (.tup [.str "sync"]) := ht
      walk_at "go"
      refine Vc.go_iteF' (by decide +kernel) ?_
      walk_at "go"
      intro p px np npx ne
      generalize hu1 : upd _ p _ = H1
      obtain ⟨e1, hp1, _⟩ := Vc.allocI hu1 np npx ne
      exact ⟨p, px, rfl, hp1, fun H' e hS => ⟨rfl, k p _ (e1.one e (.inr np)) np hS⟩⟩
    | .ps s, hD, ht =>
      have ht : H t = some (.tup [.str "pass", .int s]) := ht
      walk_at "go"
      refine Vc.go_iteF' (by decide +kernel) ?_
      walk_at "go"
      refine Vc.go_iteF' (by decide +kernel) ?_
      walk_at "go"
      intro p px np npx ne
      generalize hu1 : upd _ p _ = H1
      obtain ⟨e1, hp1, _⟩ := Vc.allocI hu1 np npx ne
      exact ⟨p, px, s, rfl, hp1, fun H' e hS => ⟨rfl, k p _ (e1.one e (.inr np)) np hS⟩⟩
end

end My
namespace My
open PySem PySem.Spec PyProof.Rows L2
/-! ### k23: steps asked -/
def SD.hd : SD → Str
  | .wr _ _ => "write"
  | .sy => "sync"
  | .ps _ => "pass"
def SD.nums : SD → List Int
  | .wr a _ => [a]
  | .sy => []
  | .ps s => [s]
def tS (n : Int) : Str := Str.ofString (toString n)
theorem sd_ws : ∀ d : SD, d.ws = d.hd :: d.nums.map tS ++ d.vals.map tS
  | .wr _ _ => rfl
  | .sy => rfl
  | .ps _ => rfl
theorem nums40 : ∀ {d : SD}, d.Dr → ∀ n ∈ d.nums, n.natAbs < 10 ^ 40
  | .wr a vs, ⟨h1, h2, _⟩, n, hn => by rw [List.mem_singleton.mp hn]; show a.natAbs < 10 ^ 40; omega
  | .ps s, ⟨h1, h2⟩, n, hn => by rw [List.mem_singleton.mp hn]; show s.natAbs < 10 ^ 40; omega
theorem vals40 : ∀ {d : SD}, d.Dr → ∀ n ∈ d.vals, n.natAbs < 10 ^ 40
  | .wr a vs, ⟨_, _, _, _, h5⟩, n, hn => by have := h5 n hn; show n.natAbs < 10 ^ 40; omega
theorem nums4 : ∀ d : SD, d.nums.length ≤ 1
  | .wr _ _ => Nat.le_refl _
  | .sy => Nat.zero_le _
  | .ps _ => Nat.le_refl _
theorem vals4 : ∀ {d : SD}, d.Dr → d.vals.length ≤ 4
  | .wr _ _, ⟨_, _, _, h4, _⟩ => h4
  | .sy, _ => Nat.zero_le _
  | .ps _, _ => Nat.zero_le _
theorem OneAt.tup {H : Hp} {t : Addr} {d : SD} (h : OneAt H t d) : ∃ rest, H t = some (.tup (.str d.hd :: rest)) ∧ rest.take 1 = d.nums.map V.int ∧ rest.length ≤ 2 := by
  have h := h.at_
  match d, h with
  | .wr a vs, ⟨v, h1, h2⟩ => exact ⟨_, h1, rfl, by show 2 ≤ 2; decide⟩
  | .sy, h => exact ⟨_, h, rfl, by show 0 ≤ 2; decide⟩
  | .ps s, h => exact ⟨_, h, rfl, by show 1 ≤ 2; decide⟩
def SD.isWr : SD → Bool
  | .wr _ _ => true
  | _ => false
theorem hd_wr : ∀ d : SD, decide (d.hd = ("write" : Str)) = d.isWr
  | .wr _ _ => by show decide (("write" : Str) = "write") = true; decide +kernel
  | .sy => by show decide (("sync" : Str) = "write") = false; decide +kernel
  | .ps _ => by show decide (("pass" : Str) = "write") = false; decide +kernel
theorem OneAt.wr {H : Hp} {t : Addr} {d : SD} (h : OneAt H t d) (b : d.isWr = true) : ∃ a v, H t = some (.tup [.str "write", .int a, .ref v]) ∧ H v = some (.tup (d.vals.map V.int)) := by
  have h := h.at_
  match d, h, b with
  | .wr a vs, ⟨v, h1, h2⟩, _ => exact ⟨a, v, h1, h2⟩
theorem no_vals : ∀ {d : SD}, d.isWr = false → d.vals = []
  | .sy, _ => rfl
  | .ps _, _ => rfl
theorem isWr_ex : ∀ {d : SD}, d.isWr = true → ∃ a vs, d = .wr a vs
  | .wr a vs, _ => ⟨a, vs, rfl⟩
theorem kit_word {K : PySem.W.Frag} {mg : Str → Option Value} {A : Ad} (T : Txt K mg A) : ∀ d : SD, PySem.W.kitOne K (.ref (d.cls A)) (.ref A.C_Word) = some (!d.isWr)
  | .wr _ _ => T.kit_Write_Word
  | .sy => T.kit_Sync_Word
  | .ps _ => T.kit_Pass_Word
theorem kit_wr {K : PySem.W.Frag} {mg : Str → Option Value} {A : Ad} (T : Txt K mg A) : ∀ d : SD, PySem.W.kitOne K (.ref (d.cls A)) (.ref A.C_Write) = some d.isWr
  | .wr _ _ => T.ic_Write.me
  | .sy => T.kit_Sync_Write
  | .ps _ => T.kit_Pass_Write
def SD.isSy : SD → Bool
  | .sy => true
  | _ => false
def SD.isPs : SD → Bool
  | .ps _ => true
  | _ => false
theorem isPs_ex : ∀ {d : SD}, d.isPs = true → ∃ s, d = .ps s
  | .ps s, _ => ⟨s, rfl⟩
theorem hd_sy : ∀ d : SD, decide (d.hd = ("sync" : Str)) = d.isSy
  | .wr _ _ => by show decide (("write" : Str) = "sync") = false; decide +kernel
  | .sy => by show decide (("sync" : Str) = "sync") = true; decide +kernel
  | .ps _ => by show decide (("pass" : Str) = "sync") = false; decide +kernel
theorem hd_ps : ∀ d : SD, decide (d.hd = ("pass" : Str)) = d.isPs
  | .wr _ _ => by show decide (("write" : Str) = "pass") = false; decide +kernel
  | .sy => by show decide (("sync" : Str) = "pass") = false; decide +kernel
  | .ps _ => by show decide (("pass" : Str) = "pass") = true; decide +kernel
theorem kit_sy {K : PySem.W.Frag} {mg : Str → Option Value} {A : Ad} (T : Txt K mg A) : ∀ d : SD, PySem.W.kitOne K (.ref (d.cls A)) (.ref A.C_Sync) = some d.isSy
  | .wr _ _ => T.kit_Write_Sync
  | .sy => T.ic_Sync.me
  | .ps _ => T.kit_Pass_Sync
theorem kit_ps {K : PySem.W.Frag} {mg : Str → Option Value} {A : Ad} (T : Txt K mg A) : ∀ d : SD, PySem.W.kitOne K (.ref (d.cls A)) (.ref A.C_Pass) = some d.isPs
  | .wr _ _ => T.kit_Write_Pass
  | .sy => T.kit_Sync_Pass
  | .ps _ => T.ic_Pass.me
theorem wo_b : ∀ d : SD, d.words = if (!d.isWr) = true then 1 else 0
  | .wr _ _ => rfl
  | .sy => rfl
  | .ps _ => rfl
theorem wr_b : ∀ d : SD, d.writes = if d.isWr = true then 1 else 0
  | .wr _ _ => rfl
  | .sy => rfl
  | .ps _ => rfl
theorem nf_tup {K : PySem.W.Frag} {mg : Str → Option Value} {A : Ad} (T : Txt K mg A) : ∀ d : SD, PySem.W.notFirst K (d.cls A) (.type "tuple") = true
  | .wr _ _ => T.nf_tuple_Write
  | .sy => T.nf_tuple_Sync
  | .ps _ => T.nf_tuple_Pass
theorem nf_str {K : PySem.W.Frag} {mg : Str → Option Value} {A : Ad} (T : Txt K mg A) : ∀ d : SD, PySem.W.notFirst K (d.cls A) (.type "str") = true
  | .wr _ _ => T.nf_str_Write
  | .sy => T.nf_str_Sync
  | .ps _ => T.nf_str_Pass
theorem nf_int {K : PySem.W.Frag} {mg : Str → Option Value} {A : Ad} (T : Txt K mg A) : ∀ d : SD, PySem.W.notFirst K (d.cls A) (.type "int") = true
  | .wr _ _ => T.nf_int_Write
  | .sy => T.nf_int_Sync
  | .ps _ => T.nf_int_Pass
/-- lists of truths, alike -/
theorem go_neB2 {K : PySem.W.Frag} {H : Hp} {Q : VK} {p q : Addr} {a b : Bool} (e1 : SqL K H p [.bl a, .bl b]) (e2 : SqL K H q [.bl a, .bl b]) (h : Q (.bl false) H) : rNeD K (.ref p) (.ref q) H Q :=
  ⟨_, _, .lst e1 (.cons (.bl a) (.cons (.bl b) .nil)), .lst e2 (.cons (.bl a) (.cons (.bl b) .nil)), by cases a <;> cases b <;> rfl, by cases a <;> cases b <;> rfl, by cases a <;> cases b <;> exact h⟩
/-- what the law draws, as data -/
def SD.E : SD → PyData
  | .wr a vs => .tuple [.str "write", .int a, .tuple (vs.map .int)]
  | .sy => .tuple [.str "sync"]
  | .ps s => .tuple [.str "pass", .int s]
theorem pl_E : ∀ d : SD, Pl 2 d.E
  | .wr a vs => pl_tup fun x hx => by
    simp only [List.mem_cons, List.not_mem_nil, or_false] at hx
    rcases hx with rfl | rfl | rfl
    · exact pl_str (by decide +kernel)
    · exact pl_int _
    · exact pl_tup (pl_ints vs)
  | .sy => pl_tup fun x hx => by
    rw [List.mem_singleton.mp hx]
    exact pl_str (by decide +kernel)
  | .ps s => pl_tup fun x hx => by
    simp only [List.mem_cons, List.not_mem_nil, or_false] at hx
    rcases hx with rfl | rfl
    · exact pl_str (by decide +kernel)
    · exact pl_int _
theorem E_inj : ∀ d e : SD, d.E = e.E ↔ d = e
  | .wr a vs, .wr b us => by simp [SD.E, ints_inj]
  | .wr a vs, .sy => by simp [SD.E]
  | .wr a vs, .ps s => by simp [SD.E]
  | .sy, .wr b us => by simp [SD.E]
  | .sy, .sy => by simp
  | .sy, .ps s => by simp [SD.E]
  | .ps s, .wr b us => by simp [SD.E]
  | .ps s, .sy => by simp [SD.E]
  | .ps s, .ps s' => by simp [SD.E]
theorem dp_E {K : PySem.W.Frag} {H : Hp} {t : Addr} {d : SD} (h : OneAt H t d) : Dp K H (.ref t) d.E := by
  have h := h.at_
  match d, h with
  | .wr a vs, ⟨v, h1, h2⟩ => exact .tup (.of h1) (.cons (.str _) (.cons (.int _) (.cons (.tup (.of h2) (dp_ints vs)) .nil)))
  | .sy, h => exact .tup (.of h) (.cons (.str _) .nil)
  | .ps s, h => exact .tup (.of h) (.cons (.str _) (.cons (.int _) .nil))
theorem tS_all {ns : List Int} (h : ∀ n ∈ ns, n.natAbs < 10 ^ 40) : ∀ z ∈ ns.map tS, z.length ≤ 1000 := fun z hz => by
  obtain ⟨n, hn, rfl⟩ := List.mem_map.mp hz
  exact Nat.le_trans (Vc.int_sok (by decide) (h n hn)).len (by decide)
def spStepsRight : Sp := fun vs H Q _ => ∃ (b c : Addr) (n : Nat), vs = [.ref b] ∧ Pen H b c n ∧ n ≤ 700 ∧ ∀ H', Vc.Ed [b] H H' → Pen H' b c (n + 40) → Q (.bl true) H'
section
variable {w : World} {K : PySem.W.Frag} {mg : Str → Option Value} {base : Heap} {A : Ad}
theorem ok__law_steps_right (T : Txt K mg A) : Vc.FnG PG w K mg base CX0 9 A.f__law_steps_right A.d__law_steps_right ["_law_pen_here"] spStepsRight := by
  have G__law_drawn := ok__law_drawn (w := w) (base := base) T
  have G__law_near := ok__law_near (w := w) (base := base) T
  have G__law_step := ok__law_step (w := w) (base := base) T
  have G_Step_price := ok_Step_price (P := PG) (w := w) (base := base) T
  have G_Stepu_equ := ok_Stepu_equ (P := PG) (w := w) (base := base) T
  have G_Stepu_stru := ok_Stepu_stru (P := PG) (w := w) (base := base) T
  have G_Price_words := ok_Price_words (P := PG) (w := w) (base := base) T
  have G_Price_writes := ok_Price_writes (P := PG) (w := w) (base := base) T
  refine Vc.Fun.okG T.F__law_steps_right sc__law_steps_right (fun vs H Q E h => ?_) (fun cdv Ar outer s H vs Q E hgd hr h => ?_)
  · obtain ⟨b, c, n, rfl, _⟩ := h
    rfl
  · obtain ⟨b, c, n, rfl, hB, nl, k⟩ := h
    refine ⟨_, (pss_cons (ps_set (i := 1) sc__law_steps_right.nd rfl (Or.inl rfl) (pe_call G__law_drawn (by exact hr.mono (by decide)) (by rfl) T.g__law_drawn T.F__law_drawn.kp T.b__law_drawn .nil pass0 (pa_cons (pv 0) pa_nil))) (pss_cons (ps_set (i := 2) sc__law_steps_right.nd rfl (Or.inl rfl) (pe_call G__law_near (by exact hr.mono (by decide)) (by rfl) T.g__law_near T.F__law_near.kp T.b__law_near .nil pass0 (pa_cons (pv 0) (pa_cons (pv 1) pa_nil)))) (pss_cons (ps_par (i := 3) (j := 4) (by rfl) sc__law_steps_right.nd rfl rfl (by decide) rfl rfl (pa_cons (pe_call G__law_step (by exact hr.mono (by decide)) (by rfl) T.g__law_step T.F__law_step.kp T.b__law_step .nil pass0 (pa_cons (pv 1) pa_nil)) (pa_cons (pe_call G__law_step (by exact hr.mono (by decide)) (by rfl) T.g__law_step T.F__law_step.kp T.b__law_step .nil pass0 (pa_cons (pv 2) pa_nil)) pa_nil)) (by rfl)) (pss_cons (ps_set (i := 5) sc__law_steps_right.nd rfl (Or.inl rfl) (pe_cmpR op_eq (pe_ix ix_tup (pv 1) pe_int (fun _ _ => rfl)) pe_str (nomark _))) (Evl.pss_cut (ps_set (i := 6) sc__law_steps_right.nd rfl (Or.inl rfl) (pe_op op_cat (pe_lst (pa_cons (pe_ix ix_tup (pv 1) pe_int (fun _ _ => rfl)) pa_nil)) (pe_lc (own := [("_law_number_here", 8)]) (g := gName 8) rfl sc__law_steps_right.nd (pi_tup (pe_slice sl_tup (pv 1) (po_some pe_int) (po_some pe_int))) (blkOk_by (own := [("_law_number_here", 8)]) (N := ["_law_pen_here", "_law_one", "_law_two", "_law_left", "_law_right", "_law_is_write", "_law_shown", "_law_told", "_law_number_here", "_law_value"]) (sc := defScope s__law_steps_right) (by decide +kernel)) (fun _ _ _ _ _ => by exact (pg_name (i := 8) sc__law_steps_right.nd rfl (Or.inl rfl))) (fun _ _ _ _ _ => by exact pts_nil) (fun _ _ _ _ _ => by (refine' Vc.blkE ?h ?q; (case h => exact (pe_callTy (Vc.call_or SkE.call_str_str call_str_int) (by rfl) T.n_str (by decide +kernel) (pa_cons (pv 8) pa_nil))); (case q => first | exact rfl | (dsimp only; done) | (dsimp only; exact rfl))))))) (Evl.pss_cut (ps_set (i := 6) sc__law_steps_right.nd rfl (Or.inl rfl) (pe_op op_cat (pv 6) (pe_lc (own := [("_law_value", 9)]) (g := gName 9) rfl sc__law_steps_right.nd (pi_tup (pe_ifExp (pt_val (pv 5)) (pe_ix ix_tup (pv 1) pe_int (fun _ _ => rfl)) (pe_tup pa_nil))) (blkOk_by (own := [("_law_value", 9)]) (N := ["_law_pen_here", "_law_one", "_law_two", "_law_left", "_law_right", "_law_is_write", "_law_shown", "_law_told", "_law_number_here", "_law_value"]) (sc := defScope s__law_steps_right) (by decide +kernel)) (fun _ _ _ _ _ => by exact (pg_name (i := 9) sc__law_steps_right.nd rfl (Or.inl rfl))) (fun _ _ _ _ _ => by exact pts_nil) (fun _ _ _ _ _ => by (refine' Vc.blkE ?h ?q; (case h => exact (pe_callTy (Vc.call_or SkE.call_str_str call_str_int) (by rfl) T.n_str (by decide +kernel) (pa_cons (pv 9) pa_nil))); (case q => first | exact rfl | (dsimp only; done) | (dsimp only; exact rfl))))))) (pss_cons (ps_if (PW.pt (pw_or (pt_cmpR op_ne (pe_callTy (Vc.call_strP G_Stepu_stru (by exact hr.mono (by decide)) T.b_Stepu_stru) (by rfl) T.n_str (by decide +kernel) (pa_cons (pv 3) pa_nil)) (pe_join pe_str (pv 6)) (nomark _)) (pw_or1 (pt_not (pt_val (pe_callB call_isi (by rfl) T.n_isinstance (by decide +kernel) (pa_cons (pv 3) (pa_cons (pe_glob (v := .ref A.C_Step) (by rfl) T.g_Step rfl) pa_nil)))))))) (pss_one (ps_ret pe_bl)) pss_nil) (pss_cons (ps_set (i := 7) sc__law_steps_right.nd rfl (Or.inl rfl) (pe_lst (pa_cons (pe_prop (Vc.pe_propP (pv 3) G_Step_price (by exact hr.mono (by decide)) T.b_Step_price (by rfl)) T.cl_Price T.p_Price_words G_Price_words (by exact hr.mono (by decide)) T.b_Price_words .nil pass0 (by rfl)) (pa_cons (pe_prop (Vc.pe_propP (pv 3) G_Step_price (by exact hr.mono (by decide)) T.b_Step_price (by rfl)) T.cl_Price T.p_Price_writes G_Price_writes (by exact hr.mono (by decide)) T.b_Price_writes .nil pass0 (by rfl)) (pa_cons (pe_callB call_isi (by rfl) T.n_isinstance (by decide +kernel) (pa_cons (pv 3) (pa_cons (pe_glob (v := .ref A.C_Word) (by rfl) T.g_Word rfl) pa_nil))) (pa_cons (pe_callB call_isi (by rfl) T.n_isinstance (by decide +kernel) (pa_cons (pv 3) (pa_cons (pe_glob (v := .ref A.C_Write) (by rfl) T.g_Write rfl) pa_nil))) pa_nil)))))) (pss_cons (ps_if (pt_cmpR op_ne (pe_callB (Vc.call_reprD hgd (Vc.room64 hr)) (by rfl) T.n_repr (by decide +kernel) (pa_cons (pv 7) pa_nil)) (pe_callB (Vc.call_reprD hgd (Vc.room64 hr)) (by rfl) T.n_repr (by decide +kernel) (pa_cons (pe_lst (pa_cons (pe_callTy call_int1 (by rfl) T.n_int (by decide +kernel) (pa_cons (pe_not (pv 5)) pa_nil)) (pa_cons (pe_callTy call_int1 (by rfl) T.n_int (by decide +kernel) (pa_cons (pv 5) pa_nil)) (pa_cons (pe_not (pv 5)) (pa_cons (pv 5) pa_nil))))) pa_nil)) (nomark _)) (pss_one (ps_ret pe_bl)) pss_nil) (pss_cons (ps_if (pt_cmpR (op_neD (by exact hr.units)) (pe_lst (pa_cons (pe_callB call_isi (by rfl) T.n_isinstance (by decide +kernel) (pa_cons (pv 3) (pa_cons (pe_glob (v := .ref A.C_Sync) (by rfl) T.g_Sync rfl) pa_nil))) (pa_cons (pe_callB call_isi (by rfl) T.n_isinstance (by decide +kernel) (pa_cons (pv 3) (pa_cons (pe_glob (v := .ref A.C_Pass) (by rfl) T.g_Pass rfl) pa_nil))) pa_nil))) (pe_lst (pa_cons (pe_cmpR op_eq (pe_ix ix_tup (pv 1) pe_int (fun _ _ => rfl)) pe_str (nomark _)) (pa_cons (pe_cmpR op_eq (pe_ix ix_tup (pv 1) pe_int (fun _ _ => rfl)) pe_str (nomark _)) pa_nil))) (nomark _)) (pss_one (ps_ret pe_bl)) pss_nil) (Evl.pss_cut (ps_if (PW.pt (pw_and (pt_val (pv 5)) (pw_and1 (pt_cmpR op_ne (pe_callB (Vc.call_reprD hgd (Vc.room64 hr)) (by rfl) T.n_repr (by decide +kernel) (pa_cons (pe_lst (pa_cons (pe_fld (pv 3) rfl) (pa_cons (pe_fld (pv 3) rfl) pa_nil))) pa_nil)) (pe_callB (Vc.call_reprD hgd (Vc.room64 hr)) (by rfl) T.n_repr (by decide +kernel) (pa_cons (pe_lst (pa_cons (pe_ix ix_tup (pv 1) pe_int (fun _ _ => rfl)) (pa_cons (pe_ix ix_tup (pv 1) pe_int (fun _ _ => rfl)) pa_nil))) pa_nil)) (nomark _))))) (pss_one (ps_ret pe_bl)) pss_nil) (Evl.pss_cut (ps_if (PW.pt (pw_and (pt_cmpR op_eq (pe_ix ix_tup (pv 1) pe_int (fun _ _ => rfl)) pe_str (nomark _)) (pw_and1 (pt_cmpR op_ne (pe_callB (Vc.call_reprD hgd (Vc.room64 hr)) (by rfl) T.n_repr (by decide +kernel) (pa_cons (pe_fld (pv 3) rfl) pa_nil)) (pe_callB (Vc.call_reprD hgd (Vc.room64 hr)) (by rfl) T.n_repr (by decide +kernel) (pa_cons (pe_ix ix_tup (pv 1) pe_int (fun _ _ => rfl)) pa_nil)) (nomark _))))) (pss_one (ps_ret pe_bl)) pss_nil) (pss_cons (ps_set (i := 7) sc__law_steps_right.nd rfl (Or.inl rfl) (pe_lst (pa_cons (pe_cmpR (Vc.op_eqP G_Stepu_equ (by exact hr.mono (by decide)) T.b_Stepu_equ) (pv 3) (pv 4) (nomark _)) (pa_cons (pe_cmpR (Vc.op_neP G_Stepu_equ (by exact hr.mono (by decide)) T.b_Stepu_equ) (pv 3) (pv 4) (nomark _)) (pa_cons (pe_cmpR (Vc.op_eqP G_Stepu_equ (by exact hr.mono (by decide)) T.b_Stepu_equ) (pv 4) (pv 3) (nomark _)) (pa_cons (pe_cmpR (Vc.op_eqP G_Stepu_equ (by exact hr.mono (by decide)) T.b_Stepu_equ) (pv 3) (pv 1) (nomark _)) (pa_cons (pe_cmpR (Vc.op_eqP G_Stepu_equ (by exact hr.mono (by decide)) T.b_Stepu_equ) (pv 3) (pe_callTy (Vc.call_strP G_Stepu_stru (by exact hr.mono (by decide)) T.b_Stepu_stru) (by rfl) T.n_str (by decide +kernel) (pa_cons (pv 3) pa_nil)) (nomark _)) (pa_cons (pe_cmpR (Vc.op_eqP G_Stepu_equ (by exact hr.mono (by decide)) T.b_Stepu_equ) (pv 3) pe_int (nomark _)) pa_nil)))))))) (pss_one (ps_ret (pe_cmpR op_eq (pe_callB (Vc.call_reprD hgd (Vc.room64 hr)) (by rfl) T.n_repr (by decide +kernel) (pa_cons (pv 7) pa_nil)) (pe_callB (Vc.call_reprD hgd (Vc.room64 hr)) (by rfl) T.n_repr (by decide +kernel) (pa_cons (pe_lst (pa_cons (pe_cmpR (op_eqD (by exact hr.units)) (pv 1) (pv 2) (nomark _)) (pa_cons (pe_cmpR (op_neD (by exact hr.units)) (pv 1) (pv 2) (nomark _)) (pa_cons (pe_cmpR (op_eqD (by exact hr.units)) (pv 1) (pv 2) (nomark _)) (pa_cons pe_bl (pa_cons pe_bl (pa_cons pe_bl pa_nil))))))) pa_nil)) (nomark _))))))))))))))))), ?_⟩
    walk_at "go"
    refine ⟨b, c, n, rfl, hB, by omega, fun t d H1 e1 hB1 hO1 dr => ?_⟩
    walk_at "go"
    refine ⟨b, c, t, d, n + 10, rfl, hB1, by omega, hO1, dr, fun u f H2 e2 hB2 hU2 hF => ?_⟩
    have hO2 := hO1.ed e2
    walk_at "go"
    refine Vc.go_par ?_
    walk_at "go"
    refine ⟨t, d, rfl, hO2, dr, fun p H3 e3 np hS3 => ?_⟩
    walk_at "go"
    refine ⟨u, f, rfl, hU2.ed e3, hF, fun q H4 e4 nq hR4 => ?_⟩
    walk_at "go"
    refine ⟨_, _, rfl, ?_⟩
    have hS4 := hS3.ed0 e4
    have hB4 := (hB2.ed0 e3).ed0 e4
    have hO4 := (hO2.ed e3).ed e4
    have hU4 := (hU2.ed e3).ed e4
    have e04 : Vc.Ed [b] H H4 := ((e1.trans e2 fun _ z => .inl z).ex e3).ex e4
    clear hS3 hB1 hB2 hO1 hO2 hU2
    obtain ⟨rest, ht, hrest, rl⟩ := hO4.tup
    have hz0 : atI (V.str d.hd :: rest) 0 = some (.str d.hd) := at_of (j := 0) (by omega) rfl
    walk_at "go"
    rw [hd_wr]
    refine Evl.q_cut (M := fun σ H' => ∃ L, σ = [some (.ref b), some (.ref t), some (.ref u), some (.ref p), some (.ref q), some (.bl d.isWr), some (.ref L), none, none, none] ∧ Vc.Ed [] H4 H' ∧ H' L = some (.lst ((d.hd :: d.nums.map tS).map V.str))) ?_ ?_
    · walk_at "go"
      intro L1 nL1
      generalize hu5 : upd _ L1 _ = H51
      obtain ⟨e51, hL1⟩ := Vc.alloc hu5 nL1
      have ht51 := e51.tup _ _ ht
      walk_at "go"
      refine ⟨t, _, rfl, .of ht51, fun z => ?_, fun tp ntp => ?_⟩
      · have := z.1
        rw [show (1 : Int) = ((1 : Nat) : Int) by rfl, HT.sIx_nat, List.length_cons] at this
        omega
      generalize hu7 : upd _ tp _ = H7
      obtain ⟨e7, hp7⟩ := Vc.alloc hu7 ntp
      rw [show (1 : Int) = ((1 : Nat) : Int) by rfl, show (2 : Int) = ((2 : Nat) : Int) by rfl, Vc.cut_mid] at hp7
      have hp7 : H7 tp = some (.tup (rest.take 1)) := hp7
      rw [hrest] at hp7
      have hL71 := e7.at0 hL1
      walk_at "go"
      refine ⟨⟨_, .of hp7⟩, Vc.lc_by (walk_tup (xs := (d.nums).map V.int)) (fun D i H' => Vc.Ed [] H7 H' ∧ H' D = some (.lst (((d.nums).map tS).take i |>.map V.str))) (fun D Ha nD ea hD => ⟨ea, hD⟩) (fun D i H' _ _ q => .of (q.1.tup _ _ hp7)) (fun D i x Ha Hb nD hi q y => ?_) fun D Ha nD q => ?_⟩
      · obtain ⟨rfl, hx⟩ := y
        obtain ⟨ea, hD⟩ := q
        rw [List.getElem?_map] at hx
        obtain ⟨m, hm, rfl⟩ := Option.map_eq_some_iff.mp hx
        have hm40 := nums40 dr m (List.mem_of_getElem? hm)
        have hz : ((d.nums).map tS)[i]? = some (tS m) := by rw [List.getElem?_map, hm]; rfl
        walk_at "go"
        refine ⟨rfl, ?_⟩
        walk_at "go"
        refine .inr ⟨m, rfl, Vc.log10 hm40 (by decide), _, hD, small1000 (by rw [List.length_map]; have := List.length_take_le i ((d.nums).map tS); rw [List.length_map] at hi; have := nums4 d; omega), ?_⟩
        generalize huc : upd _ D _ = Hc
        obtain ⟨ec, hDc⟩ := Vc.chg huc hD
        refine ⟨ea.one ec (.inr nD), ?_⟩
        rw [hDc, take_suc hz, List.map_append]
        rfl
      · obtain ⟨ea, hD⟩ := q
        have hD : Ha D = some (.lst (((d.nums).map tS).map V.str)) := by
          rw [hD, List.length_map, List.take_of_length_le (by rw [List.length_map]; exact Nat.le_refl _)]
        walk_at "go"
        refine Vc.go_cat (ea.at0 hL71) hD (by rw [List.length_map, List.length_map]; have := nums4 d; show 1 + _ ≤ 1000; omega) fun L3 nL3 => ?_
        generalize hud : upd _ L3 _ = Hd
        obtain ⟨ed, hL3⟩ := Vc.alloc hud nL3
        walk_at "go"
        exact ⟨L3, rfl, ((e51.ex e7).ex ea).ex ed, hL3⟩
    rintro σ H5 ⟨L, rfl, e5, hL5⟩
    have ht5 := e5.tup _ _ ht
    refine Evl.q_cut (M := fun σ H' => ∃ L, σ = [some (.ref b), some (.ref t), some (.ref u), some (.ref p), some (.ref q), some (.bl d.isWr), some (.ref L), none, none, none] ∧ Vc.Ed [] H5 H' ∧ H' L = some (.lst (d.ws.map V.str))) ?_ ?_
    · cases hb : d.isWr with
      | true =>
        obtain ⟨a, v, htw, hv⟩ := (hO4.ed e5).wr hb
        have hL5 := hL5
        walk_at "go"
        refine ⟨⟨_, .of hv⟩, Vc.lc_by (walk_tup (xs := (d.vals).map V.int)) (fun D i H' => Vc.Ed [] H5 H' ∧ H' D = some (.lst (((d.vals).map tS).take i |>.map V.str))) (fun D Ha nD ea hD => ⟨ea, hD⟩) (fun D i H' _ _ q => .of (q.1.tup _ _ hv)) (fun D i x Ha Hb nD hi q y => ?_) fun D Ha nD q => ?_⟩
        · obtain ⟨rfl, hx⟩ := y
          obtain ⟨ea, hD⟩ := q
          rw [List.getElem?_map] at hx
          obtain ⟨m, hm, rfl⟩ := Option.map_eq_some_iff.mp hx
          have hm40 := vals40 dr m (List.mem_of_getElem? hm)
          have hz : ((d.vals).map tS)[i]? = some (tS m) := by rw [List.getElem?_map, hm]; rfl
          walk_at "go"
          refine ⟨rfl, ?_⟩
          walk_at "go"
          refine .inr ⟨m, rfl, Vc.log10 hm40 (by decide), _, hD, small1000 (by rw [List.length_map]; have := List.length_take_le i ((d.vals).map tS); rw [List.length_map] at hi; have := vals4 dr; omega), ?_⟩
          generalize huc : upd _ D _ = Hc
          obtain ⟨ec, hDc⟩ := Vc.chg huc hD
          refine ⟨ea.one ec (.inr nD), ?_⟩
          rw [hDc, take_suc hz, List.map_append]
          rfl
        · obtain ⟨ea, hD⟩ := q
          have hD : Ha D = some (.lst (((d.vals).map tS).map V.str)) := by
            rw [hD, List.length_map, List.take_of_length_le (by rw [List.length_map]; exact Nat.le_refl _)]
          walk_at "go"
          refine Vc.go_cat (ea.at0 hL5) hD (by simp only [List.length_map, List.length_cons]; have := nums4 d; have := vals4 dr; omega) fun L3 nL3 => ?_
          generalize hud : upd _ L3 _ = Hd
          obtain ⟨ed, hL3⟩ := Vc.alloc hud nL3
          walk_at "go"
          refine ⟨L3, rfl, ea.ex ed, ?_⟩
          rw [hL3, sd_ws, List.map_append]
      | false =>
        have hnil := no_vals hb
        walk_at "go"
        intro tp ntp
        generalize hu8 : upd _ tp _ = H8
        obtain ⟨e8, hp8⟩ := Vc.alloc hu8 ntp
        have hL8 := e8.at0 hL5
        have hp8 : H8 tp = some (.tup (d.vals.map V.int)) := by rw [hnil]; exact hp8
        walk_at "go"
        refine ⟨⟨_, .of hp8⟩, Vc.lc_by (walk_tup (xs := (d.vals).map V.int)) (fun D i H' => Vc.Ed [] H8 H' ∧ H' D = some (.lst (((d.vals).map tS).take i |>.map V.str))) (fun D Ha nD ea hD => ⟨ea, hD⟩) (fun D i H' _ _ q => .of (q.1.tup _ _ hp8)) (fun D i x Ha Hb nD hi q y => ?_) fun D Ha nD q => ?_⟩
        · obtain ⟨rfl, hx⟩ := y
          obtain ⟨ea, hD⟩ := q
          rw [List.getElem?_map] at hx
          obtain ⟨m, hm, rfl⟩ := Option.map_eq_some_iff.mp hx
          have hm40 := vals40 dr m (List.mem_of_getElem? hm)
          have hz : ((d.vals).map tS)[i]? = some (tS m) := by rw [List.getElem?_map, hm]; rfl
          walk_at "go"
          refine ⟨rfl, ?_⟩
          walk_at "go"
          refine .inr ⟨m, rfl, Vc.log10 hm40 (by decide), _, hD, small1000 (by rw [List.length_map]; have := List.length_take_le i ((d.vals).map tS); rw [List.length_map] at hi; have := vals4 dr; omega), ?_⟩
          generalize huc : upd _ D _ = Hc
          obtain ⟨ec, hDc⟩ := Vc.chg huc hD
          refine ⟨ea.one ec (.inr nD), ?_⟩
          rw [hDc, take_suc hz, List.map_append]
          rfl
        · obtain ⟨ea, hD⟩ := q
          have hD : Ha D = some (.lst (((d.vals).map tS).map V.str)) := by
            rw [hD, List.length_map, List.take_of_length_le (by rw [List.length_map]; exact Nat.le_refl _)]
          walk_at "go"
          refine Vc.go_cat (ea.at0 hL8) hD (by simp only [List.length_map, List.length_cons]; have := nums4 d; have := vals4 dr; omega) fun L3 nL3 => ?_
          generalize hud : upd _ L3 _ = Hd
          obtain ⟨ed, hL3⟩ := Vc.alloc hud nL3
          walk_at "go"
          refine ⟨L3, rfl, (e8.ex ea).ex ed, ?_⟩
          rw [hL3, sd_ws, List.map_append]
    rintro σ H6 ⟨L', rfl, e6, hL6⟩
    have e46 := e5.ex e6
    have hS6 := hS4.ed0 e46
    have hR6 := hR4.ed0 e46
    have ht6 := e46.tup _ _ ht
    have sm := dr.sm
    have C := stepC T d
    have C2 := stepC T f
    obtain ⟨dx, tt, vv, hp6, htt6, hvv6⟩ := id hS6.ex
    walk_at "go"
    refine Vc.go_strP C.st hp6 ⟨p, d, rfl, hS6, sm, fun H7 e7 => ⟨_, rfl, ?_⟩⟩
    have hL7 := e7.at0 hL6
    have hp7 := e7.at0 hp6
    have ht7 := e7.tup _ _ ht6
    have hS7 := hS6.ed0 e7
    have wl : d.ws.length ≤ 1000 := by have := sd_22 d sm; have := sd_len d; omega
    walk_at "go"
    refine go_join2 (.of hL7) (fun z hz => Nat.le_trans (sd_w sm z hz).len (by decide)) wl ?_
    walk_at "go"
    rw [show Txt.join " " d.ws = d.text from rfl]
    walk_at "go"
    refine Vc.go_isiC (Vc.ty_ins hp7 C.ic) C.kt ?_
    walk_at "go"
    refine Vc.go_propP ?_
    walk_at "go"
    refine ⟨p, _, A.pr_Step_price, dx, _, rfl, hp7, C.cl, C.pr, ⟨p, d, rfl, hS7, fun r1 H8 e8 nr1 hP8 => ?_⟩⟩
    obtain ⟨dr1, tr1, rp1, rt1⟩ := id hP8
    walk_at "go"
    refine ⟨r1, d.words, d.writes, rfl, hP8, ?_⟩
    have hp8 := e8.at0 hp7
    have hS8 := hS7.ed0 e8
    walk_at "go"
    refine Vc.go_propP ?_
    walk_at "go"
    refine ⟨p, _, A.pr_Step_price, dx, _, rfl, hp8, C.cl, C.pr, ⟨p, d, rfl, hS8, fun r2 H9 e9 nr2 hP9 => ?_⟩⟩
    obtain ⟨dr2, tr2, rp2, rt2⟩ := id hP9
    walk_at "go"
    refine ⟨r2, d.words, d.writes, rfl, hP9, ?_⟩
    have hp9 := e9.at0 hp8
    have hS9 := hS8.ed0 e9
    clear rp1 rt1 rp2 rt2
    walk_at "go"
    refine Vc.go_isiC (Vc.ty_ins hp9 C.ic) (kit_word T d) ?_
    walk_at "go"
    refine Vc.go_isiC (Vc.ty_ins hp9 C.ic) (kit_wr T d) ?_
    walk_at "go"
    intro l1 nl1
    generalize hu10 : upd _ l1 _ = H10
    obtain ⟨e10, hl1⟩ := Vc.alloc hu10 nl1
    rw [wo_b, wr_b] at hl1
    have ft : Vc.Fits (.list ([V.int (if (!d.isWr) = true then 1 else 0), .int (if d.isWr = true then 1 else 0), .bl (!d.isWr), .bl d.isWr].map vD)) :=
      (Vc.fw_lst (w := 50) (k := 0) (W := 300) (Vc.fw_cons (Vc.fw_int 40 (by split <;> decide)) (Vc.fw_cons (Vc.fw_int 40 (by split <;> decide)) (Vc.fw_cons (Vc.fw_bl _) (Vc.fw_cons (Vc.fw_bl _) Vc.fw_nil)))) (by show 4 * 52 + 4 ≤ 300; decide)).fits
    walk_at "go"
    refine Vc.go_repr (.lst (.of hl1) (dp_ats rfl)) ft ?_
    walk_at "go"
    intro l2 nl2
    generalize hu11 : upd _ l2 _ = H11
    obtain ⟨e11, hl2⟩ := Vc.alloc hu11 nl2
    walk_at "go"
    refine Vc.go_repr (.lst (.of hl2) (dp_ats rfl)) ft ?_
    walk_at "go"
    have e911 := e10.ex e11
    have hp11 := e911.at0 hp9
    have hS11 := hS9.ed0 e911
    have e711 : Vc.Ed [] H7 H11 := (e8.ex e9).ex e911
    have ht11 := e711.tup _ _ ht7
    clear hl1 hl2 ft
    refine Vc.go_isiC (Vc.ty_ins hp11 C.ic) (kit_sy T d) ?_
    walk_at "go"
    refine Vc.go_isiC (Vc.ty_ins hp11 C.ic) (kit_ps T d) ?_
    walk_at "go"
    intro l3 nl3
    generalize hu12 : upd _ l3 _ = H12
    obtain ⟨e12, hl3⟩ := Vc.alloc hu12 nl3
    have ht12 := e12.tup _ _ ht11
    walk_at "go"
    intro l4 nl4
    generalize hu13 : upd _ l4 _ = H13
    obtain ⟨e13, hl4⟩ := Vc.alloc hu13 nl4
    rw [hd_sy, hd_ps] at hl4
    refine go_neB2 (.of (e13.at0 hl3)) (.of hl4) ?_
    have e1113 := e12.ex e13
    have hp13 := e1113.at0 hp11
    have hS13 := hS11.ed0 e1113
    have ht13 := e13.tup _ _ ht12
    have e413 : Vc.Ed [] H4 H13 := ((e46.ex e7).ex e711).ex e1113
    have hO13 := hO4.ed e413
    have hR13 := hR4.ed0 e413
    have hU13 := hU4.ed e413
    clear hl3 hl4 ht11 ht12 ht7 ht6 hp11 hS11 hp9 hS9 hp8 hS8 hp7 hS7 hp6 hS6 htt6 hvv6 hL7
    walk_at "go"
    obtain ⟨dx, tt, vv, hp13, htt13, hvv13⟩ := id hS13.ex
    refine Evl.q_cut (M := fun σ H' => σ = [some (.ref b), some (.ref t), some (.ref u), some (.ref p), some (.ref q), some (.bl d.isWr), some (.ref L'), some (.ref l1), none, none] ∧ Vc.Ed [] H13 H') ?_ ?_
    · walk_at "go"
      cases hb : d.isWr with
      | false =>
        walk_at "go"
        exact ⟨rfl, .refl⟩
      | true =>
        obtain ⟨a, vs, rfl⟩ := isWr_ex hb
        have hp13 : H13 p = some (.ins A.C_Write dx [("shown", .ref tt), ("address", .int a), ("given", .ref vv)]) := hp13
        have hvv := hvv13 a vs rfl
        obtain ⟨v, ht1, hv1⟩ : ∃ v, H13 t = some (.tup [.str "write", .int a, .ref v]) ∧ H13 v = some (.tup (vs.map V.int)) := hO13.at_
        have cl := T.cl_Write
        have no1 := T.no_Write_address
        have no2 := T.no_Write_given
        have lk1 : List.lookup ("address" : Str) [(("shown" : Str), V.ref tt), ("address", .int a), ("given", .ref vv)] = some (.int a) := rfl
        have lk2 : List.lookup ("given" : Str) [(("shown" : Str), V.ref tt), ("address", .int a), ("given", .ref vv)] = some (.ref vv) := rfl
        obtain ⟨d1, d2, d3, d4, d5⟩ := dr
        have ft : Vc.Fits (.list [.int a, .tuple (vs.map .int)]) := (Vc.fw_lst (w := 500) (k := 1) (W := 2000) (Vc.fw_cons (Vc.fw_int 40 (by omega)) (Vc.fw_cons (Vc.fw_tup (w := 50) (fw_ints 40 fun x hx => by have := d5 x hx; omega) (by rw [List.length_map]; omega)) Vc.fw_nil)) (by show 2 * 502 + 4 ≤ 2000; decide)).fits
        walk_at "go"
        intro l5 nl5
        generalize hu14 : upd _ l5 _ = H14
        obtain ⟨e14, hl5⟩ := Vc.alloc hu14 nl5
        have ht14 := e14.tup _ _ ht1
        walk_at "go"
        refine Vc.go_repr (.lst (.of hl5) (.cons (.int _) (.cons (.tup (.of (e14.tup _ _ hvv)) (dp_ints vs)) .nil))) ft ?_
        walk_at "go"
        intro l6 nl6
        generalize hu15 : upd _ l6 _ = H15
        obtain ⟨e15, hl6⟩ := Vc.alloc hu15 nl6
        walk_at "go"
        refine Vc.go_repr (.lst (.of hl6) (.cons (.int _) (.cons (.tup (.of (e15.tup _ _ (e14.tup _ _ hv1))) (dp_ints vs)) .nil))) ft ?_
        walk_at "go"
        exact ⟨rfl, e14.ex e15⟩
    rintro σ H14 ⟨rfl, e14⟩
    have ht14 := e14.tup _ _ ht13
    refine Evl.q_cut (M := fun σ H' => σ = [some (.ref b), some (.ref t), some (.ref u), some (.ref p), some (.ref q), some (.bl d.isWr), some (.ref L'), some (.ref l1), none, none] ∧ Vc.Ed [] H14 H') ?_ ?_
    · walk_at "go"
      refine Vc.go_ite (fun g => ?_) (fun g => ?_)
      · have hb : d.isPs = true := by rw [← hd_ps]; exact decide_eq_true g
        obtain ⟨s, rfl⟩ := isPs_ex hb
        have hp14 : H14 p = some (.ins A.C_Pass dx [("shown", .ref tt), ("stretch", .int s)]) := e14.at0 hp13
        have ht1 : H14 t = some (.tup [.str "pass", .int s]) := e14.tup _ _ hO13.at_
        have cl := T.cl_Pass
        have no1 := T.no_Pass_stretch
        have lk1 : List.lookup ("stretch" : Str) [(("shown" : Str), V.ref tt), ("stretch", .int s)] = some (.int s) := rfl
        obtain ⟨d1, d2⟩ := dr
        have ft : Vc.Fits (.int s) := (Vc.fw_int (w := 50) (k := 0) 40 (by omega)).fits
        walk_at "go"
        refine Vc.go_repr (.int s) ft ?_
        walk_at "go"
        refine Vc.go_repr (.int s) ft ?_
        walk_at "go"
        exact ⟨rfl, .refl⟩
      · walk_at "go"
        exact ⟨rfl, .refl⟩
    rintro σ H15 ⟨rfl, e15⟩
    have e1315 := e14.ex e15
    have hS15 := hS13.ed0 e1315
    have hR15 := hR13.ed0 e1315
    have hO15 := hO13.ed e1315
    have hU15 := hU13.ed e1315
    have ht15 := e15.tup _ _ ht14
    obtain ⟨dx, tt, vv, hp15, htt15, hvv15⟩ := id hS15.ex
    obtain ⟨dy, ttq, vvq, hq15, httq15, hvvq15⟩ := id hR15.ex
    have tyt := Vc.tyT (K := K) (Vc.sqt_of ht15)
    walk_at "go"
    refine Vc.go_eqP C.eq hp15 (Vc.ty_ins hq15 C2.ic) (stepNf T d f) ⟨p, _, d, rfl, hS15, .inl ⟨q, f, rfl, hR15, _, rfl, ?_⟩⟩
    walk_at "go"
    refine Vc.go_neP C.ne hp15 (Vc.ty_ins hq15 C2.ic) (stepNf T d f) ⟨p, _, d, rfl, hS15, .inl ⟨q, f, rfl, hR15, _, rfl, ?_⟩⟩
    walk_at "go"
    refine Vc.go_eqP C2.eq hq15 (Vc.ty_ins hp15 C.ic) (stepNf T f d) ⟨q, _, f, rfl, hR15, .inl ⟨p, d, rfl, hS15, _, rfl, ?_⟩⟩
    walk_at "go"
    refine Vc.go_eqP C.eq hp15 tyt (nf_tup T d) ⟨p, _, d, rfl, hS15, .inr ⟨_, tyt, T.kt_tuple_Step, _, rfl, ?_⟩⟩
    walk_at "go"
    refine Vc.go_strP C.st hp15 ⟨p, d, rfl, hS15, sm, fun H16 e16 => ⟨_, rfl, ?_⟩⟩
    have hS16 := hS15.ed0 e16
    have hp16 := e16.at0 hp15
    walk_at "go"
    refine Vc.go_eqP C.eq hp16 (.base (.str _)) (nf_str T d) ⟨p, _, d, rfl, hS16, .inr ⟨_, .base (.str _), T.kt_str_Step, _, rfl, ?_⟩⟩
    walk_at "go"
    refine Vc.go_eqP C.eq hp16 (.base (.int _)) (nf_int T d) ⟨p, _, d, rfl, hS16, .inr ⟨_, .base (.int _), T.kt_int_Step, _, rfl, ?_⟩⟩
    walk_at "go"
    intro l7 nl7
    generalize hu17 : upd _ l7 _ = H17
    obtain ⟨e17, hl7⟩ := Vc.alloc hu17 nl7
    have e1517 := e16.ex e17
    have hO17 := hO15.ed e1517
    have hU17 := hU15.ed e1517
    rw [show decide (f = d) = decide (d = f) by simp [eq_comm]] at hl7
    have ft : ∀ b1 b2 b3 b4 b5 b6 : Bool, Vc.Fits (.list ([V.bl b1, .bl b2, .bl b3, .bl b4, .bl b5, .bl b6].map vD)) := fun b1 b2 b3 b4 b5 b6 =>
      (Vc.fw_lst (w := 10) (k := 0) (W := 100) (Vc.fw_cons (Vc.fw_bl b1) (Vc.fw_cons (Vc.fw_bl b2) (Vc.fw_cons (Vc.fw_bl b3) (Vc.fw_cons (Vc.fw_bl b4) (Vc.fw_cons (Vc.fw_bl b5) (Vc.fw_cons (Vc.fw_bl b6) Vc.fw_nil)))))) (by show 6 * 12 + 4 ≤ 100; decide)).fits
    walk_at "go"
    refine Vc.go_repr (.lst (.of hl7) (dp_ats rfl)) (ft _ _ _ _ _ _) ?_
    walk_at "go"
    refine go_eqPl (p := d = f) (dp_E hO17) (dp_E hU17) (pl_E d) (pl_E f) (by decide) (E_inj d f) ?_
    walk_at "go"
    refine go_nePl (p := d = f) (dp_E hO17) (dp_E hU17) (pl_E d) (pl_E f) (by decide) (E_inj d f) ?_
    walk_at "go"
    refine go_eqPl (p := d = f) (dp_E hO17) (dp_E hU17) (pl_E d) (pl_E f) (by decide) (E_inj d f) ?_
    walk_at "go"
    intro l8 nl8
    generalize hu18 : upd _ l8 _ = H18
    obtain ⟨e18, hl8⟩ := Vc.alloc hu18 nl8
    walk_at "go"
    refine Vc.go_repr (.lst (.of hl8) (dp_ats rfl)) (ft _ _ _ _ _ _) ?_
    walk_at "go"
    rw [decide_eq_true rfl]
    have e418 : Vc.Ed [] H4 H18 := (e413.ex e1315).ex (e1517.ex e18)
    exact k _ (e04.ex e418) ((hB4.ed0 e418).up (by omega))
end

end My
namespace My
open PySem PySem.Spec PyProof.Rows L2
/-! ### k23: refusals -/
theorem vals_refs : ∀ {cs : List Addr} {us : List Value}, Vals (cs.map V.ref) us → us = cs.map Value.ref
  | [], _, .nil => rfl
  | _ :: _, _, .cons h t => by
    cases h
    rw [vals_refs t]; rfl
theorem kitAny_no {K : PySem.W.Frag} {t : Value} : ∀ {cs : List Addr}, (∀ c ∈ cs, PySem.W.kitOne K t (.ref c) = some false) → PySem.W.kitAny K t (cs.map Value.ref) = some false
  | [], _ => kitAny_nil
  | _ :: _, h => kitAny_cons (h _ List.mem_cons_self) (fun _ => kitAny_no fun x hx => h x (List.mem_cons_of_mem _ hx)) (fun z => by cases z)
theorem go_isTN {K : PySem.W.Frag} {a D tp : Addr} {fs : List (Str × V)} {H : Hp} {Q : VK} (cs : List Addr) (hE : Vc.ErrAt H a D fs) (C : ExcC K D) (hT : H tp = some (.tup (cs.map V.ref))) (hk : ∀ c ∈ cs, PySem.W.kitOne K (.ref D) (.ref c) = some false) (q : Q (.bl false) H) : Vc.rIsTT K [.ref a, .ref tp] H Q :=
  ⟨a, D, tp, fs, cs.map V.ref, cs.map Value.ref, false, hE, C, rfl, hT, fun _ r => vals_refs r, kitAny_no hk, q⟩
def spRefused (K : PySem.W.Frag) : Sp := fun vs H Q _ => ∃ (a : Int) (g : Addr) (ns : List Int) (b : Bool) (i : Int), vs = [.int a, .ref g] ∧ (SqL K H g (ns.map V.int) ∨ SqT K H g (ns.map V.int)) ∧ 1 ≤ ns.length ∧ ns.length ≤ 4 ∧ wrErr a ns = some (b, i) ∧
  ∀ t H', Vc.Ed [] H H' → H' t = some (.tup [.str (if b = true then "address" else "byte"), .int i]) → Q (.ref t) H'
def spRefRight : Sp := fun vs H Q _ => ∃ (b c : Addr) (n : Nat), vs = [.ref b] ∧ Pen H b c n ∧ n ≤ 700 ∧ ∀ H', Vc.Ed [b] H H' → Pen H' b c (n + 40) → Q (.bl true) H'
def spLaw (K : PySem.W.Frag) : Sp := fun vs H Q _ => ∃ (a : Addr) (ns : List Int), vs = [.ref a] ∧ SqL K H a (ns.map V.int) ∧ ns.length ≤ 63 ∧ ∀ H', Q (.bl true) H'
section
variable {w : World} {K : PySem.W.Frag} {mg : Str → Option Value} {base : Heap} {A : Ad}
theorem ok__law_refused (T : Txt K mg A) : FnOk PG w K mg base CX0 7 A.f__law_refused A.d__law_refused ["_law_at", "_law_given"] (spRefused K) := by
  have G__law_write := ok__law_write (w := w) (base := base) T
  refine T.F__law_refused.ok sc__law_refused (fun vs H Q E h => ?_) (fun cdv Ar outer s H vs Q E hr h => ?_)
  · obtain ⟨a, g, ns, b, i, rfl, _⟩ := h
    rfl
  · obtain ⟨a, g, ns, b, i, rfl, hg, l1, l4, he, k⟩ := h
    refine ⟨_, (pss_cons (ps_set (i := 2) sc__law_refused.nd rfl (Or.inl rfl) pe_non) (pss_cons (Vc.ps_tryX (i := 3) rfl rfl sc__law_refused.nd rfl rfl ⟨rfl, by decide, .inl T.g_CodeError⟩ takes0 (fun W pn xe tk po => (pss_one (ps_expr (pe_callS G__law_write (by exact hr.mono (by decide)) (by rfl) T.g__law_write T.F__law_write.kp T.b__law_write (fun σ => passAt tk σ) (pa_cons (pv 0) (pa_cons (pv 1) pa_nil)))))) (fun a pn => (pss_one (ps_set (i := 2) sc__law_refused.nd rfl (Or.inl rfl) (pv 3))))) (pss_cons (ps_if (PW.pt (pw_or (pt_not (pt_val (pe_callB Vc.call_isT (by rfl) T.n_isinstance (by decide +kernel) (pa_cons (pv 2) (pa_cons (pe_glob (v := .ref A.C_BadInput) (by rfl) T.g_BadInput rfl) pa_nil))))) (pw_or1 (pt_val (pe_callB Vc.call_isTT (by rfl) T.n_isinstance (by decide +kernel) (pa_cons (pv 2) (pa_cons (pe_tup (pa_cons (pe_glob (v := .ref A.C_NotRight) (by rfl) T.g_NotRight rfl) (pa_cons (pe_glob (v := .ref A.C_NoWay) (by rfl) T.g_NoWay rfl) pa_nil))) pa_nil))))))) (pss_one (ps_ret pe_str)) pss_nil) (pss_cons (ps_if (pt_not (pt_val (pe_callB Vc.call_isT (by rfl) T.n_isinstance (by decide +kernel) (pa_cons (pv 2) (pa_cons (pe_bltn (v := .ty "ValueError") (by rfl) T.n_ValueError (by decide +kernel) rfl) pa_nil))))) (pss_one (ps_ret pe_str)) pss_nil) (pss_cons (ps_if (PW.pt (pw_and (pt_val (pe_callB Vc.call_isT (by rfl) T.n_isinstance (by decide +kernel) (pa_cons (pv 2) (pa_cons (pe_glob (v := .ref A.C_BadAddress) (by rfl) T.g_BadAddress rfl) pa_nil)))) (pw_and1 (pt_not (pt_val (pe_callB Vc.call_isTT (by rfl) T.n_isinstance (by decide +kernel) (pa_cons (pv 2) (pa_cons (pe_tup (pa_cons (pe_glob (v := .ref A.C_BadByte) (by rfl) T.g_BadByte rfl) (pa_cons (pe_glob (v := .ref A.C_BadStep) (by rfl) T.g_BadStep rfl) pa_nil))) pa_nil)))))))) (pss_one (ps_ret (pe_tup (pa_cons pe_str (pa_cons (Vc.pe_xfT (pv 2)) pa_nil))))) pss_nil) (pss_cons (ps_if (PW.pt (pw_and (pt_val (pe_callB Vc.call_isT (by rfl) T.n_isinstance (by decide +kernel) (pa_cons (pv 2) (pa_cons (pe_glob (v := .ref A.C_BadByte) (by rfl) T.g_BadByte rfl) pa_nil)))) (pw_and1 (pt_not (pt_val (pe_callB Vc.call_isTT (by rfl) T.n_isinstance (by decide +kernel) (pa_cons (pv 2) (pa_cons (pe_tup (pa_cons (pe_glob (v := .ref A.C_BadAddress) (by rfl) T.g_BadAddress rfl) (pa_cons (pe_glob (v := .ref A.C_BadStep) (by rfl) T.g_BadStep rfl) pa_nil))) pa_nil)))))))) (pss_one (ps_ret (pe_tup (pa_cons pe_str (pa_cons (Vc.pe_xfT (pv 2)) pa_nil))))) pss_nil) (pss_one (ps_ret pe_str)))))))), ?_⟩
    walk_at "go"
    refine ⟨a, g, ns, rfl, hg, l1, l4, fun b' i' he' d H1 e1 hd => ?_, fun z => by rw [he] at z; cases z⟩
    rw [he] at he'
    injection he' with he'
    injection he' with hb hi
    subst hb hi
    cases b with
    | true =>
      have ec := T.ec_BadAddress
      have xf := T.xf_BadAddress
      have no := T.no_BadAddress_at
      have kt1 := T.kit_BadAddress_BadInput
      have kt2 := T.kit_BadAddress_ValueError
      have kt3 := T.kit_BadAddress_BadAddress
      have kt4 := T.kit_BadAddress_BadByte
      refine Vc.go_wX T.exm_BadAddress_CodeError fun x H2 na e2 ha => ?_
      have hE : Vc.ErrAt H2 x A.C_BadAddress [("at", .int i)] := Vc.ErrAt.of ha e2 hd
      walk_at "go"
      intro tp ntp
      generalize hu3 : upd _ tp _ = H3
      obtain ⟨e3, htp⟩ := Vc.alloc hu3 ntp
      have hE3 := Vc.ErrAt.ed0 e3 hE
      walk_at "go"
      refine go_isTN [A.C_NotRight, A.C_NoWay] hE3 ec htp (fun c hc => ?_) ?_
      · simp only [List.mem_cons, List.not_mem_nil, or_false] at hc
        rcases hc with rfl | rfl
        · exact T.kit_BadAddress_NotRight
        · exact T.kit_BadAddress_NoWay
      walk_at "go"
      intro tq ntq
      generalize hu4 : upd _ tq _ = H4
      obtain ⟨e4, htq⟩ := Vc.alloc hu4 ntq
      have hE4 := Vc.ErrAt.ed0 e4 hE3
      walk_at "go"
      refine go_isTN [A.C_BadByte, A.C_BadStep] hE4 ec htq (fun c hc => ?_) ?_
      · simp only [List.mem_cons, List.not_mem_nil, or_false] at hc
        rcases hc with rfl | rfl
        · exact T.kit_BadAddress_BadByte
        · exact T.kit_BadAddress_BadStep
      walk_at "go"
      intro t nt
      generalize hu5 : upd _ t _ = H5
      obtain ⟨e5, ht⟩ := Vc.alloc hu5 nt
      walk_at "go"
      exact k t H5 (by walk_at "ed") ht
    | false =>
      have ec := T.ec_BadByte
      have xf := T.xf_BadByte
      have no := T.no_BadByte_at
      have kt1 := T.kit_BadByte_BadInput
      have kt2 := T.kit_BadByte_ValueError
      have kt3 := T.kit_BadByte_BadAddress
      have kt4 := T.kit_BadByte_BadByte
      refine Vc.go_wX T.exm_BadByte_CodeError fun x H2 na e2 ha => ?_
      have hE : Vc.ErrAt H2 x A.C_BadByte [("at", .int i)] := Vc.ErrAt.of ha e2 hd
      walk_at "go"
      intro tp ntp
      generalize hu3 : upd _ tp _ = H3
      obtain ⟨e3, htp⟩ := Vc.alloc hu3 ntp
      have hE3 := Vc.ErrAt.ed0 e3 hE
      walk_at "go"
      refine go_isTN [A.C_NotRight, A.C_NoWay] hE3 ec htp (fun c hc => ?_) ?_
      · simp only [List.mem_cons, List.not_mem_nil, or_false] at hc
        rcases hc with rfl | rfl
        · exact T.kit_BadByte_NotRight
        · exact T.kit_BadByte_NoWay
      walk_at "go"
      intro tq ntq
      generalize hu4 : upd _ tq _ = H4
      obtain ⟨e4, htq⟩ := Vc.alloc hu4 ntq
      have hE4 := Vc.ErrAt.ed0 e4 hE3
      walk_at "go"
      refine go_isTN [A.C_BadAddress, A.C_BadStep] hE4 ec htq (fun c hc => ?_) ?_
      · simp only [List.mem_cons, List.not_mem_nil, or_false] at hc
        rcases hc with rfl | rfl
        · exact T.kit_BadByte_BadAddress
        · exact T.kit_BadByte_BadStep
      walk_at "go"
      intro t nt
      generalize hu5 : upd _ t _ = H5
      obtain ⟨e5, ht⟩ := Vc.alloc hu5 nt
      walk_at "go"
      exact k t H5 (by walk_at "ed") ht
/-- the indexes of values that are no bytes -/
def badTo (ns : List Int) (n : Nat) : List Int := ((List.range n).filter fun k => notByte (ns.getD k 0)).map fun k : Nat => (k : Int)
theorem badTo_suc {ns : List Int} {n : Nat} : badTo ns (n + 1) = badTo ns n ++ if notByte (ns.getD n 0) = true then [(n : Int)] else [] := by
  unfold badTo
  rw [List.range_succ, List.filter_append, List.map_append]
  congr 1
  cases h : notByte (ns.getD n 0)
  · rw [List.filter_cons, if_neg (by rw [h]; exact Bool.false_ne_true)]; rfl
  · rw [List.filter_cons, if_pos h]; rfl
theorem badTo_len {ns : List Int} {n : Nat} : (badTo ns n).length ≤ n := by
  unfold badTo
  rw [List.length_map]
  exact Nat.le_trans (List.length_filter_le _ _) (by rw [List.length_range]; exact Nat.le_refl _)
theorem getD_some {ns : List Int} {k : Nat} {x : Int} (h : ns[k]? = some x) : ns.getD k 0 = x := by rw [List.getD_eq_getElem?_getD, h]; rfl
theorem bad_nil {ns : List Int} (h : badTo ns ns.length = []) : ns.findIdx? notByte = none := by
  refine findIdx_none fun y hy => ?_
  obtain ⟨k, hk⟩ := List.getElem?_of_mem hy
  have lt := (List.getElem?_eq_some_iff.mp hk).1
  cases hb : notByte y with
  | false => rfl
  | true =>
    have : (k : Int) ∈ badTo ns ns.length := List.mem_map.mpr ⟨k, List.mem_filter.mpr ⟨List.mem_range.mpr lt, by rw [getD_some hk]; exact hb⟩, rfl⟩
    rw [h] at this
    cases this
theorem bad_cons {ns : List Int} {j : Int} {r : List Int} (h : badTo ns ns.length = j :: r) : (ns.findIdx? notByte).map (fun k : Nat => (k : Int)) = some j := by
  have hd : ((List.range ns.length).filter fun k => notByte (ns.getD k 0)).head?.map (fun k : Nat => (k : Int)) = some j := by
    have := congrArg List.head? h
    unfold badTo at this
    rw [List.head?_map] at this
    exact this
  rw [List.head?_filter] at hd
  obtain ⟨k, hk, rfl⟩ := Option.map_eq_some_iff.mp hd
  obtain ⟨h1, h2, h3⟩ := List.find?_range_eq_some.mp hk
  have lt := List.mem_range.mp h2
  have hx : ns[k]? = some ns[k] := List.getElem?_eq_getElem lt
  rw [findIdx_at hx (fun y hy => ?_) (by rw [← getD_some hx]; exact h1)]
  · rfl
  · obtain ⟨q, hq⟩ := List.getElem?_of_mem hy
    have lq : q < k := by have := (List.getElem?_eq_some_iff.mp hq).1; rw [List.length_take] at this; omega
    rw [List.getElem?_take_of_lt lq] at hq
    have := h3 q lq
    rw [getD_some hq] at this
    simpa using this
theorem big_at {a : Int} (h : -(10 ^ 31) ≤ a ∧ a ≤ 10 ^ 31) : a.natAbs < 10 ^ 45 := by omega
theorem cut_last (xs : List V) (y : V) : cutV (xs ++ [y]) none (some (-1)) = xs := by
  unfold cutV
  have : HT.sIx (xs ++ [y]).length (xs ++ [y]).length (some (-1)) = xs.length := by
    rw [List.length_append]
    show (if (-1 : Int) < 0 then ((-1 : Int) + ((xs.length + 1 : Nat) : Int)).toNat else min (-1 : Int).toNat (xs.length + 1)) = _
    rw [if_pos (by decide)]
    omega
  rw [this, HT.sIx_none, List.drop_zero, Nat.sub_zero, List.take_append_of_le_length (Nat.le_refl _), List.take_of_length_le (Nat.le_refl _)]
theorem pl_adr (i : Int) : Pl 1 (.tuple [.str "address", .int i]) := pl_tup fun x hx => by
  simp only [List.mem_cons, List.not_mem_nil, or_false] at hx
  rcases hx with rfl | rfl
  · exact pl_str (by decide +kernel)
  · exact pl_int _
theorem ok__law_refusals_right (T : Txt K mg A) : Vc.FnG PG w K mg base CX0 9 A.f__law_refusals_right A.d__law_refusals_right ["_law_pen_here"] spRefRight := by
  have G__law_draw := ok__law_draw (P := PG) (w := w) (base := base) T
  have G__law_refused := ok__law_refused (w := w) (base := base) T
  have G__law_write := ok__law_write (w := w) (base := base) T
  refine Vc.Fun.okG T.F__law_refusals_right sc__law_refusals_right (fun vs H Q E h => ?_) (fun cdv Ar outer s H vs Q E hgd hr h => ?_)
  · obtain ⟨b, c, n, rfl, _⟩ := h
    rfl
  · obtain ⟨b, c, n, rfl, hB, nl, k⟩ := h
    have t30 : (10 : Int) ^ Int.toNat 30 = 1000000000000000000000000000000 := by decide
    have t40 : (10 : Int) ^ Int.toNat 40 = 10000000000000000000000000000000000000000 := by decide
    refine ⟨_, (pss_cons (ps_set (i := 1) sc__law_refusals_right.nd rfl (Or.inl rfl) (pe_lst (pa_cons (pe_un un_neg pe_int) (pa_cons pe_int (pa_cons (pe_op op_sub (pe_op op_sub pe_int pe_int) (pe_call G__law_draw (by exact hr.mono (by decide)) (by rfl) T.g__law_draw T.F__law_draw.kp T.b__law_draw .nil pass0 (pa_cons (pv 0) (pa_cons (pe_op op_pow pe_int pe_int) pa_nil)))) (pa_cons (pe_op op_add pe_int (pe_call G__law_draw (by exact hr.mono (by decide)) (by rfl) T.g__law_draw T.F__law_draw.kp T.b__law_draw .nil pass0 (pa_cons (pv 0) (pa_cons (pe_op op_pow pe_int pe_int) pa_nil)))) pa_nil)))))) (pss_cons (ps_set (i := 2) sc__law_refusals_right.nd rfl (Or.inl rfl) (pe_ix ix_list (pe_lst (pa_cons (pe_call G__law_draw (by exact hr.mono (by decide)) (by rfl) T.g__law_draw T.F__law_draw.kp T.b__law_draw .nil pass0 (pa_cons (pv 0) (pa_cons pe_int pa_nil))) (pa_cons (pe_ix ix_list (pv 1) (pe_call G__law_draw (by exact hr.mono (by decide)) (by rfl) T.g__law_draw T.F__law_draw.kp T.b__law_draw .nil pass0 (pa_cons (pv 0) (pa_cons pe_int pa_nil))) (fun _ _ => rfl)) pa_nil))) (pe_call G__law_draw (by exact hr.mono (by decide)) (by rfl) T.g__law_draw T.F__law_draw.kp T.b__law_draw .nil pass0 (pa_cons (pv 0) (pa_cons pe_int pa_nil))) (fun _ _ => rfl))) (pss_cons (ps_set (i := 3) sc__law_refusals_right.nd rfl (Or.inr rfl) (pe_lc (own := [("_law_k", 5)]) (g := gName 5) rfl sc__law_refusals_right.nd (pi_range1 (by rfl) T.n_range (pa_cons (pe_op op_add pe_int (pe_call G__law_draw (by exact hr.mono (by decide)) (by rfl) T.g__law_draw T.F__law_draw.kp T.b__law_draw .nil pass0 (pa_cons (pv 0) (pa_cons pe_int pa_nil)))) pa_nil)) (blkOk_by (own := [("_law_k", 5)]) (N := ["_law_pen_here", "_law_far", "_law_at", "_law_given", "_law_wrong", "_law_k", "_law_bad", "_law_made"]) (sc := defScope s__law_refusals_right) (by decide +kernel)) (fun _ _ _ _ _ => by exact (pg_name (i := 5) sc__law_refusals_right.nd rfl (Or.inl rfl))) (fun _ _ _ _ _ => by exact pts_nil) (fun _ _ _ _ _ => by (refine' Vc.blkE ?h ?q; (case h => exact (pe_call G__law_draw (by exact hr.mono (by decide)) (by rfl) T.g__law_draw T.F__law_draw.kp T.b__law_draw .nil pass0 (pa_cons (pv 0) (pa_cons pe_int pa_nil)))); (case q => first | exact rfl | (dsimp only; done) | (dsimp only; exact rfl)))))) (pss_cons (ps_set (i := 4) sc__law_refusals_right.nd rfl (Or.inl rfl) (pe_lst (pa_cons (pe_un un_neg pe_int) (pa_cons pe_int (pa_cons (pe_op op_sub (pe_op op_sub pe_int pe_int) (pe_call G__law_draw (by exact hr.mono (by decide)) (by rfl) T.g__law_draw T.F__law_draw.kp T.b__law_draw .nil pass0 (pa_cons (pv 0) (pa_cons (pe_op op_pow pe_int pe_int) pa_nil)))) (pa_cons (pe_op op_add pe_int (pe_call G__law_draw (by exact hr.mono (by decide)) (by rfl) T.g__law_draw T.F__law_draw.kp T.b__law_draw .nil pass0 (pa_cons (pv 0) (pa_cons (pe_op op_pow pe_int pe_int) pa_nil)))) pa_nil)))))) (pss_cons (ps_for PassesOwn.never rfl (pi_range1 (by rfl) T.n_range (pa_cons (pe_call G__law_draw (by exact hr.mono (by decide)) (by rfl) T.g__law_draw T.F__law_draw.kp T.b__law_draw .nil pass0 (pa_cons (pv 0) (pa_cons pe_int pa_nil))) pa_nil)) (pg_name (i := 5) sc__law_refusals_right.nd rfl (Or.inl rfl)) (pss_one (ps_asg (pe_ix ix_list (pv 4) (pe_call G__law_draw (by exact hr.mono (by decide)) (by rfl) T.g__law_draw T.F__law_draw.kp T.b__law_draw .nil pass0 (pa_cons (pv 0) (pa_cons pe_int pa_nil))) (fun _ _ => rfl)) (pg_sub (pv 3) (pe_call G__law_draw (by exact hr.mono (by decide)) (by rfl) T.g__law_draw T.F__law_draw.kp T.b__law_draw .nil pass0 (pa_cons (pv 0) (pa_cons (pe_callB call_len_seq (by rfl) T.n_len (by decide +kernel) (pa_cons (pv 3) pa_nil)) pa_nil))) set_list)))) (pss_cons (ps_setLc (i := 6) (own := [("_law_k", 5)]) (g := gName 5) rfl sc__law_refusals_right.nd rfl rfl (sw_true rfl rfl rfl (by decide +kernel)) (pi_range1 (by rfl) T.n_range (pa_cons (pe_callB call_len_seq (by rfl) T.n_len (by decide +kernel) (pa_cons (pv 3) pa_nil)) pa_nil)) (blkOk_by (own := [("_law_k", 5)]) (N := ["_law_pen_here", "_law_far", "_law_at", "_law_given", "_law_wrong", "_law_k", "_law_bad", "_law_made"]) (sc := defScope s__law_refusals_right) (by decide +kernel)) (fun _ _ _ _ _ => by exact (pg_name (i := 5) sc__law_refusals_right.nd rfl (Or.inl rfl))) (fun _ _ _ _ _ => by (refine' Vc.blkT ?h ?q; (case h => exact pts_one (pt_not (pt_chain op_le op_lt pe_int (pe_ix ix_list (pv 3) (pv 5) (fun _ _ => rfl)) pe_int))); (case q => first | exact rfl | (dsimp only; done) | (dsimp only; exact rfl)))) (fun _ _ _ _ _ => by (refine' Vc.blkE ?h ?q; (case h => exact (pv 5)); (case q => first | exact rfl | (dsimp only; done) | (dsimp only; exact rfl))))) (Evl.pss_cut (ps_if (pt_not (pt_chain op_le op_lt pe_int (pv 2) pe_int)) (pss_one (ps_ret (pe_cmpR op_eq (pe_callB (Vc.call_reprD hgd (Vc.room64 hr)) (by rfl) T.n_repr (by decide +kernel) (pa_cons (pe_call G__law_refused (by exact hr.mono (by decide)) (by rfl) T.g__law_refused T.F__law_refused.kp T.b__law_refused .nil pass0 (pa_cons (pv 2) (pa_cons (pv 3) pa_nil))) pa_nil)) (pe_callB (Vc.call_reprD hgd (Vc.room64 hr)) (by rfl) T.n_repr (by decide +kernel) (pa_cons (pe_tup (pa_cons pe_str (pa_cons (pv 2) pa_nil))) pa_nil)) (nomark _)))) pss_nil) (Evl.pss_cut (ps_if (pt_cmpR (op_neD (by exact hr.units)) (pv 6) (pe_lst pa_nil) (nomark _)) (pss_one (ps_ret (pe_cmpR op_eq (pe_callB (Vc.call_reprD hgd (Vc.room64 hr)) (by rfl) T.n_repr (by decide +kernel) (pa_cons (pe_call G__law_refused (by exact hr.mono (by decide)) (by rfl) T.g__law_refused T.F__law_refused.kp T.b__law_refused .nil pass0 (pa_cons (pv 2) (pa_cons (pv 3) pa_nil))) pa_nil)) (pe_callB (Vc.call_reprD hgd (Vc.room64 hr)) (by rfl) T.n_repr (by decide +kernel) (pa_cons (pe_tup (pa_cons pe_str (pa_cons (pe_ix ix_list (pv 6) pe_int (fun _ _ => rfl)) pa_nil))) pa_nil)) (nomark _)))) pss_nil) (pss_cons (ps_set (i := 7) sc__law_refusals_right.nd rfl (Or.inl rfl) (pe_call G__law_write (by exact hr.mono (by decide)) (by rfl) T.g__law_write T.F__law_write.kp T.b__law_write .nil passL (pa_cons (pv 2) (pa_cons (pv 3) pa_nil)))) (pss_cons (ps_expr (pe_bm PySem.F.plainAttrs_list PySem.F.slot_list_append PySem.F.type_list_append mt_append (pv 3) (pa_cons pe_int pa_nil))) (pss_one (ps_ret (pe_cmpR op_eq (pe_callB (Vc.call_reprD hgd (Vc.room64 hr)) (by rfl) T.n_repr (by decide +kernel) (pa_cons (pe_lst (pa_cons (pe_fld (pv 7) rfl) (pa_cons (pe_fld (pv 7) rfl) pa_nil))) pa_nil)) (pe_callB (Vc.call_reprD hgd (Vc.room64 hr)) (by rfl) T.n_repr (by decide +kernel) (pa_cons (pe_lst (pa_cons (pv 2) (pa_cons (pe_callTy Vc.call_tupD (by rfl) T.n_tuple (by decide +kernel) (pa_cons (pe_slice sl_list (pv 3) po_none (po_some (pe_un un_neg pe_int))) pa_nil)) pa_nil))) pa_nil)) (nomark _)))))))))))))), ?_⟩
    walk_at "go"
    refine ⟨b, c, n, _, rfl, hB, by show n ≤ 1000000; omega, by decide, by decide, fun x1 H1 x10 x11 e1 hB1 => ?_⟩
    walk_at "go"
    refine ⟨b, c, n + 1, _, rfl, hB1, by show n + 1 ≤ 1000000; omega, by decide, by decide, fun x2 H2 x20 x21 e2 hB2 => ?_⟩
    rw [t30] at x11 x21
    walk_at "go"
    intro fa nfa
    generalize hu3 : upd _ fa _ = H3
    obtain ⟨e3, hfa⟩ := Vc.alloc hu3 nfa
    have hB3 := hB2.ed0 e3
    have fab : fa ≠ b := (hB2.fb nfa).1.symm
    have e03 : Vc.Ed [b] H H3 := (e1.trans e2 fun _ z => .inl z).ex e3
    walk_at "go"
    refine ⟨b, c, n + 1 + 1, 24, rfl, hB3, by show n + 1 + 1 ≤ 1000000; omega, by omega, by omega, fun x3 H4 x30 x31 e4 hB4 => ?_⟩
    have hfa4 := e4.at1 fab hfa
    walk_at "go"
    refine ⟨b, c, n + 1 + 1 + 1, 4, rfl, hB4, by show n + 1 + 1 + 1 ≤ 1000000; omega, by omega, by omega, fun i H5 i0 i1 e5 hB5 => ?_⟩
    have hfa5 := e5.at1 fab hfa4
    obtain ⟨y, hy, yb, yo⟩ : ∃ y : Int, atI [V.int (-1), .int 24, .int (0 - 1 - x1), .int (24 + x2)] i = some (.int y) ∧ (-(10 ^ 31) ≤ y ∧ y ≤ 10 ^ 31) ∧ (y < 0 ∨ 23 < y) := by
      have : i = 0 ∨ i = 1 ∨ i = 2 ∨ i = 3 := by omega
      rcases this with rfl | rfl | rfl | rfl
      · exact ⟨_, rfl, by omega, by omega⟩
      · exact ⟨_, rfl, by omega, by omega⟩
      · exact ⟨_, rfl, by omega, by omega⟩
      · exact ⟨_, rfl, by omega, by omega⟩
    walk_at "go"
    intro pl npl
    generalize hu6 : upd _ pl _ = H6
    obtain ⟨e6, hpl⟩ := Vc.alloc hu6 npl
    have hB6 := hB5.ed0 e6
    have plb : pl ≠ b := (hB5.fb npl).1.symm
    walk_at "go"
    refine ⟨b, c, n + 1 + 1 + 1 + 1, 2, rfl, hB6, by show n + 1 + 1 + 1 + 1 ≤ 1000000; omega, by omega, by omega, fun q H7 q0 q1 e7 hB7 => ?_⟩
    have hpl7 := e7.at1 plb hpl
    obtain ⟨a, ha, ab⟩ : ∃ a : Int, atI [V.int x3, .int y] q = some (.int a) ∧ (-(10 ^ 31) ≤ a ∧ a ≤ 10 ^ 31) := by
      have : q = 0 ∨ q = 1 := by omega
      rcases this with rfl | rfl
      · exact ⟨_, rfl, by omega, by omega⟩
      · exact ⟨_, rfl, yb⟩
    have e37 : Vc.Ed [b] H3 H7 := ((e4.trans e5 fun _ z => .inl z).ex e6).trans e7 fun _ z => .inl z
    have e07 : Vc.Ed [b] H H7 := e03.trans e37 fun _ z => .inl z
    walk_at "go"
    clear hfa4 hfa5 hpl7 hpl hB1 hB2 hB3 hB4 hB5 hB6 e4 e5 e6 e7 e1 e2 e3 hy yo yb
    refine ⟨b, c, n + 1 + 1 + 1 + 1 + 1, 4, rfl, hB7, by show n + 1 + 1 + 1 + 1 + 1 ≤ 1000000; omega, by omega, by omega, fun m H8 m0 m1 e8 hB8 => ?_⟩
    have e08 : Vc.Ed [b] H H8 := e07.trans e8 fun _ z => .inl z
    walk_at "go"
    refine ⟨by omega, by omega, Vc.lc_by walk_range (fun L j H' => Vc.Ed [b] H8 H' ∧ Pen H' b c (n + 6 + j) ∧ ∃ vs : List Int, vs.length = j ∧ (∀ v ∈ vs, v.natAbs < 10 ^ 45) ∧ H' L = some (.lst (vs.map V.int))) (fun L H4 nL e4 hL => ⟨e4.mono (fun _ z => nomatch z), hB8.ed0 e4, [], rfl, (fun _ z => nomatch z), hL⟩) (fun _ _ _ _ _ _ => trivial) ?_ ?_⟩
    · rintro L j x H4 H5 nL hj ⟨e4, hB4, vs, lv, hv, hL⟩ ⟨rfl, rfl⟩
      walk_at "go"
      refine ⟨rfl, ?_⟩
      walk_at "go"
      have j4 : j < 4 := by omega
      refine ⟨b, c, n + 6 + j, 256, rfl, hB4, by show n + 6 + j ≤ 1000000; omega, by omega, by omega, fun v H6 v0 v1 e6 hB6 => ?_⟩
      have nb := hB8.fb nL
      have hL6 := e6.at1 nb.1.symm hL
      refine ⟨_, hL6, small1000 (by rw [List.length_map]; omega), ?_⟩
      generalize hu7 : upd _ L _ = H7
      obtain ⟨e7, hL7⟩ := Vc.chg hu7 hL6
      refine ⟨(e4.trans e6 fun _ z => .inl z).one e7 (.inr nL), hB6.ed1 e7 nb.1 nb.2, vs ++ [v], by rw [List.length_append, lv]; rfl, fun u hu => ?_, by rw [List.map_append]; exact hL7⟩
      rcases List.mem_append.mp hu with h | h
      · exact hv u h
      · rw [List.mem_singleton.mp h]; omega
    rintro L H9 nL ⟨e9, hB9, vs, lv, hv, hL⟩
    have nb := hB8.fb nL
    have nL0 : H L = none := e08.dom _ nL
    have v1 : 1 ≤ vs.length := by omega
    have v4 : vs.length ≤ 4 := by omega
    have hB9 := hB9.up (show n + 6 + (1 + m).toNat ≤ n + 10 by omega)
    have e09 : Vc.Ed [b] H H9 := e08.trans e9 fun _ z => .inl z
    clear hB7 hB8
    walk_at "go"
    refine ⟨b, c, n + 10, _, rfl, hB9, by show n + 10 ≤ 1000000; omega, by decide, by decide, fun w1 H10 w10 w11 e10 hB10 => ?_⟩
    walk_at "go"
    refine ⟨b, c, n + 10 + 1, _, rfl, hB10, by show n + 10 + 1 ≤ 1000000; omega, by decide, by decide, fun w2 H11 w20 w21 e11 hB11 => ?_⟩
    rw [t40] at w11 w21
    walk_at "go"
    intro W nW
    generalize hu12 : upd _ W _ = H12
    obtain ⟨e12, hW⟩ := Vc.alloc hu12 nW
    have hB12 := hB11.ed0 e12
    have wb := hB11.fb nW
    have e912 : Vc.Ed [b] H9 H12 := (e10.trans e11 fun _ z => .inl z).ex e12
    have hL12 := e912.at1 nb.1.symm hL
    have WL : W ≠ L := fun z => by
      have := (e10.trans e11 fun _ z => .inl z).at1 nb.1.symm hL
      rw [← z, nW] at this
      cases this
    have e012 : Vc.Ed [b] H H12 := e09.trans e912 fun _ z => .inl z
    walk_at "go"
    refine ⟨b, c, n + 10 + 1 + 1, 3, rfl, hB12, by show n + 10 + 1 + 1 ≤ 1000000; omega, by omega, by omega, fun r H13 r0 r1 e13 hB13 => ?_⟩
    have hL13 := e13.at1 nb.1.symm hL12
    have hW13 := e13.at1 wb.1.symm hW
    have e013 : Vc.Ed [b] H H13 := e012.trans e13 fun _ z => .inl z
    walk_at "go"
    have hWb : ∀ (i : Int), 0 ≤ i → i < 4 → ∃ v : Int, atI [V.int (-1), .int 256, .int (0 - 1 - w1), .int (256 + w2)] i = some (.int v) ∧ v.natAbs < 10 ^ 45 := fun i i0 i1 => by
      have : i = 0 ∨ i = 1 ∨ i = 2 ∨ i = 3 := by omega
      rcases this with rfl | rfl | rfl | rfl
      · exact ⟨_, rfl, by decide⟩
      · exact ⟨_, rfl, by decide⟩
      · exact ⟨_, rfl, by omega⟩
      · exact ⟨_, rfl, by omega⟩
    generalize [V.int (-1), .int 256, .int (0 - 1 - w1), .int (256 + w2)] = ww at hW13 hWb
    refine ⟨by omega, by omega, for_it walk_range (fun j σ H' => ∃ (z5 : Option V) (us : List Int), σ = [some (.ref b), some (.ref fa), some (.int a), some (.ref L), some (.ref W), z5, none, none] ∧ Vc.Ed [b] H H' ∧ Pen H' b c (n + 13 + 2 * j) ∧ us.length = vs.length ∧ (∀ v ∈ us, v.natAbs < 10 ^ 45) ∧ H' L = some (.lst (us.map V.int)) ∧ H' W = some (.lst ww)) ⟨_, vs, rfl, e013, hB13, rfl, hv, hL13, hW13⟩ (fun _ _ _ _ _ => trivial) (fun j x σ H14 H15 hj hp hy => ?_) fun σ H14 hp => ?_⟩
    · obtain ⟨z5, us, rfl, e14, hB14, lu, hu, hL14, hW14⟩ := hp
      obtain ⟨rfl, rfl⟩ := hy
      have j3 : j < 3 := by omega
      walk_at "go"
      refine ⟨b, c, n + 13 + 2 * j, 4, rfl, hB14, by show n + 13 + 2 * j ≤ 1000000; omega, by omega, by omega, fun i H16 i0 i1 e16 hB16 => ?_⟩
      obtain ⟨v, hv', vb⟩ := hWb i i0 i1
      have hW16 := e16.at1 wb.1.symm hW14
      have hL16 := e16.at1 nb.1.symm hL14
      walk_at "go"
      rw [List.length_map]
      refine ⟨b, c, n + 13 + 2 * j + 1, us.length, rfl, hB16, by show n + 13 + 2 * j + 1 ≤ 1000000; omega, by omega, by omega, fun q H17 q0 q1 e17 hB17 => ?_⟩
      have hW17 := e17.at1 wb.1.symm hW16
      have hL17 := e17.at1 nb.1.symm hL16
      refine Vc.go_setL hL17 (j := q.toNat) ?_ ?_
      · unfold ixN
        rw [List.length_map, if_pos (by omega), if_pos (by omega)]
      generalize hu18 : upd _ L _ = H18
      obtain ⟨e18, hL18⟩ := Vc.chg hu18 hL17
      rw [show (us.map V.int).set q.toNat (.int v) = (us.set q.toNat v).map V.int from (List.map_set ..).symm] at hL18
      refine ⟨_, us.set q.toNat v, rfl, ((e14.trans e16 fun _ z => .inl z).trans e17 fun _ z => .inl z).one e18 (.inr nL0), (hB17.ed1 e18 nb.1 nb.2).up (by omega), by rw [List.length_set]; exact lu, fun z hz => ?_, hL18, e18.at1 WL hW17⟩
      rcases List.mem_or_eq_of_mem_set hz with h | h
      · exact hu z h
      · rw [h]; exact vb
    obtain ⟨z5, us, rfl, e14, hB14, lu, hu, hL14, hW14⟩ := hp
    have hB14 := hB14.up (show n + 13 + 2 * r.toNat ≤ n + 20 by omega)
    clear hW14 hW13 hL13 hL12 hW hL hB13 hB12 hB11 hB10 hB9 hWb
    walk_at "go"
    rw [List.length_map]
    have u4 : us.length ≤ 4 := by omega
    refine ⟨by omega, by omega, Vc.lc_by walk_range (fun D j H' => Vc.Ed [] H14 H' ∧ H' D = some (.lst ((badTo us j).map V.int))) (fun D H4 nD e4 hD => ⟨e4, hD⟩) (fun _ _ _ _ _ _ => trivial) ?_ ?_⟩
    · rintro D j x H15 H16 nD hj ⟨e15, hD⟩ ⟨rfl, rfl⟩
      have hj : j < us.length := by omega
      obtain ⟨v, hv1⟩ : ∃ v, us[j]? = some v := ⟨_, List.getElem?_eq_getElem hj⟩
      have hix : atI (us.map V.int) (0 + (j : Int)) = some (.int v) := at_of (j := j) (by omega) (by rw [List.getElem?_map, hv1]; rfl)
      have hL15 := e15.at0 hL14
      have suc := badTo_suc (ns := us) (n := j)
      rw [getD_some hv1] at suc
      have small : ((badTo us j).map V.int).length < sizeLine := small1000 (by rw [List.length_map]; have := badTo_len (ns := us) (n := j); omega)
      have yes : notByte v = true → ∃ acc, H16 D = some (.lst acc) ∧ acc.length < sizeLine ∧ Vc.Ed [] H14 (upd H16 D (.lst (acc ++ [V.int (0 + (j : Int))]))) ∧ upd H16 D (.lst (acc ++ [V.int (0 + (j : Int))])) D = some (.lst ((badTo us (j + 1)).map V.int)) := fun hb => by
        refine ⟨_, hD, small, ?_⟩
        generalize hu17 : upd _ D _ = H17
        obtain ⟨e17, hD17⟩ := Vc.chg hu17 hD
        refine ⟨e15.one e17 (.inr nD), ?_⟩
        rw [hD17, suc, if_pos hb, List.map_append, Int.zero_add]
        rfl
      have no : notByte v = false → Vc.Ed [] H14 H16 ∧ H16 D = some (.lst ((badTo us (j + 1)).map V.int)) := fun hb => by
        refine ⟨e15, ?_⟩
        rw [hD, suc, if_neg (by rw [hb]; exact Bool.false_ne_true), List.append_nil]
      walk_at "go"
      refine ⟨rfl, ?_⟩
      walk_at "go"
      refine Vc.go_ite (fun g1 => ?_) (fun g1 => ?_)
      · walk_at "go"
        refine Vc.go_iten (fun g2 => ?_) (fun g2 => ?_)
        · walk_at "go"
          exact yes (by unfold notByte; rw [decide_eq_false (by omega)]; rfl)
        · exact no (by unfold notByte; rw [decide_eq_true (by omega)]; rfl)
      · refine ⟨_, rfl, ?_⟩
        walk_at "go"
        exact yes (by unfold notByte; rw [decide_eq_false (by omega)]; rfl)
    rintro D H15 nD ⟨e15, hD⟩
    have hD : H15 D = some (.lst ((badTo us us.length).map V.int)) := hD
    have hL15 := e15.at0 hL14
    have hB15 := hB14.ed0 e15
    have e015 := e14.ex e15
    have ft : ∀ (z : Str) (i : Int), z.length ≤ 10 → (∀ c ∈ z.cps.toList, c < 16 ^ 8) → i.natAbs < 10 ^ 45 → Vc.Fits (.tuple [.str z, .int i]) := fun z i h1 h2 h3 =>
      (Vc.fw_tup (w := 150) (k := 0) (W := 500) (Vc.fw_cons (Vc.fw_str ⟨h1, h2⟩) (Vc.fw_cons (Vc.fw_int 45 h3) Vc.fw_nil)) (by show 2 * 152 + 4 ≤ 500; decide)).fits
    refine Evl.q_cut (M := fun σ H' => σ = [some (.ref b), some (.ref fa), some (.int a), some (.ref L), some (.ref W), z5, some (.ref D), none] ∧ H' = H15 ∧ 0 ≤ a ∧ a < 24) ?_ ?_
    · walk_at "go"
      refine Vc.go_ite (fun g1 => ?_) (fun g1 => ?_)
      · walk_at "go"
        refine Vc.go_iten (fun g2 => ?_) (fun g2 => ?_)
        · walk_at "go"
          refine ⟨a, L, us, true, a, rfl, .inl (.of hL15), by omega, by omega, by unfold wrErr; rw [if_pos (by omega)], fun t H16 e16 ht => ?_⟩
          have ht : H16 t = some (.tup [.str "address", .int a]) := ht
          walk_at "go"
          refine Vc.go_repr (.tup (.of ht) (.cons (.str _) (.cons (.int _) .nil))) (ft _ _ (by decide +kernel) (by decide +kernel) (by omega)) ?_
          walk_at "go"
          intro s ns
          generalize hu17 : upd _ s _ = H17
          obtain ⟨e17, hs⟩ := Vc.alloc hu17 ns
          walk_at "go"
          refine Vc.go_repr (.tup (.of hs) (.cons (.str _) (.cons (.int _) .nil))) (ft _ _ (by decide +kernel) (by decide +kernel) (by omega)) ?_
          walk_at "go"
          rw [decide_eq_true rfl]
          exact k _ (e015.ex (e16.ex e17)) ((hB15.ed0 (e16.ex e17)).up (by omega))
        · walk_at "go"
          exact ⟨rfl, rfl, g1, g2⟩
      · refine ⟨_, rfl, ?_⟩
        walk_at "go"
        refine ⟨a, L, us, true, a, rfl, .inl (.of hL15), by omega, by omega, by unfold wrErr; rw [if_pos (by omega)], fun t H16 e16 ht => ?_⟩
        have ht : H16 t = some (.tup [.str "address", .int a]) := ht
        walk_at "go"
        refine Vc.go_repr (.tup (.of ht) (.cons (.str _) (.cons (.int _) .nil))) (ft _ _ (by decide +kernel) (by decide +kernel) (by omega)) ?_
        walk_at "go"
        intro s ns
        generalize hu17 : upd _ s _ = H17
        obtain ⟨e17, hs⟩ := Vc.alloc hu17 ns
        walk_at "go"
        refine Vc.go_repr (.tup (.of hs) (.cons (.str _) (.cons (.int _) .nil))) (ft _ _ (by decide +kernel) (by decide +kernel) (by omega)) ?_
        walk_at "go"
        rw [decide_eq_true rfl]
        exact k _ (e015.ex (e16.ex e17)) ((hB15.ed0 (e16.ex e17)).up (by omega))
    rintro σ H16 ⟨rfl, rfl, a0, a1⟩
    refine Evl.q_cut (M := fun σ H' => σ = [some (.ref b), some (.ref fa), some (.int a), some (.ref L), some (.ref W), z5, some (.ref D), none] ∧ Vc.Ed [] H16 H' ∧ wrErr a us = none) ?_ ?_
    · walk_at "go"
      intro q nq
      generalize hu17 : upd _ q _ = H17
      obtain ⟨e17, hq⟩ := Vc.alloc hu17 nq
      have hD17 := e17.at0 hD
      have hL17 := e17.at0 hL15
      refine go_neLs (ms := []) (.of hD17) (.of hq) ?_
      walk_at "go"
      refine Vc.go_iten (fun g => ?_) (fun g => ?_)
      · obtain ⟨j, rr, hj⟩ : ∃ j rr, badTo us us.length = j :: rr := by
          cases hbt : badTo us us.length with
          | nil => exact absurd hbt g
          | cons j rr => exact ⟨j, rr, rfl⟩
        have he : wrErr a us = some (false, j) := by
          have := bad_cons hj
          unfold wrErr
          rw [if_neg (by omega)]
          obtain ⟨x, hx, rfl⟩ := Option.map_eq_some_iff.mp this
          rw [hx]
          rfl
        have jb : j.natAbs < 10 ^ 45 := by
          have hm : j ∈ badTo us us.length := by rw [hj]; exact List.mem_cons_self
          obtain ⟨x, hx, rfl⟩ := List.mem_map.mp hm
          have := List.mem_range.mp (List.mem_filter.mp hx).1
          omega
        have hD17 : H17 D = some (.lst (.int j :: rr.map V.int)) := by rw [hD17, hj]; rfl
        have j0 : atI (V.int j :: rr.map V.int) 0 = some (.int j) := at_of (j := 0) (by omega) rfl
        walk_at "go"
        refine ⟨a, L, us, false, j, rfl, .inl (.of hL17), by omega, by omega, he, fun t H18 e18 ht => ?_⟩
        have ht : H18 t = some (.tup [.str "byte", .int j]) := ht
        have hD18 := e18.at0 hD17
        walk_at "go"
        refine Vc.go_repr (.tup (.of ht) (.cons (.str _) (.cons (.int _) .nil))) (ft _ _ (by decide +kernel) (by decide +kernel) jb) ?_
        walk_at "go"
        intro s ns
        generalize hu19 : upd _ s _ = H19
        obtain ⟨e19, hs⟩ := Vc.alloc hu19 ns
        walk_at "go"
        refine Vc.go_repr (.tup (.of hs) (.cons (.str _) (.cons (.int _) .nil))) (ft _ _ (by decide +kernel) (by decide +kernel) jb) ?_
        walk_at "go"
        rw [decide_eq_true rfl]
        have e1619 := (e17.ex e18).ex e19
        exact k _ (e015.ex e1619) ((hB15.ed0 e1619).up (by omega))
      · walk_at "go"
        refine ⟨rfl, e17, ?_⟩
        unfold wrErr
        rw [if_neg (by omega), bad_nil g]
        rfl
    rintro σ H17 ⟨rfl, e17, none_⟩
    have hL17 := e17.at0 hL15
    walk_at "go"
    refine ⟨a, L, us, rfl, .inl (.of hL17), by omega, by omega, fun b' i' he' => (by rw [none_] at he'; cases he'), fun _ p H18 e18 np hS => ?_⟩
    have hL18 := e18.at0 hL17
    obtain ⟨dx, tt, vv, hp0, htt, hvv0⟩ := hS.ex
    have hp : H18 p = some (.ins A.C_Write dx [("shown", .ref tt), ("address", .int a), ("given", .ref vv)]) := hp0
    have hvv := hvv0 a us rfl
    clear hp0 hvv0 htt
    have cl := T.cl_Write
    have no1 := T.no_Write_address
    have no2 := T.no_Write_given
    have lk1 : List.lookup ("address" : Str) [(("shown" : Str), V.ref tt), ("address", .int a), ("given", .ref vv)] = some (.int a) := rfl
    have lk2 : List.lookup ("given" : Str) [(("shown" : Str), V.ref tt), ("address", .int a), ("given", .ref vv)] = some (.ref vv) := rfl
    have pL : p ≠ L := (ne_of_none hL17 np).symm
    walk_at "go"
    generalize hu19 : upd _ L _ = H19
    obtain ⟨e19, hL19⟩ := Vc.chg hu19 hL18
    have hp19 := e19.at1 pL hp
    have hvv19 := e19.tup _ _ hvv
    have ub : us.length ≤ 4 := u4
    have ft2 : Vc.Fits (.list [.int a, .tuple (us.map .int)]) := (Vc.fw_lst (w := 500) (k := 1) (W := 2000) (Vc.fw_cons (Vc.fw_int 45 (by omega)) (Vc.fw_cons (Vc.fw_tup (w := 50) (fw_ints 45 hu) (by rw [List.length_map]; omega)) Vc.fw_nil)) (by show 2 * 502 + 4 ≤ 2000; decide)).fits
    clear hp hvv
    walk_at "go"
    intro l1 nl1
    generalize hu20 : upd _ l1 _ = H20
    obtain ⟨e20, hl1⟩ := Vc.alloc hu20 nl1
    have hL20 := e20.at0 hL19
    walk_at "go"
    refine Vc.go_repr (.lst (.of hl1) (.cons (.int _) (.cons (.tup (.of (e20.tup _ _ hvv19)) (dp_ints us)) .nil))) ft2 ?_
    walk_at "go"
    intro g1 ng1
    generalize hu21 : upd _ g1 _ = H21
    obtain ⟨e21, hg1⟩ := Vc.alloc hu21 ng1
    rw [cut_last] at hg1
    walk_at "go"
    intro g2 ng2
    generalize hu22 : upd _ g2 _ = H22
    obtain ⟨e22, hg2⟩ := Vc.alloc hu22 ng2
    walk_at "go"
    intro l2 nl2
    generalize hu23 : upd _ l2 _ = H23
    obtain ⟨e23, hl2⟩ := Vc.alloc hu23 nl2
    walk_at "go"
    refine Vc.go_repr (.lst (.of hl2) (.cons (.int _) (.cons (.tup (.of (e23.tup _ _ hg2)) (dp_ints us)) .nil))) ft2 ?_
    walk_at "go"
    rw [decide_eq_true rfl]
    have e1523 : Vc.Ed [L] H16 H23 := ((((((e17.ex e18).mono (fun _ z => nomatch z) : Vc.Ed [L] _ _).trans e19 fun _ z => .inl z).ex e20).ex e21).ex e22).ex e23
    have hB23 := hB15.ed1 e1523 nb.1 nb.2
    have e023 : Vc.Ed [b] H H23 := e015.trans e1523 fun z hz => .inr (by rw [List.mem_singleton.mp hz]; exact nL0)
    exact k _ e023 (hB23.up (by omega))
theorem ok_law (T : Txt K mg A) : Vc.FnG PG w K mg base CX0 10 A.f_law A.d_law ["_law_script"] (spLaw K) := by
  have G__law_pen := ok__law_pen (P := PG) (w := w) (base := base) T
  have G__law_write := ok__law_write (w := w) (base := base) T
  have G__law_refused := ok__law_refused (w := w) (base := base) T
  have G__law_prices_right := ok__law_prices_right (P := PG) (w := w) (base := base) T
  have G__law_steps_right := ok__law_steps_right (w := w) (base := base) T
  have G__law_refusals_right := ok__law_refusals_right (w := w) (base := base) T
  refine Vc.Fun.okG T.F_law sc_law (fun vs H Q E h => ?_) (fun cdv Ar outer s H vs Q E hgd hr h => ?_)
  · obtain ⟨a, ns, rfl, _⟩ := h
    rfl
  · obtain ⟨a, ns, rfl, hS, hl, k⟩ := h
    refine ⟨_, (pss_cons (ps_set (i := 1) sc_law.nd rfl (Or.inl rfl) (pe_call G__law_pen (by exact hr.mono (by decide)) (by rfl) T.g__law_pen T.F__law_pen.kp T.b__law_pen .nil pass0 (pa_cons (pv 0) pa_nil))) (pss_cons (ps_for PassesOwn.never rfl (pi_range1 (by rfl) T.n_range (pa_cons pe_int pa_nil)) (pg_name (i := 2) sc_law.nd rfl (Or.inl rfl)) (pss_one (ps_if (PW.pt (pw_or (pt_not (pt_val (Vc.pe_callG G__law_prices_right hgd (by exact hr.mono (by decide)) (by rfl) T.g__law_prices_right T.F__law_prices_right.kp T.b__law_prices_right (pa_cons (pv 1) pa_nil)))) (pw_or (pt_not (pt_val (Vc.pe_callG G__law_steps_right hgd (by exact hr.mono (by decide)) (by rfl) T.g__law_steps_right T.F__law_steps_right.kp T.b__law_steps_right (pa_cons (pv 1) pa_nil)))) (pw_or1 (pt_not (pt_val (Vc.pe_callG G__law_refusals_right hgd (by exact hr.mono (by decide)) (by rfl) T.g__law_refusals_right T.F__law_refusals_right.kp T.b__law_refusals_right (pa_cons (pv 1) pa_nil)))))))) (pss_one (ps_ret pe_bl)) pss_nil))) (pss_cons (ps_for PassesOwn.never rfl (pi_tup (pe_tup (pa_cons pe_int (pa_cons pe_int pa_nil)))) (pg_name (i := 3) sc_law.nd rfl (Or.inl rfl)) (pss_one (ps_if (pt_cmpR op_ne (pe_fld (pe_call G__law_write (by exact hr.mono (by decide)) (by rfl) T.g__law_write T.F__law_write.kp T.b__law_write .nil passL (pa_cons (pv 3) (pa_cons (pe_tup (pa_cons pe_int (pa_cons pe_int pa_nil))) pa_nil))) rfl) (pv 3) (nomark _)) (pss_one (ps_ret pe_bl)) pss_nil))) (pss_one (ps_ret (pe_and (pe_cmpR (op_eqD (by exact hr.units)) (pe_call G__law_refused (by exact hr.mono (by decide)) (by rfl) T.g__law_refused T.F__law_refused.kp T.b__law_refused .nil pass0 (pa_cons pe_int (pa_cons (pe_tup (pa_cons pe_int pa_nil)) pa_nil))) (pe_tup (pa_cons pe_str (pa_cons pe_int pa_nil))) (nomark _)) (pe_one (pe_cmpR (op_eqD (by exact hr.units)) (pe_call G__law_refused (by exact hr.mono (by decide)) (by rfl) T.g__law_refused T.F__law_refused.kp T.b__law_refused .nil pass0 (pa_cons (pe_un un_neg pe_int) (pa_cons (pe_tup (pa_cons pe_int pa_nil)) pa_nil))) (pe_tup (pa_cons pe_str (pa_cons (pe_un un_neg pe_int) pa_nil))) (nomark _))))))))), ?_⟩
    walk_at "go"
    refine ⟨a, ns, rfl, hS, hl, fun b c H1 e1 hB1 nb nc => ?_⟩
    walk_at "go"
    refine ⟨by decide, by decide, for_it walk_range (fun j σ H' => ∃ z2 : Option V, σ = [some (.ref a), some (.ref b), z2, none] ∧ Pen H' b c (j * 100)) ⟨_, rfl, hB1⟩ (fun _ _ _ _ _ => trivial) (fun j x σ H2 H3 hj hp hy => ?_) fun σ H2 hp => ?_⟩
    · obtain ⟨z2, rfl, hB2⟩ := hp
      obtain ⟨rfl, rfl⟩ := hy
      have hj : j < 6 := hj
      walk_at "go"
      refine ⟨b, c, j * 100, rfl, hB2, by omega, fun H4 e4 hB4 => ?_⟩
      walk_at "go"
      refine ⟨b, c, j * 100 + 20, rfl, hB4, by omega, fun H5 e5 hB5 => ?_⟩
      walk_at "go"
      refine ⟨b, c, j * 100 + 20 + 40, rfl, hB5, by omega, fun H6 e6 hB6 => ?_⟩
      walk_at "go"
      exact ⟨_, rfl, hB6.up (by omega)⟩
    obtain ⟨z2, rfl, hB2⟩ := hp
    walk_at "go"
    intro tp ntp
    generalize hu3 : upd _ tp _ = H3
    obtain ⟨e3, htp⟩ := Vc.alloc hu3 ntp
    walk_at "go"
    refine ⟨⟨_, .of htp⟩, for_it (walk_tup (xs := [V.int 0, .int 23])) (fun j σ H' => ∃ z3 : Option V, σ = [some (.ref a), some (.ref b), z2, z3] ∧ Vc.Ed [] H3 H') ⟨_, rfl, .refl⟩ (fun i σ' H' _ h => (by obtain ⟨_, _, e⟩ := h; exact .of (e.tup _ _ htp))) (fun j x σ H4 H5 hj hp hy => ?_) fun σ H4 hp => ?_⟩
    · obtain ⟨z3, rfl, e4⟩ := hp
      obtain ⟨rfl, hx⟩ := hy
      obtain ⟨v, rfl, hv⟩ : ∃ v : Int, x = .int v ∧ wrErr v [0, 255] = none := by
        match j, hj, hx with
        | 0, _, hx => exact ⟨0, (Option.some.inj hx).symm, by decide +kernel⟩
        | 1, _, hx => exact ⟨23, (Option.some.inj hx).symm, by decide +kernel⟩
      walk_at "go"
      intro g ng
      generalize hu5 : upd _ g _ = H6
      obtain ⟨e6, hg⟩ := Vc.alloc hu5 ng
      walk_at "go"
      refine ⟨v, g, [0, 255], rfl, .inr (.of hg), by decide, by decide, fun b' i' he' => (by rw [hv] at he'; cases he'), fun _ p H7 e7 np hS7 => ?_⟩
      obtain ⟨dx, tt, vv, hp0, htt, hvv⟩ := hS7.ex
      have hp : H7 p = some (.ins A.C_Write dx [("shown", .ref tt), ("address", .int v), ("given", .ref vv)]) := hp0
      clear hp0
      have cl := T.cl_Write
      have no1 := T.no_Write_address
      have lk1 : List.lookup ("address" : Str) [(("shown" : Str), V.ref tt), ("address", .int v), ("given", .ref vv)] = some (.int v) := rfl
      walk_at "go"
      exact ⟨_, rfl, (e4.ex e6).ex e7⟩
    obtain ⟨z3, rfl, e4⟩ := hp
    walk_at "go"
    intro g ng
    generalize hu5 : upd _ g _ = H5
    obtain ⟨e5, hg⟩ := Vc.alloc hu5 ng
    walk_at "go"
    refine ⟨24, g, [256], true, 24, rfl, .inr (.of hg), by decide, by decide, by decide +kernel, fun t H6 e6 ht => ?_⟩
    have ht : H6 t = some (.tup [.str "address", .int 24]) := ht
    walk_at "go"
    intro s1 ns1
    generalize hu7 : upd _ s1 _ = H7
    obtain ⟨e7, hs1⟩ := Vc.alloc hu7 ns1
    refine go_eqPl (p := True) (.tup (.of (e7.tup _ _ ht)) (.cons (.str _) (.cons (.int _) .nil))) (.tup (.of hs1) (.cons (.str _) (.cons (.int _) .nil))) (pl_adr _) (pl_adr _) (by decide) (iff_true_intro rfl) ?_
    rw [decide_eq_true trivial]
    walk_at "go"
    intro g2 ng2
    generalize hu8 : upd _ g2 _ = H8
    obtain ⟨e8, hg2⟩ := Vc.alloc hu8 ng2
    walk_at "go"
    refine ⟨-1, g2, [0], true, -1, rfl, .inr (.of hg2), by decide, by decide, by decide +kernel, fun t2 H9 e9 ht2 => ?_⟩
    have ht2 : H9 t2 = some (.tup [.str "address", .int (-1)]) := ht2
    walk_at "go"
    intro s2 ns2
    generalize hu10 : upd _ s2 _ = H10
    obtain ⟨e10, hs2⟩ := Vc.alloc hu10 ns2
    refine go_eqPl (p := True) (.tup (.of (e10.tup _ _ ht2)) (.cons (.str _) (.cons (.int _) .nil))) (.tup (.of hs2) (.cons (.str _) (.cons (.int _) .nil))) (pl_adr _) (pl_adr _) (by decide) (iff_true_intro rfl) ?_
    rw [decide_eq_true trivial]
    walk_at "go"
    exact k _
end

end My
namespace My
open PySem PySem.Spec PyProof.Rows L2
theorem all_mk {w : World} {K : PySem.W.Frag} {h : Heap} {mg : Str → Option Value} {fa : Addr} (X : K.In h) (G : h.Ns mainGlobals mg) (hfa : mg "law" = some (.ref fa))
    {C_Price : Addr}
    {C_Step : Addr}
    {C_Write : Addr}
    {C_Sync : Addr}
    {C_Pass : Addr}
    {f_is_byte : Addr} {oc1 kV1 dc1 pm1 cd1 ct1 : Value} {od1 an1 : Option Addr} {sl1 : Array (Option Value)}
    {f_Priceu_initu : Addr} {oc2 kV2 dc2 pm2 cd2 ct2 : Value} {od2 an2 : Option Addr} {sl2 : Array (Option Value)}
    {f_Price_words : Addr} {oc3 kV3 dc3 pm3 cd3 ct3 : Value} {od3 an3 : Option Addr} {sl3 : Array (Option Value)}
    {pr3 : Addr} {rst3 : List Value}
    {f_Price_writes : Addr} {oc4 kV4 dc4 pm4 cd4 ct4 : Value} {od4 an4 : Option Addr} {sl4 : Array (Option Value)}
    {pr4 : Addr} {rst4 : List Value}
    {f_Price_under : Addr} {oc5 kV5 dc5 pm5 cd5 ct5 : Value} {od5 an5 : Option Addr} {sl5 : Array (Option Value)}
    {f_Priceu_addu : Addr} {oc6 kV6 dc6 pm6 cd6 ct6 : Value} {od6 an6 : Option Addr} {sl6 : Array (Option Value)}
    {f_Priceu_equ : Addr} {oc7 kV7 dc7 pm7 cd7 ct7 : Value} {od7 an7 : Option Addr} {sl7 : Array (Option Value)}
    {f_Priceu_stru : Addr} {oc8 kV8 dc8 pm8 cd8 ct8 : Value} {od8 an8 : Option Addr} {sl8 : Array (Option Value)}
    {f_Stepu_initu : Addr} {oc9 kV9 dc9 pm9 cd9 ct9 : Value} {od9 an9 : Option Addr} {sl9 : Array (Option Value)}
    {f_Step_price : Addr} {oc10 kV10 dc10 pm10 cd10 ct10 : Value} {od10 an10 : Option Addr} {sl10 : Array (Option Value)}
    {pr10 : Addr} {rst10 : List Value}
    {f_Stepu_equ : Addr} {oc11 kV11 dc11 pm11 cd11 ct11 : Value} {od11 an11 : Option Addr} {sl11 : Array (Option Value)}
    {f_Stepu_stru : Addr} {oc12 kV12 dc12 pm12 cd12 ct12 : Value} {od12 an12 : Option Addr} {sl12 : Array (Option Value)}
    {f_Writeu_initu cda13 cc13 : Addr} {oc13 kV13 dc13 pm13 ct13 : Value} {od13 an13 : Option Addr} {sl13 : Array (Option Value)}
    {ccl13 ocl13 : Value} {ccd13 ocd13 : Option Addr} {vs13 : Array Value} {ccs13 ocs13 : Array (Option Value)} {file13 : Str} {tf13 : Tok}
    {f_Syncu_initu cda14 cc14 : Addr} {oc14 kV14 dc14 pm14 ct14 : Value} {od14 an14 : Option Addr} {sl14 : Array (Option Value)}
    {ccl14 ocl14 : Value} {ccd14 ocd14 : Option Addr} {vs14 : Array Value} {ccs14 ocs14 : Array (Option Value)} {file14 : Str} {tf14 : Tok}
    {f_Passu_initu cda15 cc15 : Addr} {oc15 kV15 dc15 pm15 ct15 : Value} {od15 an15 : Option Addr} {sl15 : Array (Option Value)}
    {ccl15 ocl15 : Value} {ccd15 ocd15 : Option Addr} {vs15 : Array Value} {ccs15 ocs15 : Array (Option Value)} {file15 : Str} {tf15 : Tok}
    {f__law_pen : Addr} {oc16 kV16 dc16 pm16 cd16 ct16 : Value} {od16 an16 : Option Addr} {sl16 : Array (Option Value)}
    {f__law_draw : Addr} {oc17 kV17 dc17 pm17 cd17 ct17 : Value} {od17 an17 : Option Addr} {sl17 : Array (Option Value)}
    {f__law_number : Addr} {oc18 kV18 dc18 pm18 cd18 ct18 : Value} {od18 an18 : Option Addr} {sl18 : Array (Option Value)}
    {f__law_prices_right : Addr} {oc19 kV19 dc19 pm19 cd19 ct19 : Value} {od19 an19 : Option Addr} {sl19 : Array (Option Value)}
    {f__law_write : Addr} {oc20 kV20 dc20 pm20 cd20 ct20 : Value} {od20 an20 : Option Addr} {sl20 : Array (Option Value)}
    {f__law_drawn : Addr} {oc21 kV21 dc21 pm21 cd21 ct21 : Value} {od21 an21 : Option Addr} {sl21 : Array (Option Value)}
    {f__law_near : Addr} {oc22 kV22 dc22 pm22 cd22 ct22 : Value} {od22 an22 : Option Addr} {sl22 : Array (Option Value)}
    {f__law_step : Addr} {oc23 kV23 dc23 pm23 cd23 ct23 : Value} {od23 an23 : Option Addr} {sl23 : Array (Option Value)}
    {f__law_steps_right : Addr} {oc24 kV24 dc24 pm24 cd24 ct24 : Value} {od24 an24 : Option Addr} {sl24 : Array (Option Value)}
    {f__law_refused : Addr} {oc25 kV25 dc25 pm25 cd25 ct25 : Value} {od25 an25 : Option Addr} {sl25 : Array (Option Value)}
    {f__law_refusals_right : Addr} {oc26 kV26 dc26 pm26 cd26 ct26 : Value} {od26 an26 : Option Addr} {sl26 : Array (Option Value)}
    {f_law : Addr} {oc27 kV27 dc27 pm27 cd27 ct27 : Value} {od27 an27 : Option Addr} {sl27 : Array (Option Value)}
    {t_MOST_ADDRESS : Tok}
    {C_CodeError : Addr}
    {C_BadInput : Addr}
    {C_NotRight : Addr}
    {C_NoWay : Addr}
    {C_BadStep : Addr}
    {C_Word : Addr}
    {C_BadByte f_BadByteu_initu cda28 cc28 : Addr} {oc28 kV28 dc28 pm28 ct28 : Value} {od28 an28 : Option Addr} {sl28 : Array (Option Value)}
    {nm28 q28 : Str} {N28 : Addr} {bs28 bm28 sub28 : List Value} {sn28 : List Str} {ab28 : Bool} {col28 : Option Bool} {dd28 : Option Addr} {ka28 kb28 kc28 kd28 ke28 : Option Value}
    {ccl28 ocl28 : Value} {ccd28 ocd28 : Option Addr} {vs28 : Array Value} {ccs28 ocs28 : Array (Option Value)} {file28 : Str} {tf28 : Tok}
    {C_BadAddress f_BadAddressu_initu cda29 cc29 : Addr} {oc29 kV29 dc29 pm29 ct29 : Value} {od29 an29 : Option Addr} {sl29 : Array (Option Value)}
    {nm29 q29 : Str} {N29 : Addr} {bs29 bm29 sub29 : List Value} {sn29 : List Str} {ab29 : Bool} {col29 : Option Bool} {dd29 : Option Addr} {ka29 kb29 kc29 kd29 ke29 : Option Value}
    {ccl29 ocl29 : Value} {ccd29 ocd29 : Option Addr} {vs29 : Array Value} {ccs29 ocs29 : Array (Option Value)} {file29 : Str} {tf29 : Tok}
    {twWrite trWrite : Tok}
    {twSync trSync : Tok}
    {twPass trPass : Tok}
    (aC_Price : PySem.W.nsIn K mainGlobals "Price" = some (some (.ref C_Price)))
    (aC_Step : PySem.W.nsIn K mainGlobals "Step" = some (some (.ref C_Step)))
    (aC_Write : PySem.W.nsIn K mainGlobals "Write" = some (some (.ref C_Write)))
    (aC_Sync : PySem.W.nsIn K mainGlobals "Sync" = some (some (.ref C_Sync)))
    (aC_Pass : PySem.W.nsIn K mainGlobals "Pass" = some (some (.ref C_Pass)))
    (a_is_byte : PySem.W.nsIn K mainGlobals "is_byte" = some (some (.ref f_is_byte)))
    (l_is_byte : K.lookup f_is_byte = some ⟨oc1, od1, .func (PySem.W.fnOf "is_byte" "is_byte" (defArgs s_is_byte) (defBody s_is_byte) (defScope s_is_byte) .none kV1 dc1 pm1 an1 cd1 ct1), sl1⟩)
    (c_is_byte : PySem.W.codeIn K cd1 "is_byte" = true)
    (k_is_byte : PySem.W.keepIn K (.ref f_is_byte) = true)
    (a_Priceu_initu : PySem.W.findIn K (.ref C_Price) "__init__" = some (some (.ref f_Priceu_initu)))
    (i_Priceu_initu : PySem.W.isFn K (.ref f_Priceu_initu) = true)
    (l_Priceu_initu : K.lookup f_Priceu_initu = some ⟨oc2, od2, .func (PySem.W.fnOf "__init__" "Price.__init__" (defArgs s_Priceu_initu) (defBody s_Priceu_initu) (defScope s_Priceu_initu) .none kV2 dc2 pm2 an2 cd2 ct2), sl2⟩)
    (c_Priceu_initu : PySem.W.codeIn K cd2 "Price.__init__" = true)
    (k_Priceu_initu : PySem.W.keepIn K (.ref f_Priceu_initu) = true)
    (pa_Price_words : PySem.W.findIn K (.ref C_Price) "words" = some (some (.ref pr3)))
    (pg_Price_words : PySem.W.specialIn K (.ref pr3) "__get__" = some (some (.builtin "property.__get__")))
    (pt_Price_words : PySem.W.takesIn K (.ref pr3) = some true)
    (prc_Price_words : PySem.W.recIn K pr3 "property" = some (.ref f_Price_words :: rst3))
    (l_Price_words : K.lookup f_Price_words = some ⟨oc3, od3, .func (PySem.W.fnOf "words" "Price.words" (defArgs s_Price_words) (defBody s_Price_words) (defScope s_Price_words) .none kV3 dc3 pm3 an3 cd3 ct3), sl3⟩)
    (c_Price_words : PySem.W.codeIn K cd3 "Price.words" = true)
    (k_Price_words : PySem.W.keepIn K (.ref f_Price_words) = true)
    (pa_Price_writes : PySem.W.findIn K (.ref C_Price) "writes" = some (some (.ref pr4)))
    (pg_Price_writes : PySem.W.specialIn K (.ref pr4) "__get__" = some (some (.builtin "property.__get__")))
    (pt_Price_writes : PySem.W.takesIn K (.ref pr4) = some true)
    (prc_Price_writes : PySem.W.recIn K pr4 "property" = some (.ref f_Price_writes :: rst4))
    (l_Price_writes : K.lookup f_Price_writes = some ⟨oc4, od4, .func (PySem.W.fnOf "writes" "Price.writes" (defArgs s_Price_writes) (defBody s_Price_writes) (defScope s_Price_writes) .none kV4 dc4 pm4 an4 cd4 ct4), sl4⟩)
    (c_Price_writes : PySem.W.codeIn K cd4 "Price.writes" = true)
    (k_Price_writes : PySem.W.keepIn K (.ref f_Price_writes) = true)
    (a_Price_under : PySem.W.findIn K (.ref C_Price) "under" = some (some (.ref f_Price_under)))
    (i_Price_under : PySem.W.isFn K (.ref f_Price_under) = true)
    (l_Price_under : K.lookup f_Price_under = some ⟨oc5, od5, .func (PySem.W.fnOf "under" "Price.under" (defArgs s_Price_under) (defBody s_Price_under) (defScope s_Price_under) .none kV5 dc5 pm5 an5 cd5 ct5), sl5⟩)
    (c_Price_under : PySem.W.codeIn K cd5 "Price.under" = true)
    (k_Price_under : PySem.W.keepIn K (.ref f_Price_under) = true)
    (a_Priceu_addu : PySem.W.findIn K (.ref C_Price) "__add__" = some (some (.ref f_Priceu_addu)))
    (i_Priceu_addu : PySem.W.isFn K (.ref f_Priceu_addu) = true)
    (l_Priceu_addu : K.lookup f_Priceu_addu = some ⟨oc6, od6, .func (PySem.W.fnOf "__add__" "Price.__add__" (defArgs s_Priceu_addu) (defBody s_Priceu_addu) (defScope s_Priceu_addu) .none kV6 dc6 pm6 an6 cd6 ct6), sl6⟩)
    (c_Priceu_addu : PySem.W.codeIn K cd6 "Price.__add__" = true)
    (k_Priceu_addu : PySem.W.keepIn K (.ref f_Priceu_addu) = true)
    (a_Priceu_equ : PySem.W.findIn K (.ref C_Price) "__eq__" = some (some (.ref f_Priceu_equ)))
    (i_Priceu_equ : PySem.W.isFn K (.ref f_Priceu_equ) = true)
    (l_Priceu_equ : K.lookup f_Priceu_equ = some ⟨oc7, od7, .func (PySem.W.fnOf "__eq__" "Price.__eq__" (defArgs s_Priceu_equ) (defBody s_Priceu_equ) (defScope s_Priceu_equ) .none kV7 dc7 pm7 an7 cd7 ct7), sl7⟩)
    (c_Priceu_equ : PySem.W.codeIn K cd7 "Price.__eq__" = true)
    (k_Priceu_equ : PySem.W.keepIn K (.ref f_Priceu_equ) = true)
    (a_Priceu_stru : PySem.W.findIn K (.ref C_Price) "__str__" = some (some (.ref f_Priceu_stru)))
    (i_Priceu_stru : PySem.W.isFn K (.ref f_Priceu_stru) = true)
    (l_Priceu_stru : K.lookup f_Priceu_stru = some ⟨oc8, od8, .func (PySem.W.fnOf "__str__" "Price.__str__" (defArgs s_Priceu_stru) (defBody s_Priceu_stru) (defScope s_Priceu_stru) .none kV8 dc8 pm8 an8 cd8 ct8), sl8⟩)
    (c_Priceu_stru : PySem.W.codeIn K cd8 "Price.__str__" = true)
    (k_Priceu_stru : PySem.W.keepIn K (.ref f_Priceu_stru) = true)
    (a_Stepu_initu : PySem.W.findIn K (.ref C_Step) "__init__" = some (some (.ref f_Stepu_initu)))
    (i_Stepu_initu : PySem.W.isFn K (.ref f_Stepu_initu) = true)
    (l_Stepu_initu : K.lookup f_Stepu_initu = some ⟨oc9, od9, .func (PySem.W.fnOf "__init__" "Step.__init__" (defArgs s_Stepu_initu) (defBody s_Stepu_initu) (defScope s_Stepu_initu) .none kV9 dc9 pm9 an9 cd9 ct9), sl9⟩)
    (c_Stepu_initu : PySem.W.codeIn K cd9 "Step.__init__" = true)
    (k_Stepu_initu : PySem.W.keepIn K (.ref f_Stepu_initu) = true)
    (pa_Step_price : PySem.W.findIn K (.ref C_Step) "price" = some (some (.ref pr10)))
    (pg_Step_price : PySem.W.specialIn K (.ref pr10) "__get__" = some (some (.builtin "property.__get__")))
    (pt_Step_price : PySem.W.takesIn K (.ref pr10) = some true)
    (prc_Step_price : PySem.W.recIn K pr10 "property" = some (.ref f_Step_price :: rst10))
    (l_Step_price : K.lookup f_Step_price = some ⟨oc10, od10, .func (PySem.W.fnOf "price" "Step.price" (defArgs s_Step_price) (defBody s_Step_price) (defScope s_Step_price) .none kV10 dc10 pm10 an10 cd10 ct10), sl10⟩)
    (c_Step_price : PySem.W.codeIn K cd10 "Step.price" = true)
    (k_Step_price : PySem.W.keepIn K (.ref f_Step_price) = true)
    (a_Stepu_equ : PySem.W.findIn K (.ref C_Step) "__eq__" = some (some (.ref f_Stepu_equ)))
    (i_Stepu_equ : PySem.W.isFn K (.ref f_Stepu_equ) = true)
    (l_Stepu_equ : K.lookup f_Stepu_equ = some ⟨oc11, od11, .func (PySem.W.fnOf "__eq__" "Step.__eq__" (defArgs s_Stepu_equ) (defBody s_Stepu_equ) (defScope s_Stepu_equ) .none kV11 dc11 pm11 an11 cd11 ct11), sl11⟩)
    (c_Stepu_equ : PySem.W.codeIn K cd11 "Step.__eq__" = true)
    (k_Stepu_equ : PySem.W.keepIn K (.ref f_Stepu_equ) = true)
    (a_Stepu_stru : PySem.W.findIn K (.ref C_Step) "__str__" = some (some (.ref f_Stepu_stru)))
    (i_Stepu_stru : PySem.W.isFn K (.ref f_Stepu_stru) = true)
    (l_Stepu_stru : K.lookup f_Stepu_stru = some ⟨oc12, od12, .func (PySem.W.fnOf "__str__" "Step.__str__" (defArgs s_Stepu_stru) (defBody s_Stepu_stru) (defScope s_Stepu_stru) .none kV12 dc12 pm12 an12 cd12 ct12), sl12⟩)
    (c_Stepu_stru : PySem.W.codeIn K cd12 "Step.__str__" = true)
    (k_Stepu_stru : PySem.W.keepIn K (.ref f_Stepu_stru) = true)
    (a_Writeu_initu : PySem.W.findIn K (.ref C_Write) "__init__" = some (some (.ref f_Writeu_initu)))
    (i_Writeu_initu : PySem.W.isFn K (.ref f_Writeu_initu) = true)
    (l_Writeu_initu : K.lookup f_Writeu_initu = some ⟨oc13, od13, .func (PySem.W.ksFn "__init__" "Write.__init__" (defArgs s_Writeu_initu) (defBody s_Writeu_initu) (defScope s_Writeu_initu) .none kV13 dc13 pm13 an13 (.ref cda13) ct13 cc13), sl13⟩)
    (c_Writeu_initu : PySem.W.codeIn K (.ref cda13) "Write.__init__" = true)
    (k_Writeu_initu : PySem.W.keepIn K (.ref f_Writeu_initu) = true)
    (cl_Writeu_initu : K.lookup cda13 = some ⟨ccl13, ccd13, .fields vs13, ccs13⟩)
    (cf_Writeu_initu : vs13[2]? = some (.str file13 tf13))
    (fe_Writeu_initu : (((PySem.Challenge.pw_codestitch_k23_prices_and_single_steps).main.file : Str) == file13) = true)
    (ce_Writeu_initu : K.lookup cc13 = some ⟨ocl13, ocd13, .cell (some (.ref C_Write)), ocs13⟩)
    (mrC_Write : PySem.W.mroIn K C_Write (.ref C_Write) = some true)
    (suC_Write : PySem.W.ks_superIn K C_Write C_Write "__init__" = some (some (.ref f_Stepu_initu)))
    (fi_Stepu_initu : PySem.W.fnIn K f_Stepu_initu = true)
    (zsuper : PySem.W.nsIn K mainGlobals "super" = some none)
    (znoop : PySem.W.nsIn K cStatics "thirdparty.any" = some none)
    (ztop : ((PySem.Challenge.pw_codestitch_k23_prices_and_single_steps).main.scope.names.lookup ("super" : Str)).isSome = false)
    (a_Syncu_initu : PySem.W.findIn K (.ref C_Sync) "__init__" = some (some (.ref f_Syncu_initu)))
    (i_Syncu_initu : PySem.W.isFn K (.ref f_Syncu_initu) = true)
    (l_Syncu_initu : K.lookup f_Syncu_initu = some ⟨oc14, od14, .func (PySem.W.ksFn "__init__" "Sync.__init__" (defArgs s_Syncu_initu) (defBody s_Syncu_initu) (defScope s_Syncu_initu) .none kV14 dc14 pm14 an14 (.ref cda14) ct14 cc14), sl14⟩)
    (c_Syncu_initu : PySem.W.codeIn K (.ref cda14) "Sync.__init__" = true)
    (k_Syncu_initu : PySem.W.keepIn K (.ref f_Syncu_initu) = true)
    (cl_Syncu_initu : K.lookup cda14 = some ⟨ccl14, ccd14, .fields vs14, ccs14⟩)
    (cf_Syncu_initu : vs14[2]? = some (.str file14 tf14))
    (fe_Syncu_initu : (((PySem.Challenge.pw_codestitch_k23_prices_and_single_steps).main.file : Str) == file14) = true)
    (ce_Syncu_initu : K.lookup cc14 = some ⟨ocl14, ocd14, .cell (some (.ref C_Sync)), ocs14⟩)
    (mrC_Sync : PySem.W.mroIn K C_Sync (.ref C_Sync) = some true)
    (suC_Sync : PySem.W.ks_superIn K C_Sync C_Sync "__init__" = some (some (.ref f_Stepu_initu)))
    (a_Passu_initu : PySem.W.findIn K (.ref C_Pass) "__init__" = some (some (.ref f_Passu_initu)))
    (i_Passu_initu : PySem.W.isFn K (.ref f_Passu_initu) = true)
    (l_Passu_initu : K.lookup f_Passu_initu = some ⟨oc15, od15, .func (PySem.W.ksFn "__init__" "Pass.__init__" (defArgs s_Passu_initu) (defBody s_Passu_initu) (defScope s_Passu_initu) .none kV15 dc15 pm15 an15 (.ref cda15) ct15 cc15), sl15⟩)
    (c_Passu_initu : PySem.W.codeIn K (.ref cda15) "Pass.__init__" = true)
    (k_Passu_initu : PySem.W.keepIn K (.ref f_Passu_initu) = true)
    (cl_Passu_initu : K.lookup cda15 = some ⟨ccl15, ccd15, .fields vs15, ccs15⟩)
    (cf_Passu_initu : vs15[2]? = some (.str file15 tf15))
    (fe_Passu_initu : (((PySem.Challenge.pw_codestitch_k23_prices_and_single_steps).main.file : Str) == file15) = true)
    (ce_Passu_initu : K.lookup cc15 = some ⟨ocl15, ocd15, .cell (some (.ref C_Pass)), ocs15⟩)
    (mrC_Pass : PySem.W.mroIn K C_Pass (.ref C_Pass) = some true)
    (suC_Pass : PySem.W.ks_superIn K C_Pass C_Pass "__init__" = some (some (.ref f_Stepu_initu)))
    (a__law_pen : PySem.W.nsIn K mainGlobals "_law_pen" = some (some (.ref f__law_pen)))
    (l__law_pen : K.lookup f__law_pen = some ⟨oc16, od16, .func (PySem.W.fnOf "_law_pen" "_law_pen" (defArgs s__law_pen) (defBody s__law_pen) (defScope s__law_pen) .none kV16 dc16 pm16 an16 cd16 ct16), sl16⟩)
    (c__law_pen : PySem.W.codeIn K cd16 "_law_pen" = true)
    (k__law_pen : PySem.W.keepIn K (.ref f__law_pen) = true)
    (a__law_draw : PySem.W.nsIn K mainGlobals "_law_draw" = some (some (.ref f__law_draw)))
    (l__law_draw : K.lookup f__law_draw = some ⟨oc17, od17, .func (PySem.W.fnOf "_law_draw" "_law_draw" (defArgs s__law_draw) (defBody s__law_draw) (defScope s__law_draw) .none kV17 dc17 pm17 an17 cd17 ct17), sl17⟩)
    (c__law_draw : PySem.W.codeIn K cd17 "_law_draw" = true)
    (k__law_draw : PySem.W.keepIn K (.ref f__law_draw) = true)
    (a__law_number : PySem.W.nsIn K mainGlobals "_law_number" = some (some (.ref f__law_number)))
    (l__law_number : K.lookup f__law_number = some ⟨oc18, od18, .func (PySem.W.fnOf "_law_number" "_law_number" (defArgs s__law_number) (defBody s__law_number) (defScope s__law_number) .none kV18 dc18 pm18 an18 cd18 ct18), sl18⟩)
    (c__law_number : PySem.W.codeIn K cd18 "_law_number" = true)
    (k__law_number : PySem.W.keepIn K (.ref f__law_number) = true)
    (a__law_prices_right : PySem.W.nsIn K mainGlobals "_law_prices_right" = some (some (.ref f__law_prices_right)))
    (l__law_prices_right : K.lookup f__law_prices_right = some ⟨oc19, od19, .func (PySem.W.fnOf "_law_prices_right" "_law_prices_right" (defArgs s__law_prices_right) (defBody s__law_prices_right) (defScope s__law_prices_right) .none kV19 dc19 pm19 an19 cd19 ct19), sl19⟩)
    (c__law_prices_right : PySem.W.codeIn K cd19 "_law_prices_right" = true)
    (k__law_prices_right : PySem.W.keepIn K (.ref f__law_prices_right) = true)
    (a__law_write : PySem.W.nsIn K mainGlobals "_law_write" = some (some (.ref f__law_write)))
    (l__law_write : K.lookup f__law_write = some ⟨oc20, od20, .func (PySem.W.fnOf "_law_write" "_law_write" (defArgs s__law_write) (defBody s__law_write) (defScope s__law_write) .none kV20 dc20 pm20 an20 cd20 ct20), sl20⟩)
    (c__law_write : PySem.W.codeIn K cd20 "_law_write" = true)
    (k__law_write : PySem.W.keepIn K (.ref f__law_write) = true)
    (a__law_drawn : PySem.W.nsIn K mainGlobals "_law_drawn" = some (some (.ref f__law_drawn)))
    (l__law_drawn : K.lookup f__law_drawn = some ⟨oc21, od21, .func (PySem.W.fnOf "_law_drawn" "_law_drawn" (defArgs s__law_drawn) (defBody s__law_drawn) (defScope s__law_drawn) .none kV21 dc21 pm21 an21 cd21 ct21), sl21⟩)
    (c__law_drawn : PySem.W.codeIn K cd21 "_law_drawn" = true)
    (k__law_drawn : PySem.W.keepIn K (.ref f__law_drawn) = true)
    (a__law_near : PySem.W.nsIn K mainGlobals "_law_near" = some (some (.ref f__law_near)))
    (l__law_near : K.lookup f__law_near = some ⟨oc22, od22, .func (PySem.W.fnOf "_law_near" "_law_near" (defArgs s__law_near) (defBody s__law_near) (defScope s__law_near) .none kV22 dc22 pm22 an22 cd22 ct22), sl22⟩)
    (c__law_near : PySem.W.codeIn K cd22 "_law_near" = true)
    (k__law_near : PySem.W.keepIn K (.ref f__law_near) = true)
    (a__law_step : PySem.W.nsIn K mainGlobals "_law_step" = some (some (.ref f__law_step)))
    (l__law_step : K.lookup f__law_step = some ⟨oc23, od23, .func (PySem.W.fnOf "_law_step" "_law_step" (defArgs s__law_step) (defBody s__law_step) (defScope s__law_step) .none kV23 dc23 pm23 an23 cd23 ct23), sl23⟩)
    (c__law_step : PySem.W.codeIn K cd23 "_law_step" = true)
    (k__law_step : PySem.W.keepIn K (.ref f__law_step) = true)
    (a__law_steps_right : PySem.W.nsIn K mainGlobals "_law_steps_right" = some (some (.ref f__law_steps_right)))
    (l__law_steps_right : K.lookup f__law_steps_right = some ⟨oc24, od24, .func (PySem.W.fnOf "_law_steps_right" "_law_steps_right" (defArgs s__law_steps_right) (defBody s__law_steps_right) (defScope s__law_steps_right) .none kV24 dc24 pm24 an24 cd24 ct24), sl24⟩)
    (c__law_steps_right : PySem.W.codeIn K cd24 "_law_steps_right" = true)
    (k__law_steps_right : PySem.W.keepIn K (.ref f__law_steps_right) = true)
    (a__law_refused : PySem.W.nsIn K mainGlobals "_law_refused" = some (some (.ref f__law_refused)))
    (l__law_refused : K.lookup f__law_refused = some ⟨oc25, od25, .func (PySem.W.fnOf "_law_refused" "_law_refused" (defArgs s__law_refused) (defBody s__law_refused) (defScope s__law_refused) .none kV25 dc25 pm25 an25 cd25 ct25), sl25⟩)
    (c__law_refused : PySem.W.codeIn K cd25 "_law_refused" = true)
    (k__law_refused : PySem.W.keepIn K (.ref f__law_refused) = true)
    (a__law_refusals_right : PySem.W.nsIn K mainGlobals "_law_refusals_right" = some (some (.ref f__law_refusals_right)))
    (l__law_refusals_right : K.lookup f__law_refusals_right = some ⟨oc26, od26, .func (PySem.W.fnOf "_law_refusals_right" "_law_refusals_right" (defArgs s__law_refusals_right) (defBody s__law_refusals_right) (defScope s__law_refusals_right) .none kV26 dc26 pm26 an26 cd26 ct26), sl26⟩)
    (c__law_refusals_right : PySem.W.codeIn K cd26 "_law_refusals_right" = true)
    (k__law_refusals_right : PySem.W.keepIn K (.ref f__law_refusals_right) = true)
    (a_law : PySem.W.nsIn K mainGlobals "law" = some (some (.ref f_law)))
    (l_law : K.lookup f_law = some ⟨oc27, od27, .func (PySem.W.fnOf "law" "law" (defArgs s_law) (defBody s_law) (defScope s_law) .none kV27 dc27 pm27 an27 cd27 ct27), sl27⟩)
    (c_law : PySem.W.codeIn K cd27 "law" = true)
    (k_law : PySem.W.keepIn K (.ref f_law) = true)
    (pg_Price : PySem.W.plainGet K C_Price Str.empty = true)
    (hd_Price : PySem.W.hasDictIn K C_Price = true)
    (po_Price : PySem.W.plainOver K C_Price = true)
    (sa_Price : PySem.W.findIn K (.ref C_Price) "__setattr__" = some (some (.builtin "object.__setattr__")))
    (mk_Price : PySem.W.makesIn K C_Price = true)
    (kc_Price : PySem.W.keepIn K (.ref C_Price) = true)
    (no_Price_counted : PySem.W.findIn K (.ref C_Price) "counted" = some none)
    (pg_Step : PySem.W.plainGet K C_Step Str.empty = true)
    (hd_Step : PySem.W.hasDictIn K C_Step = true)
    (po_Step : PySem.W.plainOver K C_Step = true)
    (sa_Step : PySem.W.findIn K (.ref C_Step) "__setattr__" = some (some (.builtin "object.__setattr__")))
    (pg_Write : PySem.W.plainGet K C_Write Str.empty = true)
    (hd_Write : PySem.W.hasDictIn K C_Write = true)
    (po_Write : PySem.W.plainOver K C_Write = true)
    (sa_Write : PySem.W.findIn K (.ref C_Write) "__setattr__" = some (some (.builtin "object.__setattr__")))
    (mk_Write : PySem.W.makesIn K C_Write = true)
    (kc_Write : PySem.W.keepIn K (.ref C_Write) = true)
    (no_Write_shown : PySem.W.findIn K (.ref C_Write) "shown" = some none)
    (no_Write_address : PySem.W.findIn K (.ref C_Write) "address" = some none)
    (no_Write_given : PySem.W.findIn K (.ref C_Write) "given" = some none)
    (pg_Sync : PySem.W.plainGet K C_Sync Str.empty = true)
    (hd_Sync : PySem.W.hasDictIn K C_Sync = true)
    (po_Sync : PySem.W.plainOver K C_Sync = true)
    (sa_Sync : PySem.W.findIn K (.ref C_Sync) "__setattr__" = some (some (.builtin "object.__setattr__")))
    (mk_Sync : PySem.W.makesIn K C_Sync = true)
    (kc_Sync : PySem.W.keepIn K (.ref C_Sync) = true)
    (no_Sync_shown : PySem.W.findIn K (.ref C_Sync) "shown" = some none)
    (pg_Pass : PySem.W.plainGet K C_Pass Str.empty = true)
    (hd_Pass : PySem.W.hasDictIn K C_Pass = true)
    (po_Pass : PySem.W.plainOver K C_Pass = true)
    (sa_Pass : PySem.W.findIn K (.ref C_Pass) "__setattr__" = some (some (.builtin "object.__setattr__")))
    (mk_Pass : PySem.W.makesIn K C_Pass = true)
    (kc_Pass : PySem.W.keepIn K (.ref C_Pass) = true)
    (no_Pass_shown : PySem.W.findIn K (.ref C_Pass) "shown" = some none)
    (no_Pass_stretch : PySem.W.findIn K (.ref C_Pass) "stretch" = some none)
    (z_len : PySem.W.nsIn K mainGlobals "len" = some none)
    (z_abs : PySem.W.nsIn K mainGlobals "abs" = some none)
    (z_int : PySem.W.nsIn K mainGlobals "int" = some none)
    (z_list : PySem.W.nsIn K mainGlobals "list" = some none)
    (z_range : PySem.W.nsIn K mainGlobals "range" = some none)
    (z_isinstance : PySem.W.nsIn K mainGlobals "isinstance" = some none)
    (z_bool : PySem.W.nsIn K mainGlobals "bool" = some none)
    (z_str : PySem.W.nsIn K mainGlobals "str" = some none)
    (z_tuple : PySem.W.nsIn K mainGlobals "tuple" = some none)
    (z_ValueError : PySem.W.nsIn K mainGlobals "ValueError" = some none)
    (z_repr : PySem.W.nsIn K mainGlobals "repr" = some none)
    (z_enumerate : PySem.W.nsIn K mainGlobals "enumerate" = some none)
    (v_MOST_ADDRESS : PySem.W.nsIn K mainGlobals "MOST_ADDRESS" = some (some (.int 23 t_MOST_ADDRESS)))
    (aC_CodeError : PySem.W.nsIn K mainGlobals "CodeError" = some (some (.ref C_CodeError)))
    (aC_BadInput : PySem.W.nsIn K mainGlobals "BadInput" = some (some (.ref C_BadInput)))
    (aC_NotRight : PySem.W.nsIn K mainGlobals "NotRight" = some (some (.ref C_NotRight)))
    (aC_NoWay : PySem.W.nsIn K mainGlobals "NoWay" = some (some (.ref C_NoWay)))
    (aC_BadStep : PySem.W.nsIn K mainGlobals "BadStep" = some (some (.ref C_BadStep)))
    (aC_Word : PySem.W.nsIn K mainGlobals "Word" = some (some (.ref C_Word)))
    (zgcn : PySem.W.specialIn K (.builtin "object.__class__") "__get__" = some (some (.builtin "getset_descriptor.__get__")))
    (zgct : PySem.W.takesIn K (.builtin "object.__class__") = some true)
    (aC_BadByte : PySem.W.nsIn K mainGlobals "BadByte" = some (some (.ref C_BadByte)))
    (lkC_BadByte : K.lookup C_BadByte = some (excClassObj nm28 q28 C_BadByte N28 bs28 bm28 true sn28 sub28 ab28 col28 dd28 ka28 kb28 kc28 kd28 ke28 "ValueError.__new__"))
    (bmC_BadByte : PySem.HandSPX.refsVE bm28 = true)
    (saC_BadByte : PySem.W.findIn K (.ref C_BadByte) "__setattr__" = some (some (.builtin "object.__setattr__")))
    (exC_BadByte : PySem.W.subIn K (.ref C_BadByte) (.type "BaseException") = some true)
    (tyC_BadByte : PySem.W.typeIn K (.ref C_BadByte) = some (.type "type"))
    (kpC_BadByte : PySem.W.keepIn K (.ref C_BadByte) = true)
    (inC_BadByte : PySem.W.findIn K (.ref C_BadByte) "__init__" = some (some (.ref f_BadByteu_initu)))
    (tiC_BadByte : PySem.W.typeIn K (.ref f_BadByteu_initu) = some (.type "function"))
    (noC_BadByte_at : PySem.W.findIn K (.ref C_BadByte) "at" = some none)
    (gaC_BadByte : PySem.W.findIn K (.ref C_BadByte) "__getattribute__" = some (some (.builtin "BaseException.__getattribute__")))
    (ggC_BadByte : PySem.W.findIn K (.ref C_BadByte) "__getattr__" = some none)
    (hdC_BadByte : PySem.W.hasDictIn K C_BadByte = true)
    (gcC_BadByte : PySem.W.findIn K (.ref C_BadByte) "__class__" = some (some (.builtin "object.__class__")))
    (moC_BadByte : PySem.W.mroIn K C_BadByte (.type "object") = some true)
    (l_BadByteu_initu : K.lookup f_BadByteu_initu = some ⟨oc28, od28, .func (PySem.W.ksFn "__init__" "BadByte.__init__" (defArgs s_BadByteu_initu) (defBody s_BadByteu_initu) (defScope s_BadByteu_initu) .none kV28 dc28 pm28 an28 (.ref cda28) ct28 cc28), sl28⟩)
    (c_BadByteu_initu : PySem.W.codeIn K (.ref cda28) "BadByte.__init__" = true)
    (k_BadByteu_initu : PySem.W.keepIn K (.ref f_BadByteu_initu) = true)
    (cl_BadByteu_initu : K.lookup cda28 = some ⟨ccl28, ccd28, .fields vs28, ccs28⟩)
    (cf_BadByteu_initu : vs28[2]? = some (.str file28 tf28))
    (fe_BadByteu_initu : (((PySem.Challenge.pw_codestitch_k23_prices_and_single_steps).main.file : Str) == file28) = true)
    (ce_BadByteu_initu : K.lookup cc28 = some ⟨ocl28, ocd28, .cell (some (.ref C_BadByte)), ocs28⟩)
    (mrC_BadByte : PySem.W.mroIn K C_BadByte (.ref C_BadByte) = some true)
    (suC_BadByte : PySem.W.ks_superIn K C_BadByte C_BadByte "__init__" = some (some (.builtin "ValueError.__init__")))
    (svC_BadByte : PySem.W.subIn K (.ref C_BadByte) (.type "ValueError") = some true)
    (aC_BadAddress : PySem.W.nsIn K mainGlobals "BadAddress" = some (some (.ref C_BadAddress)))
    (lkC_BadAddress : K.lookup C_BadAddress = some (excClassObj nm29 q29 C_BadAddress N29 bs29 bm29 true sn29 sub29 ab29 col29 dd29 ka29 kb29 kc29 kd29 ke29 "ValueError.__new__"))
    (bmC_BadAddress : PySem.HandSPX.refsVE bm29 = true)
    (saC_BadAddress : PySem.W.findIn K (.ref C_BadAddress) "__setattr__" = some (some (.builtin "object.__setattr__")))
    (exC_BadAddress : PySem.W.subIn K (.ref C_BadAddress) (.type "BaseException") = some true)
    (tyC_BadAddress : PySem.W.typeIn K (.ref C_BadAddress) = some (.type "type"))
    (kpC_BadAddress : PySem.W.keepIn K (.ref C_BadAddress) = true)
    (inC_BadAddress : PySem.W.findIn K (.ref C_BadAddress) "__init__" = some (some (.ref f_BadAddressu_initu)))
    (tiC_BadAddress : PySem.W.typeIn K (.ref f_BadAddressu_initu) = some (.type "function"))
    (noC_BadAddress_at : PySem.W.findIn K (.ref C_BadAddress) "at" = some none)
    (gaC_BadAddress : PySem.W.findIn K (.ref C_BadAddress) "__getattribute__" = some (some (.builtin "BaseException.__getattribute__")))
    (ggC_BadAddress : PySem.W.findIn K (.ref C_BadAddress) "__getattr__" = some none)
    (hdC_BadAddress : PySem.W.hasDictIn K C_BadAddress = true)
    (gcC_BadAddress : PySem.W.findIn K (.ref C_BadAddress) "__class__" = some (some (.builtin "object.__class__")))
    (moC_BadAddress : PySem.W.mroIn K C_BadAddress (.type "object") = some true)
    (l_BadAddressu_initu : K.lookup f_BadAddressu_initu = some ⟨oc29, od29, .func (PySem.W.ksFn "__init__" "BadAddress.__init__" (defArgs s_BadAddressu_initu) (defBody s_BadAddressu_initu) (defScope s_BadAddressu_initu) .none kV29 dc29 pm29 an29 (.ref cda29) ct29 cc29), sl29⟩)
    (c_BadAddressu_initu : PySem.W.codeIn K (.ref cda29) "BadAddress.__init__" = true)
    (k_BadAddressu_initu : PySem.W.keepIn K (.ref f_BadAddressu_initu) = true)
    (cl_BadAddressu_initu : K.lookup cda29 = some ⟨ccl29, ccd29, .fields vs29, ccs29⟩)
    (cf_BadAddressu_initu : vs29[2]? = some (.str file29 tf29))
    (fe_BadAddressu_initu : (((PySem.Challenge.pw_codestitch_k23_prices_and_single_steps).main.file : Str) == file29) = true)
    (ce_BadAddressu_initu : K.lookup cc29 = some ⟨ocl29, ocd29, .cell (some (.ref C_BadAddress)), ocs29⟩)
    (mrC_BadAddress : PySem.W.mroIn K C_BadAddress (.ref C_BadAddress) = some true)
    (suC_BadAddress : PySem.W.ks_superIn K C_BadAddress C_BadAddress "__init__" = some (some (.builtin "ValueError.__init__")))
    (svC_BadAddress : PySem.W.subIn K (.ref C_BadAddress) (.type "ValueError") = some true)
    (kit_BadByte_BadInput : PySem.W.kitOne K (.ref C_BadByte) (.ref C_BadInput) = some true)
    (kit_BadByte_NotRight : PySem.W.kitOne K (.ref C_BadByte) (.ref C_NotRight) = some false)
    (kit_BadByte_NoWay : PySem.W.kitOne K (.ref C_BadByte) (.ref C_NoWay) = some false)
    (kit_BadByte_ValueError : PySem.W.kitOne K (.ref C_BadByte) (.type "ValueError") = some true)
    (kit_BadByte_BadStep : PySem.W.kitOne K (.ref C_BadByte) (.ref C_BadStep) = some false)
    (kit_BadByte_BadAddress : PySem.W.kitOne K (.ref C_BadByte) (.ref C_BadAddress) = some false)
    (kit_BadByte_BadByte : PySem.W.kitOne K (.ref C_BadByte) (.ref C_BadByte) = some true)
    (kit_BadAddress_BadInput : PySem.W.kitOne K (.ref C_BadAddress) (.ref C_BadInput) = some true)
    (kit_BadAddress_NotRight : PySem.W.kitOne K (.ref C_BadAddress) (.ref C_NotRight) = some false)
    (kit_BadAddress_NoWay : PySem.W.kitOne K (.ref C_BadAddress) (.ref C_NoWay) = some false)
    (kit_BadAddress_ValueError : PySem.W.kitOne K (.ref C_BadAddress) (.type "ValueError") = some true)
    (kit_BadAddress_BadStep : PySem.W.kitOne K (.ref C_BadAddress) (.ref C_BadStep) = some false)
    (kit_BadAddress_BadAddress : PySem.W.kitOne K (.ref C_BadAddress) (.ref C_BadAddress) = some true)
    (kit_BadAddress_BadByte : PySem.W.kitOne K (.ref C_BadAddress) (.ref C_BadByte) = some false)
    (kit_Write_Step : PySem.W.kitOne K (.ref C_Write) (.ref C_Step) = some true)
    (kit_Write_Word : PySem.W.kitOne K (.ref C_Write) (.ref C_Word) = some false)
    (kit_Write_Sync : PySem.W.kitOne K (.ref C_Write) (.ref C_Sync) = some false)
    (kit_Write_Pass : PySem.W.kitOne K (.ref C_Write) (.ref C_Pass) = some false)
    (kit_Sync_Step : PySem.W.kitOne K (.ref C_Sync) (.ref C_Step) = some true)
    (kit_Sync_Word : PySem.W.kitOne K (.ref C_Sync) (.ref C_Word) = some true)
    (kit_Sync_Write : PySem.W.kitOne K (.ref C_Sync) (.ref C_Write) = some false)
    (kit_Sync_Pass : PySem.W.kitOne K (.ref C_Sync) (.ref C_Pass) = some false)
    (kit_Pass_Step : PySem.W.kitOne K (.ref C_Pass) (.ref C_Step) = some true)
    (kit_Pass_Word : PySem.W.kitOne K (.ref C_Pass) (.ref C_Word) = some true)
    (kit_Pass_Write : PySem.W.kitOne K (.ref C_Pass) (.ref C_Write) = some false)
    (kit_Pass_Sync : PySem.W.kitOne K (.ref C_Pass) (.ref C_Sync) = some false)
    (exm_BadByte_CodeError : PySem.W.exmOne K (.ref C_BadByte) (.ref C_CodeError) = some true)
    (exm_BadAddress_CodeError : PySem.W.exmOne K (.ref C_BadAddress) (.ref C_CodeError) = some true)
    (icc_Price : PySem.W.findIn K (.ref C_Price) "__class__" = some (some (.builtin "object.__class__")))
    (icm_Price : PySem.W.mroIn K C_Price (.type "object") = some true)
    (kit_Price_Price : PySem.W.kitOne K (.ref C_Price) (.ref C_Price) = some true)
    (icc_Write : PySem.W.findIn K (.ref C_Write) "__class__" = some (some (.builtin "object.__class__")))
    (icm_Write : PySem.W.mroIn K C_Write (.type "object") = some true)
    (kit_Write_Write : PySem.W.kitOne K (.ref C_Write) (.ref C_Write) = some true)
    (icc_Sync : PySem.W.findIn K (.ref C_Sync) "__class__" = some (some (.builtin "object.__class__")))
    (icm_Sync : PySem.W.mroIn K C_Sync (.type "object") = some true)
    (kit_Sync_Sync : PySem.W.kitOne K (.ref C_Sync) (.ref C_Sync) = some true)
    (icc_Pass : PySem.W.findIn K (.ref C_Pass) "__class__" = some (some (.builtin "object.__class__")))
    (icm_Pass : PySem.W.mroIn K C_Pass (.type "object") = some true)
    (kit_Pass_Pass : PySem.W.kitOne K (.ref C_Pass) (.ref C_Pass) = some true)
    (nee_Price : PySem.W.findIn K (.ref C_Price) "__ne__" = some (some (.builtin "object.__ne__")))
    (kit_tuple_Price : PySem.W.kitOne K (.type "tuple") (.ref C_Price) = some false)
    (kit_tuple_Step : PySem.W.kitOne K (.type "tuple") (.ref C_Step) = some false)
    (kit_str_Step : PySem.W.kitOne K (.type "str") (.ref C_Step) = some false)
    (kit_int_Step : PySem.W.kitOne K (.type "int") (.ref C_Step) = some false)
    (nf_Price_Price : PySem.W.notFirst K C_Price (.ref C_Price) = true)
    (nf_tuple_Price : PySem.W.notFirst K C_Price (.type "tuple") = true)
    (nf_Write_Write : PySem.W.notFirst K C_Write (.ref C_Write) = true)
    (nf_Sync_Write : PySem.W.notFirst K C_Write (.ref C_Sync) = true)
    (nf_Pass_Write : PySem.W.notFirst K C_Write (.ref C_Pass) = true)
    (nf_tuple_Write : PySem.W.notFirst K C_Write (.type "tuple") = true)
    (nf_str_Write : PySem.W.notFirst K C_Write (.type "str") = true)
    (nf_int_Write : PySem.W.notFirst K C_Write (.type "int") = true)
    (nf_Write_Sync : PySem.W.notFirst K C_Sync (.ref C_Write) = true)
    (nf_Sync_Sync : PySem.W.notFirst K C_Sync (.ref C_Sync) = true)
    (nf_Pass_Sync : PySem.W.notFirst K C_Sync (.ref C_Pass) = true)
    (nf_tuple_Sync : PySem.W.notFirst K C_Sync (.type "tuple") = true)
    (nf_str_Sync : PySem.W.notFirst K C_Sync (.type "str") = true)
    (nf_int_Sync : PySem.W.notFirst K C_Sync (.type "int") = true)
    (nf_Write_Pass : PySem.W.notFirst K C_Pass (.ref C_Write) = true)
    (nf_Sync_Pass : PySem.W.notFirst K C_Pass (.ref C_Sync) = true)
    (nf_Pass_Pass : PySem.W.notFirst K C_Pass (.ref C_Pass) = true)
    (nf_tuple_Pass : PySem.W.notFirst K C_Pass (.type "tuple") = true)
    (nf_str_Pass : PySem.W.notFirst K C_Pass (.type "str") = true)
    (nf_int_Pass : PySem.W.notFirst K C_Pass (.type "int") = true)
    (sfP : PySem.W.selfFirst K C_Price = true)
    (spr_Write : PySem.W.findIn K (.ref C_Write) "price" = some (some (.ref pr10)))
    (seq_Write : PySem.W.findIn K (.ref C_Write) "__eq__" = some (some (.ref f_Stepu_equ)))
    (sne_Write : PySem.W.findIn K (.ref C_Write) "__ne__" = some (some (.builtin "object.__ne__")))
    (sst_Write : PySem.W.findIn K (.ref C_Write) "__str__" = some (some (.ref f_Stepu_stru)))
    (swo_Write : PySem.W.findIn K (.ref C_Write) "WORDS" = some (some (.int 0 twWrite)))
    (swr_Write : PySem.W.findIn K (.ref C_Write) "WRITES" = some (some (.int 1 trWrite)))
    (swg_Write : PySem.W.specialIn K (.int 0 twWrite) "__get__" = some none)
    (srg_Write : PySem.W.specialIn K (.int 1 trWrite) "__get__" = some none)
    (spr_Sync : PySem.W.findIn K (.ref C_Sync) "price" = some (some (.ref pr10)))
    (seq_Sync : PySem.W.findIn K (.ref C_Sync) "__eq__" = some (some (.ref f_Stepu_equ)))
    (sne_Sync : PySem.W.findIn K (.ref C_Sync) "__ne__" = some (some (.builtin "object.__ne__")))
    (sst_Sync : PySem.W.findIn K (.ref C_Sync) "__str__" = some (some (.ref f_Stepu_stru)))
    (swo_Sync : PySem.W.findIn K (.ref C_Sync) "WORDS" = some (some (.int 1 twSync)))
    (swr_Sync : PySem.W.findIn K (.ref C_Sync) "WRITES" = some (some (.int 0 trSync)))
    (swg_Sync : PySem.W.specialIn K (.int 1 twSync) "__get__" = some none)
    (srg_Sync : PySem.W.specialIn K (.int 0 trSync) "__get__" = some none)
    (spr_Pass : PySem.W.findIn K (.ref C_Pass) "price" = some (some (.ref pr10)))
    (seq_Pass : PySem.W.findIn K (.ref C_Pass) "__eq__" = some (some (.ref f_Stepu_equ)))
    (sne_Pass : PySem.W.findIn K (.ref C_Pass) "__ne__" = some (some (.builtin "object.__ne__")))
    (sst_Pass : PySem.W.findIn K (.ref C_Pass) "__str__" = some (some (.ref f_Stepu_stru)))
    (swo_Pass : PySem.W.findIn K (.ref C_Pass) "WORDS" = some (some (.int 1 twPass)))
    (swr_Pass : PySem.W.findIn K (.ref C_Pass) "WRITES" = some (some (.int 0 trPass)))
    (swg_Pass : PySem.W.specialIn K (.int 1 twPass) "__get__" = some none)
    (srg_Pass : PySem.W.specialIn K (.int 0 trPass) "__get__" = some none) :
    ∃ fd : FuncData, (∀ (s : Shared) (v : Value), BindsTo s fd ⟨[v], []⟩ [("_law_script", v)]) ∧ ∀ base : Heap, K.In base → base.Ns mainGlobals mg → Vc.FnG PySem.Challenge.pw_codestitch_k23_prices_and_single_steps w K mg base CX0 10 fa fd ["_law_script"] (spLaw K) := by
  have e := hfa.symm.trans (PySem.W.mg_of X G a_law)
  cases e
  have F_is_byte := fun_mk (st := s_is_byte) l_is_byte c_is_byte k_is_byte
  have F_Priceu_initu := fun_mk (st := s_Priceu_initu) l_Priceu_initu c_Priceu_initu k_Priceu_initu
  have F_Price_words := fun_mk (st := s_Price_words) l_Price_words c_Price_words k_Price_words
  have F_Price_writes := fun_mk (st := s_Price_writes) l_Price_writes c_Price_writes k_Price_writes
  have F_Price_under := fun_mk (st := s_Price_under) l_Price_under c_Price_under k_Price_under
  have F_Priceu_addu := fun_mk (st := s_Priceu_addu) l_Priceu_addu c_Priceu_addu k_Priceu_addu
  have F_Priceu_equ := fun_mk (st := s_Priceu_equ) l_Priceu_equ c_Priceu_equ k_Priceu_equ
  have F_Priceu_stru := fun_mk (st := s_Priceu_stru) l_Priceu_stru c_Priceu_stru k_Priceu_stru
  have F_Stepu_initu := fun_mk (st := s_Stepu_initu) l_Stepu_initu c_Stepu_initu k_Stepu_initu
  have F_Step_price := fun_mk (st := s_Step_price) l_Step_price c_Step_price k_Step_price
  have F_Stepu_equ := fun_mk (st := s_Stepu_equ) l_Stepu_equ c_Stepu_equ k_Stepu_equ
  have F_Stepu_stru := fun_mk (st := s_Stepu_stru) l_Stepu_stru c_Stepu_stru k_Stepu_stru
  have F_Writeu_initu : Vc.FunQ PySem.Challenge.pw_codestitch_k23_prices_and_single_steps K mg "__init__" "Write.__init__" s_Writeu_initu f_Writeu_initu (PySem.W.ksFn "__init__" "Write.__init__" (defArgs s_Writeu_initu) (defBody s_Writeu_initu) (defScope s_Writeu_initu) .none kV13 dc13 pm13 an13 (.ref cda13) ct13 cc13) C_Write f_Stepu_initu "self" := ⟨⟨_, _, _, _, _, _, _, _, _, _, rfl, l_Writeu_initu, c_Writeu_initu, ⟨⟨_, _, _, l_Writeu_initu⟩, ⟨_, rfl, rfl⟩, ⟨_, _, _, _, _, _, cl_Writeu_initu, cf_Writeu_initu, fe_Writeu_initu⟩, ⟨_, _, _, ce_Writeu_initu⟩, mrC_Write, suC_Write, i_Stepu_initu, fi_Stepu_initu, PySem.W.mg_none_of X G zsuper, znoop, ztop⟩⟩, k_Writeu_initu⟩
  have F_Syncu_initu : Vc.FunQ PySem.Challenge.pw_codestitch_k23_prices_and_single_steps K mg "__init__" "Sync.__init__" s_Syncu_initu f_Syncu_initu (PySem.W.ksFn "__init__" "Sync.__init__" (defArgs s_Syncu_initu) (defBody s_Syncu_initu) (defScope s_Syncu_initu) .none kV14 dc14 pm14 an14 (.ref cda14) ct14 cc14) C_Sync f_Stepu_initu "self" := ⟨⟨_, _, _, _, _, _, _, _, _, _, rfl, l_Syncu_initu, c_Syncu_initu, ⟨⟨_, _, _, l_Syncu_initu⟩, ⟨_, rfl, rfl⟩, ⟨_, _, _, _, _, _, cl_Syncu_initu, cf_Syncu_initu, fe_Syncu_initu⟩, ⟨_, _, _, ce_Syncu_initu⟩, mrC_Sync, suC_Sync, i_Stepu_initu, fi_Stepu_initu, PySem.W.mg_none_of X G zsuper, znoop, ztop⟩⟩, k_Syncu_initu⟩
  have F_Passu_initu : Vc.FunQ PySem.Challenge.pw_codestitch_k23_prices_and_single_steps K mg "__init__" "Pass.__init__" s_Passu_initu f_Passu_initu (PySem.W.ksFn "__init__" "Pass.__init__" (defArgs s_Passu_initu) (defBody s_Passu_initu) (defScope s_Passu_initu) .none kV15 dc15 pm15 an15 (.ref cda15) ct15 cc15) C_Pass f_Stepu_initu "self" := ⟨⟨_, _, _, _, _, _, _, _, _, _, rfl, l_Passu_initu, c_Passu_initu, ⟨⟨_, _, _, l_Passu_initu⟩, ⟨_, rfl, rfl⟩, ⟨_, _, _, _, _, _, cl_Passu_initu, cf_Passu_initu, fe_Passu_initu⟩, ⟨_, _, _, ce_Passu_initu⟩, mrC_Pass, suC_Pass, i_Stepu_initu, fi_Stepu_initu, PySem.W.mg_none_of X G zsuper, znoop, ztop⟩⟩, k_Passu_initu⟩
  have F__law_pen := fun_mk (st := s__law_pen) l__law_pen c__law_pen k__law_pen
  have F__law_draw := fun_mk (st := s__law_draw) l__law_draw c__law_draw k__law_draw
  have F__law_number := fun_mk (st := s__law_number) l__law_number c__law_number k__law_number
  have F__law_prices_right := fun_mk (st := s__law_prices_right) l__law_prices_right c__law_prices_right k__law_prices_right
  have F__law_write := fun_mk (st := s__law_write) l__law_write c__law_write k__law_write
  have F__law_drawn := fun_mk (st := s__law_drawn) l__law_drawn c__law_drawn k__law_drawn
  have F__law_near := fun_mk (st := s__law_near) l__law_near c__law_near k__law_near
  have F__law_step := fun_mk (st := s__law_step) l__law_step c__law_step k__law_step
  have F__law_steps_right := fun_mk (st := s__law_steps_right) l__law_steps_right c__law_steps_right k__law_steps_right
  have F__law_refused := fun_mk (st := s__law_refused) l__law_refused c__law_refused k__law_refused
  have F__law_refusals_right := fun_mk (st := s__law_refusals_right) l__law_refusals_right c__law_refusals_right k__law_refusals_right
  have F_law := fun_mk (st := s_law) l_law c_law k_law
  have F_BadByteu_initu : Vc.FunS PySem.Challenge.pw_codestitch_k23_prices_and_single_steps K mg "__init__" "BadByte.__init__" s_BadByteu_initu f_BadByteu_initu (PySem.W.ksFn "__init__" "BadByte.__init__" (defArgs s_BadByteu_initu) (defBody s_BadByteu_initu) (defScope s_BadByteu_initu) .none kV28 dc28 pm28 an28 (.ref cda28) ct28 cc28) C_BadByte "self" := ⟨⟨_, _, _, _, _, _, _, _, _, _, rfl, l_BadByteu_initu, c_BadByteu_initu, ⟨⟨_, _, _, l_BadByteu_initu⟩, ⟨_, rfl, rfl⟩, ⟨_, _, _, _, _, _, cl_BadByteu_initu, cf_BadByteu_initu, fe_BadByteu_initu⟩, ⟨_, _, _, ce_BadByteu_initu⟩, mrC_BadByte, suC_BadByte, svC_BadByte, PySem.W.mg_none_of X G zsuper, znoop, ztop⟩⟩, k_BadByteu_initu⟩
  have F_BadAddressu_initu : Vc.FunS PySem.Challenge.pw_codestitch_k23_prices_and_single_steps K mg "__init__" "BadAddress.__init__" s_BadAddressu_initu f_BadAddressu_initu (PySem.W.ksFn "__init__" "BadAddress.__init__" (defArgs s_BadAddressu_initu) (defBody s_BadAddressu_initu) (defScope s_BadAddressu_initu) .none kV29 dc29 pm29 an29 (.ref cda29) ct29 cc29) C_BadAddress "self" := ⟨⟨_, _, _, _, _, _, _, _, _, _, rfl, l_BadAddressu_initu, c_BadAddressu_initu, ⟨⟨_, _, _, l_BadAddressu_initu⟩, ⟨_, rfl, rfl⟩, ⟨_, _, _, _, _, _, cl_BadAddressu_initu, cf_BadAddressu_initu, fe_BadAddressu_initu⟩, ⟨_, _, _, ce_BadAddressu_initu⟩, mrC_BadAddress, suC_BadAddress, svC_BadAddress, PySem.W.mg_none_of X G zsuper, znoop, ztop⟩⟩, k_BadAddressu_initu⟩
  have T : Txt K mg { C_Price := C_Price, C_Step := C_Step, C_Write := C_Write, C_Sync := C_Sync, C_Pass := C_Pass, f_is_byte := f_is_byte, d_is_byte := PySem.W.fnOf "is_byte" "is_byte" (defArgs s_is_byte) (defBody s_is_byte) (defScope s_is_byte) .none kV1 dc1 pm1 an1 cd1 ct1, f_Priceu_initu := f_Priceu_initu, d_Priceu_initu := PySem.W.fnOf "__init__" "Price.__init__" (defArgs s_Priceu_initu) (defBody s_Priceu_initu) (defScope s_Priceu_initu) .none kV2 dc2 pm2 an2 cd2 ct2, f_Price_words := f_Price_words, d_Price_words := PySem.W.fnOf "words" "Price.words" (defArgs s_Price_words) (defBody s_Price_words) (defScope s_Price_words) .none kV3 dc3 pm3 an3 cd3 ct3, pr_Price_words := pr3, f_Price_writes := f_Price_writes, d_Price_writes := PySem.W.fnOf "writes" "Price.writes" (defArgs s_Price_writes) (defBody s_Price_writes) (defScope s_Price_writes) .none kV4 dc4 pm4 an4 cd4 ct4, pr_Price_writes := pr4, f_Price_under := f_Price_under, d_Price_under := PySem.W.fnOf "under" "Price.under" (defArgs s_Price_under) (defBody s_Price_under) (defScope s_Price_under) .none kV5 dc5 pm5 an5 cd5 ct5, f_Priceu_addu := f_Priceu_addu, d_Priceu_addu := PySem.W.fnOf "__add__" "Price.__add__" (defArgs s_Priceu_addu) (defBody s_Priceu_addu) (defScope s_Priceu_addu) .none kV6 dc6 pm6 an6 cd6 ct6, f_Priceu_equ := f_Priceu_equ, d_Priceu_equ := PySem.W.fnOf "__eq__" "Price.__eq__" (defArgs s_Priceu_equ) (defBody s_Priceu_equ) (defScope s_Priceu_equ) .none kV7 dc7 pm7 an7 cd7 ct7, f_Priceu_stru := f_Priceu_stru, d_Priceu_stru := PySem.W.fnOf "__str__" "Price.__str__" (defArgs s_Priceu_stru) (defBody s_Priceu_stru) (defScope s_Priceu_stru) .none kV8 dc8 pm8 an8 cd8 ct8, f_Stepu_initu := f_Stepu_initu, d_Stepu_initu := PySem.W.fnOf "__init__" "Step.__init__" (defArgs s_Stepu_initu) (defBody s_Stepu_initu) (defScope s_Stepu_initu) .none kV9 dc9 pm9 an9 cd9 ct9, f_Step_price := f_Step_price, d_Step_price := PySem.W.fnOf "price" "Step.price" (defArgs s_Step_price) (defBody s_Step_price) (defScope s_Step_price) .none kV10 dc10 pm10 an10 cd10 ct10, pr_Step_price := pr10, f_Stepu_equ := f_Stepu_equ, d_Stepu_equ := PySem.W.fnOf "__eq__" "Step.__eq__" (defArgs s_Stepu_equ) (defBody s_Stepu_equ) (defScope s_Stepu_equ) .none kV11 dc11 pm11 an11 cd11 ct11, f_Stepu_stru := f_Stepu_stru, d_Stepu_stru := PySem.W.fnOf "__str__" "Step.__str__" (defArgs s_Stepu_stru) (defBody s_Stepu_stru) (defScope s_Stepu_stru) .none kV12 dc12 pm12 an12 cd12 ct12, f_Writeu_initu := f_Writeu_initu, d_Writeu_initu := PySem.W.ksFn "__init__" "Write.__init__" (defArgs s_Writeu_initu) (defBody s_Writeu_initu) (defScope s_Writeu_initu) .none kV13 dc13 pm13 an13 (.ref cda13) ct13 cc13, f_Syncu_initu := f_Syncu_initu, d_Syncu_initu := PySem.W.ksFn "__init__" "Sync.__init__" (defArgs s_Syncu_initu) (defBody s_Syncu_initu) (defScope s_Syncu_initu) .none kV14 dc14 pm14 an14 (.ref cda14) ct14 cc14, f_Passu_initu := f_Passu_initu, d_Passu_initu := PySem.W.ksFn "__init__" "Pass.__init__" (defArgs s_Passu_initu) (defBody s_Passu_initu) (defScope s_Passu_initu) .none kV15 dc15 pm15 an15 (.ref cda15) ct15 cc15, f__law_pen := f__law_pen, d__law_pen := PySem.W.fnOf "_law_pen" "_law_pen" (defArgs s__law_pen) (defBody s__law_pen) (defScope s__law_pen) .none kV16 dc16 pm16 an16 cd16 ct16, f__law_draw := f__law_draw, d__law_draw := PySem.W.fnOf "_law_draw" "_law_draw" (defArgs s__law_draw) (defBody s__law_draw) (defScope s__law_draw) .none kV17 dc17 pm17 an17 cd17 ct17, f__law_number := f__law_number, d__law_number := PySem.W.fnOf "_law_number" "_law_number" (defArgs s__law_number) (defBody s__law_number) (defScope s__law_number) .none kV18 dc18 pm18 an18 cd18 ct18, f__law_prices_right := f__law_prices_right, d__law_prices_right := PySem.W.fnOf "_law_prices_right" "_law_prices_right" (defArgs s__law_prices_right) (defBody s__law_prices_right) (defScope s__law_prices_right) .none kV19 dc19 pm19 an19 cd19 ct19, f__law_write := f__law_write, d__law_write := PySem.W.fnOf "_law_write" "_law_write" (defArgs s__law_write) (defBody s__law_write) (defScope s__law_write) .none kV20 dc20 pm20 an20 cd20 ct20, f__law_drawn := f__law_drawn, d__law_drawn := PySem.W.fnOf "_law_drawn" "_law_drawn" (defArgs s__law_drawn) (defBody s__law_drawn) (defScope s__law_drawn) .none kV21 dc21 pm21 an21 cd21 ct21, f__law_near := f__law_near, d__law_near := PySem.W.fnOf "_law_near" "_law_near" (defArgs s__law_near) (defBody s__law_near) (defScope s__law_near) .none kV22 dc22 pm22 an22 cd22 ct22, f__law_step := f__law_step, d__law_step := PySem.W.fnOf "_law_step" "_law_step" (defArgs s__law_step) (defBody s__law_step) (defScope s__law_step) .none kV23 dc23 pm23 an23 cd23 ct23, f__law_steps_right := f__law_steps_right, d__law_steps_right := PySem.W.fnOf "_law_steps_right" "_law_steps_right" (defArgs s__law_steps_right) (defBody s__law_steps_right) (defScope s__law_steps_right) .none kV24 dc24 pm24 an24 cd24 ct24, f__law_refused := f__law_refused, d__law_refused := PySem.W.fnOf "_law_refused" "_law_refused" (defArgs s__law_refused) (defBody s__law_refused) (defScope s__law_refused) .none kV25 dc25 pm25 an25 cd25 ct25, f__law_refusals_right := f__law_refusals_right, d__law_refusals_right := PySem.W.fnOf "_law_refusals_right" "_law_refusals_right" (defArgs s__law_refusals_right) (defBody s__law_refusals_right) (defScope s__law_refusals_right) .none kV26 dc26 pm26 an26 cd26 ct26, f_law := fa, d_law := PySem.W.fnOf "law" "law" (defArgs s_law) (defBody s_law) (defScope s_law) .none kV27 dc27 pm27 an27 cd27 ct27, C_CodeError := C_CodeError, C_BadInput := C_BadInput, C_NotRight := C_NotRight, C_NoWay := C_NoWay, C_BadStep := C_BadStep, C_Word := C_Word, C_BadByte := C_BadByte, f_BadByteu_initu := f_BadByteu_initu, d_BadByteu_initu := PySem.W.ksFn "__init__" "BadByte.__init__" (defArgs s_BadByteu_initu) (defBody s_BadByteu_initu) (defScope s_BadByteu_initu) .none kV28 dc28 pm28 an28 (.ref cda28) ct28 cc28, C_BadAddress := C_BadAddress, f_BadAddressu_initu := f_BadAddressu_initu, d_BadAddressu_initu := PySem.W.ksFn "__init__" "BadAddress.__init__" (defArgs s_BadAddressu_initu) (defBody s_BadAddressu_initu) (defScope s_BadAddressu_initu) .none kV29 dc29 pm29 an29 (.ref cda29) ct29 cc29 } := {
    g_Price := (PySem.W.mg_of X G aC_Price),
    g_Step := (PySem.W.mg_of X G aC_Step),
    g_Write := (PySem.W.mg_of X G aC_Write),
    g_Sync := (PySem.W.mg_of X G aC_Sync),
    g_Pass := (PySem.W.mg_of X G aC_Pass),
    g_is_byte := (PySem.W.mg_of X G a_is_byte),
    F_is_byte := (F_is_byte),
    b_is_byte := (F_is_byte.binds (ps := ["value"]) fun _ _ _ _ _ _ us hl => match us, hl with | [_], _ => rfl),
    F_Priceu_initu := (F_Priceu_initu),
    b_Priceu_initu := (F_Priceu_initu.binds (ps := ["self", "words", "writes"]) fun _ _ _ _ _ _ us hl => match us, hl with | [_, _, _], _ => rfl),
    p_Price_words := (⟨pa_Price_words, pg_Price_words, pt_Price_words, ⟨_, prc_Price_words⟩⟩),
    F_Price_words := (F_Price_words),
    b_Price_words := (F_Price_words.binds (ps := ["self"]) fun _ _ _ _ _ _ us hl => match us, hl with | [_], _ => rfl),
    p_Price_writes := (⟨pa_Price_writes, pg_Price_writes, pt_Price_writes, ⟨_, prc_Price_writes⟩⟩),
    F_Price_writes := (F_Price_writes),
    b_Price_writes := (F_Price_writes.binds (ps := ["self"]) fun _ _ _ _ _ _ us hl => match us, hl with | [_], _ => rfl),
    F_Price_under := (F_Price_under),
    b_Price_under := (F_Price_under.binds (ps := ["self", "other"]) fun _ _ _ _ _ _ us hl => match us, hl with | [_, _], _ => rfl),
    F_Priceu_addu := (F_Priceu_addu),
    b_Priceu_addu := (F_Priceu_addu.binds (ps := ["self", "other"]) fun _ _ _ _ _ _ us hl => match us, hl with | [_, _], _ => rfl),
    F_Priceu_equ := (F_Priceu_equ),
    b_Priceu_equ := (F_Priceu_equ.binds (ps := ["self", "other"]) fun _ _ _ _ _ _ us hl => match us, hl with | [_, _], _ => rfl),
    F_Priceu_stru := (F_Priceu_stru),
    b_Priceu_stru := (F_Priceu_stru.binds (ps := ["self"]) fun _ _ _ _ _ _ us hl => match us, hl with | [_], _ => rfl),
    F_Stepu_initu := (F_Stepu_initu),
    b_Stepu_initu := (Vc.Fun.bindsV F_Stepu_initu fun _ _ _ _ _ _ us rest hl => match us, rest, hl with | [_], [], _ => rfl | [_], _ :: _, _ => rfl),
    p_Step_price := (⟨pa_Step_price, pg_Step_price, pt_Step_price, ⟨_, prc_Step_price⟩⟩),
    F_Step_price := (F_Step_price),
    b_Step_price := (F_Step_price.binds (ps := ["self"]) fun _ _ _ _ _ _ us hl => match us, hl with | [_], _ => rfl),
    F_Stepu_equ := (F_Stepu_equ),
    b_Stepu_equ := (F_Stepu_equ.binds (ps := ["self", "other"]) fun _ _ _ _ _ _ us hl => match us, hl with | [_, _], _ => rfl),
    F_Stepu_stru := (F_Stepu_stru),
    b_Stepu_stru := (F_Stepu_stru.binds (ps := ["self"]) fun _ _ _ _ _ _ us hl => match us, hl with | [_], _ => rfl),
    F_Writeu_initu := (F_Writeu_initu),
    b_Writeu_initu := (Vc.FunQ.bindsV F_Writeu_initu fun _ _ _ _ _ _ _ us rest hl => match us, rest, hl with | [_, _], [], _ => rfl | [_, _], _ :: _, _ => rfl),
    F_Syncu_initu := (F_Syncu_initu),
    b_Syncu_initu := (F_Syncu_initu.binds (ps := ["self"]) fun _ _ _ _ _ _ _ us hl => match us, hl with | [_], _ => rfl),
    F_Passu_initu := (F_Passu_initu),
    b_Passu_initu := (F_Passu_initu.binds (ps := ["self", "stretch"]) fun _ _ _ _ _ _ _ us hl => match us, hl with | [_, _], _ => rfl),
    g__law_pen := (PySem.W.mg_of X G a__law_pen),
    F__law_pen := (F__law_pen),
    b__law_pen := (F__law_pen.binds (ps := ["_law_script"]) fun _ _ _ _ _ _ us hl => match us, hl with | [_], _ => rfl),
    g__law_draw := (PySem.W.mg_of X G a__law_draw),
    F__law_draw := (F__law_draw),
    b__law_draw := (F__law_draw.binds (ps := ["_law_pen_here", "_law_bound"]) fun _ _ _ _ _ _ us hl => match us, hl with | [_, _], _ => rfl),
    g__law_number := (PySem.W.mg_of X G a__law_number),
    F__law_number := (F__law_number),
    b__law_number := (F__law_number.binds (ps := ["_law_pen_here"]) fun _ _ _ _ _ _ us hl => match us, hl with | [_], _ => rfl),
    g__law_prices_right := (PySem.W.mg_of X G a__law_prices_right),
    F__law_prices_right := (F__law_prices_right),
    b__law_prices_right := (F__law_prices_right.binds (ps := ["_law_pen_here"]) fun _ _ _ _ _ _ us hl => match us, hl with | [_], _ => rfl),
    g__law_write := (PySem.W.mg_of X G a__law_write),
    F__law_write := (F__law_write),
    b__law_write := (F__law_write.binds (ps := ["_law_at", "_law_given"]) fun _ _ _ _ _ _ us hl => match us, hl with | [_, _], _ => rfl),
    g__law_drawn := (PySem.W.mg_of X G a__law_drawn),
    F__law_drawn := (F__law_drawn),
    b__law_drawn := (F__law_drawn.binds (ps := ["_law_pen_here"]) fun _ _ _ _ _ _ us hl => match us, hl with | [_], _ => rfl),
    g__law_near := (PySem.W.mg_of X G a__law_near),
    F__law_near := (F__law_near),
    b__law_near := (F__law_near.binds (ps := ["_law_pen_here", "_law_one"]) fun _ _ _ _ _ _ us hl => match us, hl with | [_, _], _ => rfl),
    g__law_step := (PySem.W.mg_of X G a__law_step),
    F__law_step := (F__law_step),
    b__law_step := (F__law_step.binds (ps := ["_law_one"]) fun _ _ _ _ _ _ us hl => match us, hl with | [_], _ => rfl),
    g__law_steps_right := (PySem.W.mg_of X G a__law_steps_right),
    F__law_steps_right := (F__law_steps_right),
    b__law_steps_right := (F__law_steps_right.binds (ps := ["_law_pen_here"]) fun _ _ _ _ _ _ us hl => match us, hl with | [_], _ => rfl),
    g__law_refused := (PySem.W.mg_of X G a__law_refused),
    F__law_refused := (F__law_refused),
    b__law_refused := (F__law_refused.binds (ps := ["_law_at", "_law_given"]) fun _ _ _ _ _ _ us hl => match us, hl with | [_, _], _ => rfl),
    g__law_refusals_right := (PySem.W.mg_of X G a__law_refusals_right),
    F__law_refusals_right := (F__law_refusals_right),
    b__law_refusals_right := (F__law_refusals_right.binds (ps := ["_law_pen_here"]) fun _ _ _ _ _ _ us hl => match us, hl with | [_], _ => rfl),
    g_law := (PySem.W.mg_of X G a_law),
    F_law := (F_law),
    b_law := (F_law.binds (ps := ["_law_script"]) fun _ _ _ _ _ _ us hl => match us, hl with | [_], _ => rfl),
    cl_Price := (⟨pg_Price, hd_Price, po_Price, sa_Price⟩),
    mk_Price := (⟨mk_Price, a_Priceu_initu, i_Priceu_initu, kc_Price⟩),
    m_Price_under := (⟨a_Price_under, i_Price_under, k_Price_under⟩),
    no_Price_counted := (no_Price_counted),
    cl_Step := (⟨pg_Step, hd_Step, po_Step, sa_Step⟩),
    cl_Write := (⟨pg_Write, hd_Write, po_Write, sa_Write⟩),
    mk_Write := (⟨mk_Write, a_Writeu_initu, i_Writeu_initu, kc_Write⟩),
    no_Write_shown := (no_Write_shown),
    no_Write_address := (no_Write_address),
    no_Write_given := (no_Write_given),
    cl_Sync := (⟨pg_Sync, hd_Sync, po_Sync, sa_Sync⟩),
    mk_Sync := (⟨mk_Sync, a_Syncu_initu, i_Syncu_initu, kc_Sync⟩),
    no_Sync_shown := (no_Sync_shown),
    cl_Pass := (⟨pg_Pass, hd_Pass, po_Pass, sa_Pass⟩),
    mk_Pass := (⟨mk_Pass, a_Passu_initu, i_Passu_initu, kc_Pass⟩),
    no_Pass_shown := (no_Pass_shown),
    no_Pass_stretch := (no_Pass_stretch),
    n_len := (PySem.W.mg_none_of X G z_len),
    n_abs := (PySem.W.mg_none_of X G z_abs),
    n_int := (PySem.W.mg_none_of X G z_int),
    n_list := (PySem.W.mg_none_of X G z_list),
    n_range := (PySem.W.mg_none_of X G z_range),
    n_isinstance := (PySem.W.mg_none_of X G z_isinstance),
    n_bool := (PySem.W.mg_none_of X G z_bool),
    n_str := (PySem.W.mg_none_of X G z_str),
    n_tuple := (PySem.W.mg_none_of X G z_tuple),
    n_ValueError := (PySem.W.mg_none_of X G z_ValueError),
    n_repr := (PySem.W.mg_none_of X G z_repr),
    n_enumerate := (PySem.W.mg_none_of X G z_enumerate),
    g_MOST_ADDRESS := (⟨_, PySem.W.mg_of X G v_MOST_ADDRESS⟩),
    g_CodeError := (PySem.W.mg_of X G aC_CodeError),
    g_BadInput := (PySem.W.mg_of X G aC_BadInput),
    g_NotRight := (PySem.W.mg_of X G aC_NotRight),
    g_NoWay := (PySem.W.mg_of X G aC_NoWay),
    g_BadStep := (PySem.W.mg_of X G aC_BadStep),
    g_Word := (PySem.W.mg_of X G aC_Word),
    g_BadByte := (PySem.W.mg_of X G aC_BadByte),
    ox_BadByte := (⟨⟨_, _, _, _, _, _, _, _, _, _, _, _, _, _, _, lkC_BadByte, bmC_BadByte⟩, saC_BadByte, exC_BadByte, tyC_BadByte, kpC_BadByte⟩),
    i_BadByte := (inC_BadByte),
    ti_BadByte := (tiC_BadByte),
    no_BadByte_at := (noC_BadByte_at),
    xf_BadByte := (⟨gaC_BadByte, ggC_BadByte, exC_BadByte, hdC_BadByte⟩),
    ec_BadByte := (⟨gaC_BadByte, ggC_BadByte, exC_BadByte, hdC_BadByte, gcC_BadByte, zgcn, zgct, moC_BadByte⟩),
    F_BadByteu_initu := (F_BadByteu_initu),
    b_BadByteu_initu := (F_BadByteu_initu.binds (ps := ["self", "at"]) fun _ _ _ _ _ _ _ us hl => match us, hl with | [_, _], _ => rfl),
    g_BadAddress := (PySem.W.mg_of X G aC_BadAddress),
    ox_BadAddress := (⟨⟨_, _, _, _, _, _, _, _, _, _, _, _, _, _, _, lkC_BadAddress, bmC_BadAddress⟩, saC_BadAddress, exC_BadAddress, tyC_BadAddress, kpC_BadAddress⟩),
    i_BadAddress := (inC_BadAddress),
    ti_BadAddress := (tiC_BadAddress),
    no_BadAddress_at := (noC_BadAddress_at),
    xf_BadAddress := (⟨gaC_BadAddress, ggC_BadAddress, exC_BadAddress, hdC_BadAddress⟩),
    ec_BadAddress := (⟨gaC_BadAddress, ggC_BadAddress, exC_BadAddress, hdC_BadAddress, gcC_BadAddress, zgcn, zgct, moC_BadAddress⟩),
    F_BadAddressu_initu := (F_BadAddressu_initu),
    b_BadAddressu_initu := (F_BadAddressu_initu.binds (ps := ["self", "at"]) fun _ _ _ _ _ _ _ us hl => match us, hl with | [_, _], _ => rfl),
    kit_BadByte_BadInput := (kit_BadByte_BadInput),
    kit_BadByte_NotRight := (kit_BadByte_NotRight),
    kit_BadByte_NoWay := (kit_BadByte_NoWay),
    kit_BadByte_ValueError := (kit_BadByte_ValueError),
    kit_BadByte_BadStep := (kit_BadByte_BadStep),
    kit_BadByte_BadAddress := (kit_BadByte_BadAddress),
    kit_BadByte_BadByte := (kit_BadByte_BadByte),
    kit_BadAddress_BadInput := (kit_BadAddress_BadInput),
    kit_BadAddress_NotRight := (kit_BadAddress_NotRight),
    kit_BadAddress_NoWay := (kit_BadAddress_NoWay),
    kit_BadAddress_ValueError := (kit_BadAddress_ValueError),
    kit_BadAddress_BadStep := (kit_BadAddress_BadStep),
    kit_BadAddress_BadAddress := (kit_BadAddress_BadAddress),
    kit_BadAddress_BadByte := (kit_BadAddress_BadByte),
    kit_Write_Step := (kit_Write_Step),
    kit_Write_Word := (kit_Write_Word),
    kit_Write_Sync := (kit_Write_Sync),
    kit_Write_Pass := (kit_Write_Pass),
    kit_Sync_Step := (kit_Sync_Step),
    kit_Sync_Word := (kit_Sync_Word),
    kit_Sync_Write := (kit_Sync_Write),
    kit_Sync_Pass := (kit_Sync_Pass),
    kit_Pass_Step := (kit_Pass_Step),
    kit_Pass_Word := (kit_Pass_Word),
    kit_Pass_Write := (kit_Pass_Write),
    kit_Pass_Sync := (kit_Pass_Sync),
    exm_BadByte_CodeError := (exm_BadByte_CodeError),
    exm_BadAddress_CodeError := (exm_BadAddress_CodeError),
    ic_Price := (⟨⟨pg_Price, hd_Price, po_Price, sa_Price⟩, icc_Price, zgcn, zgct, icm_Price, kit_Price_Price⟩),
    ic_Write := (⟨⟨pg_Write, hd_Write, po_Write, sa_Write⟩, icc_Write, zgcn, zgct, icm_Write, kit_Write_Write⟩),
    ic_Sync := (⟨⟨pg_Sync, hd_Sync, po_Sync, sa_Sync⟩, icc_Sync, zgcn, zgct, icm_Sync, kit_Sync_Sync⟩),
    ic_Pass := (⟨⟨pg_Pass, hd_Pass, po_Pass, sa_Pass⟩, icc_Pass, zgcn, zgct, icm_Pass, kit_Pass_Pass⟩),
    eq_Price := (⟨a_Priceu_equ, i_Priceu_equ⟩),
    ne_Price := (⟨⟨a_Priceu_equ, i_Priceu_equ⟩, nee_Price, icm_Price⟩),
    kt_tuple_Price := (kit_tuple_Price),
    kt_tuple_Step := (kit_tuple_Step),
    kt_str_Step := (kit_str_Step),
    kt_int_Step := (kit_int_Step),
    nf_Price_Price := (nf_Price_Price),
    nf_tuple_Price := (nf_tuple_Price),
    nf_Write_Write := (nf_Write_Write),
    nf_Sync_Write := (nf_Sync_Write),
    nf_Pass_Write := (nf_Pass_Write),
    nf_tuple_Write := (nf_tuple_Write),
    nf_str_Write := (nf_str_Write),
    nf_int_Write := (nf_int_Write),
    nf_Write_Sync := (nf_Write_Sync),
    nf_Sync_Sync := (nf_Sync_Sync),
    nf_Pass_Sync := (nf_Pass_Sync),
    nf_tuple_Sync := (nf_tuple_Sync),
    nf_str_Sync := (nf_str_Sync),
    nf_int_Sync := (nf_int_Sync),
    nf_Write_Pass := (nf_Write_Pass),
    nf_Sync_Pass := (nf_Sync_Pass),
    nf_Pass_Pass := (nf_Pass_Pass),
    nf_tuple_Pass := (nf_tuple_Pass),
    nf_str_Pass := (nf_str_Pass),
    nf_int_Pass := (nf_int_Pass),
    sp_Price_Priceu_addu := (⟨a_Priceu_addu, i_Priceu_addu⟩),
    sp_Price_Priceu_stru := (⟨a_Priceu_stru, i_Priceu_stru⟩),
    sf_Price := (sfP),
    sp_Write_price := (⟨spr_Write, pg_Step_price, pt_Step_price, ⟨_, prc_Step_price⟩⟩),
    se_Write := (⟨seq_Write, i_Stepu_equ⟩),
    sn_Write := (⟨⟨seq_Write, i_Stepu_equ⟩, sne_Write, icm_Write⟩),
    ss_Write := (⟨sst_Write, i_Stepu_stru⟩),
    sw_Write := (⟨_, swo_Write, ⟨_, rfl⟩, swg_Write, by decide +kernel⟩),
    sr_Write := (⟨_, swr_Write, ⟨_, rfl⟩, srg_Write, by decide +kernel⟩),
    sp_Sync_price := (⟨spr_Sync, pg_Step_price, pt_Step_price, ⟨_, prc_Step_price⟩⟩),
    se_Sync := (⟨seq_Sync, i_Stepu_equ⟩),
    sn_Sync := (⟨⟨seq_Sync, i_Stepu_equ⟩, sne_Sync, icm_Sync⟩),
    ss_Sync := (⟨sst_Sync, i_Stepu_stru⟩),
    sw_Sync := (⟨_, swo_Sync, ⟨_, rfl⟩, swg_Sync, by decide +kernel⟩),
    sr_Sync := (⟨_, swr_Sync, ⟨_, rfl⟩, srg_Sync, by decide +kernel⟩),
    sp_Pass_price := (⟨spr_Pass, pg_Step_price, pt_Step_price, ⟨_, prc_Step_price⟩⟩),
    se_Pass := (⟨seq_Pass, i_Stepu_equ⟩),
    sn_Pass := (⟨⟨seq_Pass, i_Stepu_equ⟩, sne_Pass, icm_Pass⟩),
    ss_Pass := (⟨sst_Pass, i_Stepu_stru⟩),
    sw_Pass := (⟨_, swo_Pass, ⟨_, rfl⟩, swg_Pass, by decide +kernel⟩),
    sr_Pass := (⟨_, swr_Pass, ⟨_, rfl⟩, srg_Pass, by decide +kernel⟩) }
  exact ⟨PySem.W.fnOf "law" "law" (defArgs s_law) (defBody s_law) (defScope s_law) .none kV27 dc27 pm27 an27 cd27 ct27, fun s v => .of_eq rfl, fun base _ _ => ok_law T⟩
end My
open PySem PySem.W PyProof.Rows
set_option maxRecDepth 100000 in
set_option maxHeartbeats 0 in
theorem PySem.Challenge.cw_codestitch_k23_prices_and_single_steps_holds : PySem.Challenge.rw_codestitch_k23_prices_and_single_steps.Holds := by
  w_on; o_law; k_headL; (case hw => w_witness2)
  k_fill
  refine Vc.walk_ofG (l := PySem.Challenge.rw_codestitch_k23_prices_and_single_steps) (n := 63) (k := 10) (x := "_law_script") (sp := fun w => My.spLaw _) rfl (by decide) rfl ⟨rfl, by decide, by decide⟩ (fun w h Y => PySem.W.kIn_of Y) ?F (fun _ _ a ns hl hS => ⟨a, ns, rfl, hS, hl, fun _ => rfl⟩)
  case F =>
    intro w mg fa h KX G hmg
    refine' My.all_mk KX G hmg ?aC_Price ?aC_Step ?aC_Write ?aC_Sync ?aC_Pass ?a_is_byte ?l_is_byte ?c_is_byte ?k_is_byte ?a_Priceu_initu ?i_Priceu_initu ?l_Priceu_initu ?c_Priceu_initu ?k_Priceu_initu ?pa_Price_words ?pg_Price_words ?pt_Price_words ?prc_Price_words ?l_Price_words ?c_Price_words ?k_Price_words ?pa_Price_writes ?pg_Price_writes ?pt_Price_writes ?prc_Price_writes ?l_Price_writes ?c_Price_writes ?k_Price_writes ?a_Price_under ?i_Price_under ?l_Price_under ?c_Price_under ?k_Price_under ?a_Priceu_addu ?i_Priceu_addu ?l_Priceu_addu ?c_Priceu_addu ?k_Priceu_addu ?a_Priceu_equ ?i_Priceu_equ ?l_Priceu_equ ?c_Priceu_equ ?k_Priceu_equ ?a_Priceu_stru ?i_Priceu_stru ?l_Priceu_stru ?c_Priceu_stru ?k_Priceu_stru ?a_Stepu_initu ?i_Stepu_initu ?l_Stepu_initu ?c_Stepu_initu ?k_Stepu_initu ?pa_Step_price ?pg_Step_price ?pt_Step_price ?prc_Step_price ?l_Step_price ?c_Step_price ?k_Step_price ?a_Stepu_equ ?i_Stepu_equ ?l_Stepu_equ ?c_Stepu_equ ?k_Stepu_equ ?a_Stepu_stru ?i_Stepu_stru ?l_Stepu_stru ?c_Stepu_stru ?k_Stepu_stru ?a_Writeu_initu ?i_Writeu_initu ?l_Writeu_initu ?c_Writeu_initu ?k_Writeu_initu ?cl_Writeu_initu ?cf_Writeu_initu ?fe_Writeu_initu ?ce_Writeu_initu ?mrC_Write ?suC_Write ?fi_Stepu_initu ?zsuper ?znoop ?ztop ?a_Syncu_initu ?i_Syncu_initu ?l_Syncu_initu ?c_Syncu_initu ?k_Syncu_initu ?cl_Syncu_initu ?cf_Syncu_initu ?fe_Syncu_initu ?ce_Syncu_initu ?mrC_Sync ?suC_Sync ?a_Passu_initu ?i_Passu_initu ?l_Passu_initu ?c_Passu_initu ?k_Passu_initu ?cl_Passu_initu ?cf_Passu_initu ?fe_Passu_initu ?ce_Passu_initu ?mrC_Pass ?suC_Pass ?a__law_pen ?l__law_pen ?c__law_pen ?k__law_pen ?a__law_draw ?l__law_draw ?c__law_draw ?k__law_draw ?a__law_number ?l__law_number ?c__law_number ?k__law_number ?a__law_prices_right ?l__law_prices_right ?c__law_prices_right ?k__law_prices_right ?a__law_write ?l__law_write ?c__law_write ?k__law_write ?a__law_drawn ?l__law_drawn ?c__law_drawn ?k__law_drawn ?a__law_near ?l__law_near ?c__law_near ?k__law_near ?a__law_step ?l__law_step ?c__law_step ?k__law_step ?a__law_steps_right ?l__law_steps_right ?c__law_steps_right ?k__law_steps_right ?a__law_refused ?l__law_refused ?c__law_refused ?k__law_refused ?a__law_refusals_right ?l__law_refusals_right ?c__law_refusals_right ?k__law_refusals_right ?a_law ?l_law ?c_law ?k_law ?pg_Price ?hd_Price ?po_Price ?sa_Price ?mk_Price ?kc_Price ?no_Price_counted ?pg_Step ?hd_Step ?po_Step ?sa_Step ?pg_Write ?hd_Write ?po_Write ?sa_Write ?mk_Write ?kc_Write ?no_Write_shown ?no_Write_address ?no_Write_given ?pg_Sync ?hd_Sync ?po_Sync ?sa_Sync ?mk_Sync ?kc_Sync ?no_Sync_shown ?pg_Pass ?hd_Pass ?po_Pass ?sa_Pass ?mk_Pass ?kc_Pass ?no_Pass_shown ?no_Pass_stretch ?z_len ?z_abs ?z_int ?z_list ?z_range ?z_isinstance ?z_bool ?z_str ?z_tuple ?z_ValueError ?z_repr ?z_enumerate ?v_MOST_ADDRESS ?aC_CodeError ?aC_BadInput ?aC_NotRight ?aC_NoWay ?aC_BadStep ?aC_Word ?zgcn ?zgct ?aC_BadByte ?lkC_BadByte ?bmC_BadByte ?saC_BadByte ?exC_BadByte ?tyC_BadByte ?kpC_BadByte ?inC_BadByte ?tiC_BadByte ?noC_BadByte_at ?gaC_BadByte ?ggC_BadByte ?hdC_BadByte ?gcC_BadByte ?moC_BadByte ?l_BadByteu_initu ?c_BadByteu_initu ?k_BadByteu_initu ?cl_BadByteu_initu ?cf_BadByteu_initu ?fe_BadByteu_initu ?ce_BadByteu_initu ?mrC_BadByte ?suC_BadByte ?svC_BadByte ?aC_BadAddress ?lkC_BadAddress ?bmC_BadAddress ?saC_BadAddress ?exC_BadAddress ?tyC_BadAddress ?kpC_BadAddress ?inC_BadAddress ?tiC_BadAddress ?noC_BadAddress_at ?gaC_BadAddress ?ggC_BadAddress ?hdC_BadAddress ?gcC_BadAddress ?moC_BadAddress ?l_BadAddressu_initu ?c_BadAddressu_initu ?k_BadAddressu_initu ?cl_BadAddressu_initu ?cf_BadAddressu_initu ?fe_BadAddressu_initu ?ce_BadAddressu_initu ?mrC_BadAddress ?suC_BadAddress ?svC_BadAddress ?kit_BadByte_BadInput ?kit_BadByte_NotRight ?kit_BadByte_NoWay ?kit_BadByte_ValueError ?kit_BadByte_BadStep ?kit_BadByte_BadAddress ?kit_BadByte_BadByte ?kit_BadAddress_BadInput ?kit_BadAddress_NotRight ?kit_BadAddress_NoWay ?kit_BadAddress_ValueError ?kit_BadAddress_BadStep ?kit_BadAddress_BadAddress ?kit_BadAddress_BadByte ?kit_Write_Step ?kit_Write_Word ?kit_Write_Sync ?kit_Write_Pass ?kit_Sync_Step ?kit_Sync_Word ?kit_Sync_Write ?kit_Sync_Pass ?kit_Pass_Step ?kit_Pass_Word ?kit_Pass_Write ?kit_Pass_Sync ?exm_BadByte_CodeError ?exm_BadAddress_CodeError ?icc_Price ?icm_Price ?kit_Price_Price ?icc_Write ?icm_Write ?kit_Write_Write ?icc_Sync ?icm_Sync ?kit_Sync_Sync ?icc_Pass ?icm_Pass ?kit_Pass_Pass ?nee_Price ?kit_tuple_Price ?kit_tuple_Step ?kit_str_Step ?kit_int_Step ?nf_Price_Price ?nf_tuple_Price ?nf_Write_Write ?nf_Sync_Write ?nf_Pass_Write ?nf_tuple_Write ?nf_str_Write ?nf_int_Write ?nf_Write_Sync ?nf_Sync_Sync ?nf_Pass_Sync ?nf_tuple_Sync ?nf_str_Sync ?nf_int_Sync ?nf_Write_Pass ?nf_Sync_Pass ?nf_Pass_Pass ?nf_tuple_Pass ?nf_str_Pass ?nf_int_Pass ?sfP ?spr_Write ?seq_Write ?sne_Write ?sst_Write ?swo_Write ?swr_Write ?swg_Write ?srg_Write ?spr_Sync ?seq_Sync ?sne_Sync ?sst_Sync ?swo_Sync ?swr_Sync ?swg_Sync ?srg_Sync ?spr_Pass ?seq_Pass ?sne_Pass ?sst_Pass ?swo_Pass ?swr_Pass ?swg_Pass ?srg_Pass
    (case aC_Price => k_is); (case aC_Step => k_is); (case aC_Write => k_is); (case aC_Sync => k_is); (case aC_Pass => k_is); (case a_is_byte => k_is)
    (case l_is_byte => k_is); (case c_is_byte => k_is); (case k_is_byte => k_is); (case a_Priceu_initu => k_is); (case i_Priceu_initu => k_is); (case l_Priceu_initu => k_is)
    (case c_Priceu_initu => k_is); (case k_Priceu_initu => k_is); (case pa_Price_words => k_is); (case pg_Price_words => k_is); (case pt_Price_words => k_is); (case prc_Price_words => k_is)
    (case l_Price_words => k_is); (case c_Price_words => k_is); (case k_Price_words => k_is); (case pa_Price_writes => k_is); (case pg_Price_writes => k_is); (case pt_Price_writes => k_is)
    (case prc_Price_writes => k_is); (case l_Price_writes => k_is); (case c_Price_writes => k_is); (case k_Price_writes => k_is); (case a_Price_under => k_is); (case i_Price_under => k_is)
    (case l_Price_under => k_is); (case c_Price_under => k_is); (case k_Price_under => k_is); (case a_Priceu_addu => k_is); (case i_Priceu_addu => k_is); (case l_Priceu_addu => k_is)
    (case c_Priceu_addu => k_is); (case k_Priceu_addu => k_is); (case a_Priceu_equ => k_is); (case i_Priceu_equ => k_is); (case l_Priceu_equ => k_is); (case c_Priceu_equ => k_is)
    (case k_Priceu_equ => k_is); (case a_Priceu_stru => k_is); (case i_Priceu_stru => k_is); (case l_Priceu_stru => k_is); (case c_Priceu_stru => k_is); (case k_Priceu_stru => k_is)
    (case a_Stepu_initu => k_is); (case i_Stepu_initu => k_is); (case l_Stepu_initu => k_is); (case c_Stepu_initu => k_is); (case k_Stepu_initu => k_is); (case pa_Step_price => k_is)
    (case pg_Step_price => k_is); (case pt_Step_price => k_is); (case prc_Step_price => k_is); (case l_Step_price => k_is); (case c_Step_price => k_is); (case k_Step_price => k_is)
    (case a_Stepu_equ => k_is); (case i_Stepu_equ => k_is); (case l_Stepu_equ => k_is); (case c_Stepu_equ => k_is); (case k_Stepu_equ => k_is); (case a_Stepu_stru => k_is)
    (case i_Stepu_stru => k_is); (case l_Stepu_stru => k_is); (case c_Stepu_stru => k_is); (case k_Stepu_stru => k_is); (case a_Writeu_initu => k_is); (case i_Writeu_initu => k_is)
    (case l_Writeu_initu => k_is); (case c_Writeu_initu => k_is); (case k_Writeu_initu => k_is); (case cl_Writeu_initu => k_is); (case cf_Writeu_initu => rfl); (case fe_Writeu_initu => decide +kernel)
    (case ce_Writeu_initu => k_is); (case mrC_Write => k_is); (case suC_Write => ks_is); (case fi_Stepu_initu => k_is); (case zsuper => k_is); (case znoop => k_is)
    (case ztop => decide +kernel); (case a_Syncu_initu => k_is); (case i_Syncu_initu => k_is); (case l_Syncu_initu => k_is); (case c_Syncu_initu => k_is); (case k_Syncu_initu => k_is)
    (case cl_Syncu_initu => k_is); (case cf_Syncu_initu => rfl); (case fe_Syncu_initu => decide +kernel); (case ce_Syncu_initu => k_is); (case mrC_Sync => k_is); (case suC_Sync => ks_is)
    (case a_Passu_initu => k_is); (case i_Passu_initu => k_is); (case l_Passu_initu => k_is); (case c_Passu_initu => k_is); (case k_Passu_initu => k_is); (case cl_Passu_initu => k_is)
    (case cf_Passu_initu => rfl); (case fe_Passu_initu => decide +kernel); (case ce_Passu_initu => k_is); (case mrC_Pass => k_is); (case suC_Pass => ks_is); (case a__law_pen => k_is)
    (case l__law_pen => k_is); (case c__law_pen => k_is); (case k__law_pen => k_is); (case a__law_draw => k_is); (case l__law_draw => k_is); (case c__law_draw => k_is)
    (case k__law_draw => k_is); (case a__law_number => k_is); (case l__law_number => k_is); (case c__law_number => k_is); (case k__law_number => k_is); (case a__law_prices_right => k_is)
    (case l__law_prices_right => k_is); (case c__law_prices_right => k_is); (case k__law_prices_right => k_is); (case a__law_write => k_is); (case l__law_write => k_is); (case c__law_write => k_is)
    (case k__law_write => k_is); (case a__law_drawn => k_is); (case l__law_drawn => k_is); (case c__law_drawn => k_is); (case k__law_drawn => k_is); (case a__law_near => k_is)
    (case l__law_near => k_is); (case c__law_near => k_is); (case k__law_near => k_is); (case a__law_step => k_is); (case l__law_step => k_is); (case c__law_step => k_is)
    (case k__law_step => k_is); (case a__law_steps_right => k_is); (case l__law_steps_right => k_is); (case c__law_steps_right => k_is); (case k__law_steps_right => k_is); (case a__law_refused => k_is)
    (case l__law_refused => k_is); (case c__law_refused => k_is); (case k__law_refused => k_is); (case a__law_refusals_right => k_is); (case l__law_refusals_right => k_is); (case c__law_refusals_right => k_is)
    (case k__law_refusals_right => k_is); (case a_law => k_is); (case l_law => k_is); (case c_law => k_is); (case k_law => k_is); (case pg_Price => k_is)
    (case hd_Price => k_is); (case po_Price => k_is); (case sa_Price => k_is); (case mk_Price => k_is); (case kc_Price => k_is); (case no_Price_counted => k_is)
    (case pg_Step => k_is); (case hd_Step => k_is); (case po_Step => k_is); (case sa_Step => k_is); (case pg_Write => k_is); (case hd_Write => k_is)
    (case po_Write => k_is); (case sa_Write => k_is); (case mk_Write => k_is); (case kc_Write => k_is); (case no_Write_shown => k_is); (case no_Write_address => k_is)
    (case no_Write_given => k_is); (case pg_Sync => k_is); (case hd_Sync => k_is); (case po_Sync => k_is); (case sa_Sync => k_is); (case mk_Sync => k_is)
    (case kc_Sync => k_is); (case no_Sync_shown => k_is); (case pg_Pass => k_is); (case hd_Pass => k_is); (case po_Pass => k_is); (case sa_Pass => k_is)
    (case mk_Pass => k_is); (case kc_Pass => k_is); (case no_Pass_shown => k_is); (case no_Pass_stretch => k_is); (case z_len => k_is); (case z_abs => k_is)
    (case z_int => k_is); (case z_list => k_is); (case z_range => k_is); (case z_isinstance => k_is); (case z_bool => k_is); (case z_str => k_is)
    (case z_tuple => k_is); (case z_ValueError => k_is); (case z_repr => k_is); (case z_enumerate => k_is); (case v_MOST_ADDRESS => k_is); (case aC_CodeError => k_is)
    (case aC_BadInput => k_is); (case aC_NotRight => k_is); (case aC_NoWay => k_is); (case aC_BadStep => k_is); (case aC_Word => k_is); (case zgcn => k_is)
    (case zgct => k_is); (case aC_BadByte => k_is); (case lkC_BadByte => k_is); (case bmC_BadByte => decide +kernel); (case saC_BadByte => k_is); (case exC_BadByte => k_is)
    (case tyC_BadByte => k_is); (case kpC_BadByte => k_is); (case inC_BadByte => k_is); (case tiC_BadByte => k_is); (case noC_BadByte_at => k_is); (case gaC_BadByte => k_is)
    (case ggC_BadByte => k_is); (case hdC_BadByte => k_is); (case gcC_BadByte => k_is); (case moC_BadByte => k_is); (case l_BadByteu_initu => k_is); (case c_BadByteu_initu => k_is)
    (case k_BadByteu_initu => k_is); (case cl_BadByteu_initu => k_is); (case cf_BadByteu_initu => rfl); (case fe_BadByteu_initu => decide +kernel); (case ce_BadByteu_initu => k_is); (case mrC_BadByte => k_is)
    (case suC_BadByte => ks_is); (case svC_BadByte => k_is); (case aC_BadAddress => k_is); (case lkC_BadAddress => k_is); (case bmC_BadAddress => decide +kernel); (case saC_BadAddress => k_is)
    (case exC_BadAddress => k_is); (case tyC_BadAddress => k_is); (case kpC_BadAddress => k_is); (case inC_BadAddress => k_is); (case tiC_BadAddress => k_is); (case noC_BadAddress_at => k_is)
    (case gaC_BadAddress => k_is); (case ggC_BadAddress => k_is); (case hdC_BadAddress => k_is); (case gcC_BadAddress => k_is); (case moC_BadAddress => k_is); (case l_BadAddressu_initu => k_is)
    (case c_BadAddressu_initu => k_is); (case k_BadAddressu_initu => k_is); (case cl_BadAddressu_initu => k_is); (case cf_BadAddressu_initu => rfl); (case fe_BadAddressu_initu => decide +kernel); (case ce_BadAddressu_initu => k_is)
    (case mrC_BadAddress => k_is); (case suC_BadAddress => ks_is); (case svC_BadAddress => k_is); (case kit_BadByte_BadInput => kit_is); (case kit_BadByte_NotRight => kit_is); (case kit_BadByte_NoWay => kit_is)
    (case kit_BadByte_ValueError => kit_is); (case kit_BadByte_BadStep => kit_is); (case kit_BadByte_BadAddress => kit_is); (case kit_BadByte_BadByte => kit_is); (case kit_BadAddress_BadInput => kit_is); (case kit_BadAddress_NotRight => kit_is)
    (case kit_BadAddress_NoWay => kit_is); (case kit_BadAddress_ValueError => kit_is); (case kit_BadAddress_BadStep => kit_is); (case kit_BadAddress_BadAddress => kit_is); (case kit_BadAddress_BadByte => kit_is); (case kit_Write_Step => kit_is)
    (case kit_Write_Word => kit_is); (case kit_Write_Sync => kit_is); (case kit_Write_Pass => kit_is); (case kit_Sync_Step => kit_is); (case kit_Sync_Word => kit_is); (case kit_Sync_Write => kit_is)
    (case kit_Sync_Pass => kit_is); (case kit_Pass_Step => kit_is); (case kit_Pass_Word => kit_is); (case kit_Pass_Write => kit_is); (case kit_Pass_Sync => kit_is); (case exm_BadByte_CodeError => kts_exm)
    (case exm_BadAddress_CodeError => kts_exm); (case icc_Price => k_is); (case icm_Price => k_is); (case kit_Price_Price => kit_is); (case icc_Write => k_is); (case icm_Write => k_is)
    (case kit_Write_Write => kit_is); (case icc_Sync => k_is); (case icm_Sync => k_is); (case kit_Sync_Sync => kit_is); (case icc_Pass => k_is); (case icm_Pass => k_is)
    (case kit_Pass_Pass => kit_is); (case nee_Price => k_is); (case kit_tuple_Price => kit_is); (case kit_tuple_Step => kit_is); (case kit_str_Step => kit_is); (case kit_int_Step => kit_is)
    (case nf_Price_Price => k_is); (case nf_tuple_Price => k_is); (case nf_Write_Write => k_is); (case nf_Sync_Write => k_is); (case nf_Pass_Write => k_is); (case nf_tuple_Write => k_is)
    (case nf_str_Write => k_is); (case nf_int_Write => k_is); (case nf_Write_Sync => k_is); (case nf_Sync_Sync => k_is); (case nf_Pass_Sync => k_is); (case nf_tuple_Sync => k_is)
    (case nf_str_Sync => k_is); (case nf_int_Sync => k_is); (case nf_Write_Pass => k_is); (case nf_Sync_Pass => k_is); (case nf_Pass_Pass => k_is); (case nf_tuple_Pass => k_is)
    (case nf_str_Pass => k_is); (case nf_int_Pass => k_is); (case sfP => k_is); (case spr_Write => k_is); (case seq_Write => k_is); (case sne_Write => k_is)
    (case sst_Write => k_is); (case swo_Write => k_is); (case swr_Write => k_is); (case swg_Write => k_is); (case srg_Write => k_is); (case spr_Sync => k_is)
    (case seq_Sync => k_is); (case sne_Sync => k_is); (case sst_Sync => k_is); (case swo_Sync => k_is); (case swr_Sync => k_is); (case swg_Sync => k_is)
    (case srg_Sync => k_is); (case spr_Pass => k_is); (case seq_Pass => k_is); (case sne_Pass => k_is); (case sst_Pass => k_is); (case swo_Pass => k_is)
    (case swr_Pass => k_is); (case swg_Pass => k_is); (case srg_Pass => k_is)
