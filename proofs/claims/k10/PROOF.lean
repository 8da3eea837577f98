import PyProof.Rows.All
import Wide.All
import OpenK.AllK
import Wide.FinOn
import HandS.ForMost
import HandS.Wide
import HandS.IsInst
import HandS.Evl
import HandS.Walk
import HandS.Strs
import HandS.Conv
import HandS.ClsMeth
import HandS.DictComp
import KE.KSuper
import KE.KExcSuper
import KE.KExcIs
import KE.RegKSuper
import KE.RegKIsAll
import KE.RegKTryMore
import HandS.ForExc
import HandS.ExcInit
import HandS.ExcIs
import HandS.ExcField
import HandS.Star
import HandS.Property
import HandS.HotCalls
import HandS.Codes
import HandS.Defaults
import HandS.MakeKw
import HandS.More
import HandS.FStr
import HandS.Finally
import HandS.Style
import PyProof.P3Eq
import HandS.Star
import HandS.WordsExc
import HandS.RaiseMore
import HandS.TryOnly
import HandS.Property
import PyProof.InstNe
import HandS.ExcInitHot
import KE.GoesMore
import PyProof.EnumMake
import KE.KStar
import PyProof.ReprRoads
import PyProof.ReprBulk
import HandS.IterNext
import HandS.IterVal
import HandS.Lambda
import HandS.TupAny
import KE.OsRunLaw
import HandS.Ends
import HandS.Iter
import HandS.OwnIter
import PyProof.FitsInt
import PyProof.Rows.ReprOcc
import PyProof.Rows.StrJoinMade
import PyProof.StrLawsRepr
import HandS.EndTab
import HandS.EndBits
import HandS.ExcOwn
import HandS.CallSlots
import KE.KDictList
import PyProof.LongRange
import HandS.Head0
import HandS.Head1
import HandS.Head2
import HandS.HeadEnd
import HandS.HeadHook1
import HandS.HeadHook2
import HandS.ExcInit
import HandS.Defaults
import KE.KSuper
import PySem.Challenge.RW_codestitch_k10_patches_made
import HandS.EndOwn
import KE.KNestM
import KE.KOpsOwn
import HandS.Dict
import PyProof.DictUpdate
import HandS.Base
import HandS.Call
set_option Elab.async false
set_option linter.all false
set_option maxRecDepth 100000
set_option maxHeartbeats 4000000
open PySem PySem.Spec PyProof.Rows L2
/-! Vc: edges between abstract heaps, and readings answered step by step (my own layer over HandS). -/
namespace Vc
open PySem PySem.Spec PyProof.Rows L2

/-! ### edges: H' comes from H; at most the objects of S were changed -/
structure Ed (S : List Addr) (H H' : Hp) : Prop where
  keep : ∀ a o, a ∉ S → H a = some o → H' a = some o
  tup : ∀ a xs, H a = some (.tup xs) → H' a = some (.tup xs)
  frz : ∀ a o u, H a = some (.frz o u) → H' a = some (.frz o u)
  dom : ∀ a, H' a = none → H a = none
theorem Ed.refl {S : List Addr} {H : Hp} : Ed S H H := ⟨fun _ _ _ h => h, fun _ _ h => h, fun _ _ _ h => h, fun _ h => h⟩
theorem Ed.new {S : List Addr} {H : Hp} {p : Addr} {o : HO} (h : H p = none) : Ed S H (upd H p o) where
  keep := fun a u _ e => by rw [upd_ne (ne_of_none e h)]; exact e
  tup := fun a u e => by rw [upd_ne (ne_of_none e h)]; exact e
  frz := fun a _ u e => by rw [upd_ne (ne_of_none e h)]; exact e
  dom := fun a e => by
    by_cases q : a = p
    · rw [q]; exact h
    · rw [upd_ne q] at e; exact e
theorem Ed.mut {H : Hp} {p : Addr} {o u : HO} (h : H p = some u) (m : Mut (some u)) : Ed [p] H (upd H p o) where
  keep := fun a v ha e => by
    have : a ≠ p := fun q => ha (by rw [q]; exact List.mem_singleton.mpr rfl)
    rw [upd_ne this]; exact e
  tup := fun a xs e => by
    have : a ≠ p := fun q => by rw [q, h] at e; cases e; exact m
    rw [upd_ne this]; exact e
  frz := fun a _ xs e => by
    have : a ≠ p := fun q => by rw [q, h] at e; cases e; exact m
    rw [upd_ne this]; exact e
  dom := fun a e => by
    by_cases q : a = p
    · subst q; rw [upd_same] at e; cases e
    · rw [upd_ne q] at e; exact e
theorem Ed.trans {S T : List Addr} {H H1 H2 : Hp} (a : Ed S H H1) (b : Ed T H1 H2) (hs : ∀ x ∈ T, x ∈ S ∨ H x = none) : Ed S H H2 where
  keep := fun x o hx e => by
    have e1 := a.keep x o hx e
    refine b.keep x o (fun z => ?_) e1
    rcases hs x z with q | q
    · exact hx q
    · rw [e] at q; cases q
  tup := fun x o e => b.tup x o (a.tup x o e)
  frz := fun x o u e => b.frz x o u (a.frz x o u e)
  dom := fun x e => a.dom x (b.dom x e)
theorem Ed.mono {S T : List Addr} {H H1 : Hp} (a : Ed S H H1) (hs : ∀ x ∈ S, x ∈ T) : Ed T H H1 :=
  ⟨fun x o hx e => a.keep x o (fun z => hx (hs x z)) e, a.tup, a.frz, a.dom⟩
theorem Ed.ex {S : List Addr} {H H1 H2 : Hp} (a : Ed S H H1) (b : Ed [] H1 H2) : Ed S H H2 := a.trans b fun _ z => nomatch z
theorem Ed.one {S : List Addr} {H H1 H2 : Hp} {p : Addr} (a : Ed S H H1) (b : Ed [p] H1 H2) (h : p ∈ S ∨ H p = none) : Ed S H H2 :=
  a.trans b fun x z => by rw [List.mem_singleton.mp z]; exact h
theorem Ed.same {H H' : Hp} (e : Ed [] H H') : Same H H' := fun a o h => e.keep a o (fun z => nomatch z) h
theorem Ed.at0 {H H' : Hp} {a : Addr} {o : HO} (e : Ed [] H H') (h : H a = some o) : H' a = some o := e.keep a o (fun z => nomatch z) h
theorem Ed.at1 {H H' : Hp} {a p : Addr} {o : HO} (e : Ed [p] H H') (n : a ≠ p) (h : H a = some o) : H' a = some o := e.keep a o (fun z => n (List.mem_singleton.mp z)) h
theorem Ed.at2 {H H' : Hp} {a p q : Addr} {o : HO} (e : Ed [p, q] H H') (n : a ≠ p) (m : a ≠ q) (h : H a = some o) : H' a = some o := e.keep a o (fun z => by
  rcases List.mem_cons.mp z with z | z
  · exact n z
  · exact m (List.mem_singleton.mp z)) h
theorem Ed.rdt {S : List Addr} {H H' : Hp} {a : Addr} {xs : List V} (e : Ed S H H') (h : Rd H a (.tup xs)) : Rd H' a (.tup xs) := by
  rcases h with h | ⟨o, h⟩
  · exact .inl (e.tup _ _ h)
  · exact .inr ⟨o, e.frz _ _ _ h⟩
theorem Ed.sqt {K : PySem.W.Frag} {S : List Addr} {H H' : Hp} {a : Addr} {xs : List V} (e : Ed S H H') (h : SqT K H a xs) : SqT K H' a xs := by
  rcases h with h | h
  · exact .inl (e.rdt h)
  · exact .inr h
theorem Ed.sql {K : PySem.W.Frag} {S : List Addr} {H H' : Hp} {a : Addr} {xs : List V} (e : Ed S H H') (n : a ∉ S) (h : SqL K H a xs) : SqL K H' a xs := by
  rcases h with (h | ⟨o, h⟩) | h
  · exact .inl (.inl (e.keep _ _ n h))
  · exact .inl (.inr ⟨o, e.frz _ _ _ h⟩)
  · exact .inr h
theorem Ed.sql0 {K : PySem.W.Frag} {H H' : Hp} {a : Addr} {xs : List V} (e : Ed [] H H') (h : SqL K H a xs) : SqL K H' a xs := e.sql (fun z => nomatch z) h
theorem Ed.sql1 {K : PySem.W.Frag} {H H' : Hp} {a p : Addr} {xs : List V} (e : Ed [p] H H') (n : a ≠ p) (h : SqL K H a xs) : SqL K H' a xs := e.sql (fun z => n (List.mem_singleton.mp z)) h
/-- a list that is read; p holds no list -/
theorem Ed.sqlk {K : PySem.W.Frag} {H H' : Hp} {a p : Addr} {o : HO} {xs : List V} (e : Ed [p] H H') (hp : H p = some o) (n : ∀ ys, o ≠ .lst ys) (h : SqL K H a xs) : SqL K H' a xs := by
  rcases h with (h | ⟨ob, h⟩) | h
  · exact .inl (.inl (e.keep _ _ (fun z => by rw [List.mem_singleton.mp z, hp] at h; cases h; exact n xs rfl) h))
  · exact .inl (.inr ⟨ob, e.frz _ _ _ h⟩)
  · exact .inr h

/-! ### data stay -/
mutual
theorem Dp.ed {K : PySem.W.Frag} {S : List Addr} {H H' : Hp} (e : Ed S H H') (hS : ∀ a ∈ S, ∀ xs, H a ≠ some (.lst xs)) : ∀ (d : PyData) (v : V), Dp K H v d → Dp K H' v d
  | .none, _, h => by cases h; exact .non
  | .bool b, _, h => by cases h; exact .bl b
  | .int i, _, h => by cases h; exact .int i
  | .str x, _, h => by cases h; exact .str x
  | .list ds, _, h => by
    cases h with
    | lst ha hd =>
      refine .lst ?_ (Dp.edAll e hS ds _ hd)
      rcases ha with (ha | ⟨ob, ha⟩) | ha
      · exact .inl (.inl (e.keep _ _ (fun z => hS _ z _ ha) ha))
      · exact .inl (.inr ⟨ob, e.frz _ _ _ ha⟩)
      · exact .inr ha
  | .tuple ds, _, h => by
    cases h with
    | tup ha hd => exact .tup (e.sqt ha) (Dp.edAll e hS ds _ hd)
theorem Dp.edAll {K : PySem.W.Frag} {S : List Addr} {H H' : Hp} (e : Ed S H H') (hS : ∀ a ∈ S, ∀ xs, H a ≠ some (.lst xs)) : ∀ (ds : List PyData) (vs : List V), DpAll K H vs ds → DpAll K H' vs ds
  | [], _, h => by cases h; exact .nil
  | d :: ds, _, h => by
    cases h with
    | cons h1 h2 => exact .cons (Dp.ed e hS d _ h1) (Dp.edAll e hS ds _ h2)
end
theorem Dp.ed0 {K : PySem.W.Frag} {H H' : Hp} {d : PyData} {v : V} (e : Ed [] H H') (h : Dp K H v d) : Dp K H' v d := Dp.ed e (fun _ z => nomatch z) d v h

/-! ### readings, step by step: what is left is stated without its binders -/
section
variable {K : PySem.W.Frag} {σ : L2.St} {H : Hp} {D : Ends} {Q : VK} {QB : Bool → Hp → Prop} {QA : List V → Hp → Prop} {te ta tb : TE} {tt tu : TT} {t u : TS} {g : TG} {v x y : V} {i j : Int}
-- statements
theorem go_seq (h : t { D with nx := u D } σ H) : tSeq t u D σ H := h
theorem go_asg (h : te σ H fun x H1 => g x σ H1 D.nx) : tAsg te g D σ H := h
theorem go_drop (h : te σ H fun _ H1 => D.nx σ H1) : tDrop te D σ H := h
theorem go_ret (h : te σ H D.rt) : tRet te D σ H := h
theorem go_retN (h : D.rt .non H) : tRetN D σ H := h
theorem go_next (h : D.nx σ H) : tNext D σ H := h
theorem go_break (h : D.bk σ H) : tBreak D σ H := h
theorem go_cont (h : D.ct σ H) : tCont D σ H := h
theorem go_ifS (h : tt σ H fun b H1 => if b = true then t D σ H1 else u D σ H1) : tIfS tt t u D σ H := h
theorem go_name {n : Nat} {R : L2.St → Hp → Prop} (h : R (σ.set n (some v)) H) : gName n v σ H R := h
-- tests
theorem go_test (h : te σ H fun x H' => ∃ k, x = .bl k ∧ QB k H') : tTest te σ H QB := h
theorem go_B (h : te σ H fun x H' => ∃ k, x = .bl k ∧ QB k H') : tB te σ H QB := h
theorem go_bl {b : Bool} {R : Bool → Prop} (h : R b) : ∃ k, V.bl b = .bl k ∧ R k := ⟨b, rfl, h⟩
theorem go_notT (h : tt σ H fun c H1 => QB (!c) H1) : tNot tt σ H QB := h
theorem go_andT (h : tt σ H fun c H1 => if c = true then tu σ H1 QB else QB false H1) : tAnd tt tu σ H QB := h
theorem go_orT (h : tt σ H fun c H1 => if c = true then QB true H1 else tu σ H1 QB) : tOr tt tu σ H QB := h
theorem go_yes (h : QB true H) : tYes σ H QB := h
-- values
theorem go_var {n : Nat} (e : σ[n]? = some (some v)) (h : Q v H) : tVar n σ H Q := ⟨v, e, h⟩
theorem go_c (h : Q v H) : tC v σ H Q := h
theorem go_op {r : R2} (h : ta σ H fun x H1 => tb σ H1 fun y H2 => r x y H2 Q) : tOp r ta tb σ H Q := h
theorem go_un {r : V → Hp → VK → Prop} (h : ta σ H fun x H1 => r x H1 Q) : tUn r ta σ H Q := h
theorem go_andV (h : ta σ H fun x H1 => ∃ c, x = .bl c ∧ if c = true then tb σ H1 Q else Q (.bl false) H1) : tAndV ta tb σ H Q := h
theorem go_orV (h : ta σ H fun x H1 => ∃ c, x = .bl c ∧ if c = true then Q (.bl true) H1 else tb σ H1 Q) : tOrV ta tb σ H Q := h
theorem go_notV (h : ta σ H fun x H1 => ∃ c, x = .bl c ∧ Q (.bl (!c)) H1) : tNotV ta σ H Q := h
theorem go_blP {b : Bool} {P : Bool → Prop} (h : P b) : ∃ c, V.bl b = .bl c ∧ P c := ⟨b, rfl, h⟩
theorem go_if (h : tt σ H fun c H1 => if c = true then ta σ H1 Q else tb σ H1 Q) : tIf tt ta tb σ H Q := h
theorem go_I0 {f : Int → Int → V} (h : Q (f i j) H) : rI0 f (.int i) (.int j) H Q := ⟨i, j, rfl, rfl, h⟩
theorem go_I {C : Int → Int → Prop} {f : Int → Int → V} (hc : C i j) (h : Q (f i j) H) : rI C f (.int i) (.int j) H Q := ⟨i, j, rfl, rfl, hc, h⟩
theorem go_U {f : Int → V} (h : Q (f i) H) : rU f (.int i) H Q := ⟨i, rfl, h⟩
theorem go_eqI (h : Q (.bl (decide (i = j))) H) : rEq (.int i) (.int j) H Q := ⟨rfl, by
  have : decide (V.int i = V.int j) = decide (i = j) := by rw [Bool.eq_iff_iff]; simp
  rw [this]; exact h⟩
theorem go_neI (h : Q (.bl (!decide (i = j))) H) : rNe (.int i) (.int j) H Q := ⟨rfl, by
  have : decide (V.int i = V.int j) = decide (i = j) := by rw [Bool.eq_iff_iff]; simp
  rw [this]; exact h⟩
theorem go_eqS {a b : Str} (h : Q (.bl (decide (a = b))) H) : rEq (.str a) (.str b) H Q := ⟨rfl, by
  have : decide (V.str a = V.str b) = decide (a = b) := by rw [Bool.eq_iff_iff]; simp
  rw [this]; exact h⟩
theorem go_neS {a b : Str} (h : Q (.bl (!decide (a = b))) H) : rNe (.str a) (.str b) H Q := ⟨rfl, by
  have : decide (V.str a = V.str b) = decide (a = b) := by rw [Bool.eq_iff_iff]; simp
  rw [this]; exact h⟩
theorem go_eqB {a b : Bool} (h : Q (.bl (decide (a = b))) H) : rEq (.bl a) (.bl b) H Q := ⟨rfl, by
  have : decide (V.bl a = V.bl b) = decide (a = b) := by rw [Bool.eq_iff_iff]; simp
  rw [this]; exact h⟩
theorem go_neB {a b : Bool} (h : Q (.bl (!decide (a = b))) H) : rNe (.bl a) (.bl b) H Q := ⟨rfl, by
  have : decide (V.bl a = V.bl b) = decide (a = b) := by rw [Bool.eq_iff_iff]; simp
  rw [this]; exact h⟩
theorem go_eqg (hs : scal x y = true) (h : Q (.bl (decide (x = y))) H) : rEq x y H Q := ⟨hs, h⟩
theorem go_neg (hs : scal x y = true) (h : Q (.bl (!decide (x = y))) H) : rNe x y H Q := ⟨hs, h⟩
theorem go_cb {r : List V → Hp → VK → Prop} {ts : TA} (h : ts σ H fun vs H1 => r vs H1 Q) : tCB r ts σ H Q := h
theorem go_nil (h : QA [] H) : tNil σ H QA := h
theorem go_cons {tr : TA} (h : ta σ H fun x H1 => tr σ H1 fun xs H2 => QA (x :: xs) H2) : tCons ta tr σ H QA := h
theorem go_call {sp : Sp} {E : XK} {ts : TA} (h : ts σ H fun vs H1 => sp vs H1 Q E) : tCall sp [] E ts σ H Q := by
  unfold tCall
  simpa only [List.append_nil] using h
theorem go_tup {ts : TA} (h : ts σ H fun xs H1 => xs.length ≤ sizeLine ∧ ∀ p, H1 p = none → Q (.ref p) (upd H1 p (.tup xs))) : tTup ts σ H Q := h
theorem go_lst {ts : TA} (h : ts σ H fun xs H1 => xs.length ≤ sizeLine ∧ ∀ p, H1 p = none → Q (.ref p) (upd H1 p (.lst xs))) : tLst ts σ H Q := h
theorem go_len {xs : List V} {P : Prop} (hl : xs.length ≤ 1000) (h : P) : xs.length ≤ sizeLine ∧ P := ⟨Nat.le_of_lt (small1000 hl), h⟩
theorem go_dnew (h : ∀ p, H p = none → Q (.ref p) (upd H p (.dK []))) : tDNewK σ H Q := h
theorem go_dget (h : ta σ H fun x H1 => tb σ H1 fun y H2 => ∃ a v, x = .ref a ∧ DGet H2 a y (some v) ∧ Q v H2) : tDGet ta tb σ H Q := h
theorem go_dgetS {a : Addr} {k : Str} {kvs : List (Key × V)} {v : V} {R : V → Prop} (e : H a = some (.dK kvs)) (ev : valV kvs (.inr k) = some v) (h : R v) : ∃ a' v', V.ref a = .ref a' ∧ DGet H a' (.str k) (some v') ∧ R v' :=
  ⟨a, v, rfl, by rw [← ev]; exact DGet.k (k := .inr k) e, h⟩
theorem go_dgetI {a : Addr} {k : Int} {kvs : List (Key × V)} {v : V} {R : V → Prop} (e : H a = some (.dK kvs)) (ev : valV kvs (.inl k) = some v) (h : R v) : ∃ a' v', V.ref a = .ref a' ∧ DGet H a' (.int k) (some v') ∧ R v' :=
  ⟨a, v, rfl, by rw [← ev]; exact DGet.k (k := .inl k) e, h⟩
theorem go_din (h : ta σ H fun y H1 => tb σ H1 fun x H2 => ∃ a o, x = .ref a ∧ DGet H2 a y o ∧ Q (.bl o.isSome) H2) : tDIn ta tb σ H Q := h
theorem go_dnotin (h : ta σ H fun y H1 => tb σ H1 fun x H2 => ∃ a o, x = .ref a ∧ DGet H2 a y o ∧ Q (.bl (!o.isSome)) H2) : tDNotIn ta tb σ H Q := h
theorem go_dinI {a : Addr} {k : Int} {kvs : List (Key × V)} {P : Option V → Prop} (e : H a = some (.dK kvs)) (h : P (valV kvs (.inl k))) : ∃ a' o, V.ref a = .ref a' ∧ DGet H a' (.int k) o ∧ P o :=
  ⟨a, _, rfl, DGet.k (k := .inl k) e, h⟩
theorem go_dput {tv : TE} (h : tv σ H fun v H1 => ta σ H1 fun x H2 => tb σ H2 fun y H3 => ∃ a H4, x = .ref a ∧ DPut H3 a y v H4 ∧ D.nx σ H4) : sDPut ta tb tv D σ H := h
theorem go_dputS {a : Addr} {k : Str} {kvs : List (Key × V)} {v : V} {P : Hp → Prop} (e : H a = some (.dK kvs)) (hl : kvs.length ≤ 1000) (h : P (upd H a (.dK (putK kvs (.inr k) v)))) : ∃ a' H4, V.ref a = .ref a' ∧ DPut H a' (.str k) v H4 ∧ P H4 :=
  ⟨a, _, rfl, DPut.k (k := .inr k) e (small1000 hl), h⟩
theorem go_dputI {a : Addr} {k : Int} {kvs : List (Key × V)} {v : V} {P : Hp → Prop} (e : H a = some (.dK kvs)) (hl : kvs.length ≤ 1000) (h : P (upd H a (.dK (putK kvs (.inl k) v)))) : ∃ a' H4, V.ref a = .ref a' ∧ DPut H a' (.int k) v H4 ∧ P H4 :=
  ⟨a, _, rfl, DPut.k (k := .inl k) e (small1000 hl), h⟩
theorem go_ixL {p : Addr} {xs : List V} (hs : SqL K H p xs) (ha : atI xs i = some v) (h : Q v H) : rIxL K (.ref p) (.int i) H Q := ⟨p, xs, i, v, rfl, rfl, hs, ha, h⟩
theorem go_ixT {p : Addr} {xs : List V} (hs : SqT K H p xs) (ha : atI xs i = some v) (h : Q v H) : rIxT K (.ref p) (.int i) H Q := ⟨p, xs, i, v, rfl, rfl, hs, ha, h⟩
theorem go_ixS {z : Str} {c : Nat} (hz : z.length ≤ 1000) (ha : atI z.cps.toList i = some c) (h : Q (.str ⟨#[c]⟩) H) : rIxS (.str z) (.int i) H Q := ⟨z, i, c, rfl, rfl, Nat.le_of_lt (small1000 hz), ha, h⟩
theorem go_sl {r : V → Option Int → Option Int → Hp → VK → Prop} {tl th : TO} (h : te σ H fun x H1 => tl σ H1 fun l H2 => th σ H2 fun u H3 => r x l u H3 Q) : tSl r te tl th σ H Q := h
theorem go_nopart {QO : Option Int → Hp → Prop} (h : QO none H) : tNoPart σ H QO := h
theorem go_part {QO : Option Int → Hp → Prop} (h : te σ H fun x H1 => ∃ i, x = .int i ∧ QO (some i) H1) : tPart te σ H QO := h
theorem go_partI {P : Int → Prop} (h : P i) : ∃ j, V.int i = .int j ∧ P j := ⟨i, rfl, h⟩
theorem go_slL {p : Addr} {xs : List V} {lo hi : Option Int} (hs : SqL K H p xs) (h : ∀ q, H q = none → Q (.ref q) (upd H q (.lst (cutV xs lo hi)))) : rSlL K (.ref p) lo hi H Q := ⟨p, xs, rfl, hs, h⟩
theorem go_slS {z : Str} {lo hi : Option Int} (hz : z.length ≤ 1000) (h : Q (.str (cutS z lo hi)) H) : rSlS (.str z) lo hi H Q := ⟨z, rfl, Nat.le_of_lt (small1000 hz), h⟩
theorem go_abs {R : Int → Prop} (h : R i) : ∃ j, [V.int i] = [.int j] ∧ R j := ⟨i, rfl, h⟩
theorem go_int1 {R : Int → Prop} {R' : Bool → Prop} (h : R i) : (∃ j, [V.int i] = [.int j] ∧ R j) ∨ ∃ k, [V.int i] = [.bl k] ∧ R' k := .inl ⟨i, rfl, h⟩
theorem go_int1b {k : Bool} {R : Int → Prop} {R' : Bool → Prop} (h : R' k) : (∃ j, [V.bl k] = [.int j] ∧ R j) ∨ ∃ k', [V.bl k] = [.bl k'] ∧ R' k' := .inr ⟨k, rfl, h⟩
theorem go_bm {T : String} {r : V → List V → Hp → VK → Prop} {to : TE} {ts : TA} (h : to σ H fun x H1 => tyV K T x H1 ∧ ts σ H1 fun xs H2 => r x xs H2 Q) : tBM K T r to ts σ H Q := h
theorem go_bm0 {T : String} {r : V → List V → Hp → VK → Prop} {to : TE} (h : to σ H fun x H1 => tyV K T x H1 ∧ r x [] H1 Q) : tBM0 K T r to σ H Q := h
theorem go_tyL {p : Addr} {xs : List V} {P : Prop} (e : SqL K H p xs) (h : P) : tyV K "list" (.ref p) H ∧ P := ⟨.inl ⟨rfl, xs, e⟩, h⟩
theorem go_append {p : Addr} {xs : List V} (e : H p = some (.lst xs)) (hl : xs.length ≤ 1000) (h : Q .non (upd H p (.lst (xs ++ [v])))) : rAppend (.ref p) [v] H Q := ⟨p, xs, v, rfl, rfl, e, small1000 hl, h⟩
theorem go_lenL {p : Addr} {xs : List V} {R : List V → Prop} (e : SqL K H p xs) (h : R xs) : ∃ q ys, [V.ref p] = [.ref q] ∧ (SqL K H q ys ∨ SqT K H q ys) ∧ R ys := ⟨p, xs, rfl, .inl e, h⟩
theorem go_lenT {p : Addr} {xs : List V} {R : List V → Prop} (e : SqT K H p xs) (h : R xs) : ∃ q ys, [V.ref p] = [.ref q] ∧ (SqL K H q ys ∨ SqT K H q ys) ∧ R ys := ⟨p, xs, rfl, .inr e, h⟩
theorem go_for {wi : TI} (h : wi σ H fun J H1 => ∃ W : Nat → Nat → L2.St → Hp → Prop, (∃ m, W 0 m σ H1) ∧ ∀ i m σ H, W i m σ H →
  (J.stop i H ∧ D.nx σ H) ∨ (J.go i H ∧ ∃ N : L2.St → Hp → Prop, (∀ σ' H', N σ' H' → ∃ m', m' < m ∧ W (i + 1) m' σ' H') ∧ ∀ x H', J.yld i H x H' → g x σ H' fun σ2 H2 => t { D with nx := N, ct := N, bk := D.nx } σ2 H2)) : tFor wi g t D σ H := h
theorem go_iList {tl : TE} {R : It → Hp → Prop} (h : tl σ H fun x H1 => ∃ a, x = .ref a ∧ (∃ xs, SqL K H1 a xs) ∧ R (Itl K a) H1) : iList K tl σ H R := h
theorem go_iTup {tl : TE} {R : It → Hp → Prop} (h : tl σ H fun x H1 => ∃ a, x = .ref a ∧ (∃ xs, SqT K H1 a xs) ∧ R (Itt K a) H1) : iTup K tl σ H R := h
theorem go_iRng1 {ts : TA} {R : It → Hp → Prop} (h : ts σ H fun vs H1 => ∃ j : Int, vs = [.int j] ∧ -(2 ^ 62) ≤ j ∧ j < 2 ^ 62 ∧ R (Itr 0 j.toNat) H1) : iRng1 ts σ H R := h
theorem go_iRng2 {ts : TA} {R : It → Hp → Prop} (h : ts σ H fun vs H1 => ∃ i j : Int, vs = [.int i, .int j] ∧ (-(2 ^ 62) ≤ i ∧ i < 2 ^ 62 ∧ -(2 ^ 62) ≤ j ∧ j < 2 ^ 62) ∧ R (Itr i (j - i).toNat) H1) : iRng2 ts σ H R := h
theorem go_iStr {tl : TE} {R : It → Hp → Prop} (h : tl σ H fun v H1 => ∃ x, v = .str x ∧ R (Its x) H1) : iStr tl σ H R := h
theorem go_lc {wi : TI} {vs : List Nat} (h : wi σ H fun J H1 => ∀ D, H1 D = none → ∃ W : Nat → Nat → Hp → Prop, (∃ m, W 0 m (upd H1 D (.lst []))) ∧ ∀ i m H, W i m H →
  (J.stop i H ∧ Q (.ref D) H) ∨ (J.go i H ∧ ∃ Nx : Hp → Prop, (∀ H', Nx H' → ∃ m', m' < m ∧ W (i + 1) m' H') ∧ ∀ x H', J.yld i H x H' → g x (wipe σ vs) H' fun σ2 H2 => wipe σ2 vs = wipe σ vs ∧ tt σ2 H2 fun b H3 =>
    if b = true then te σ2 H3 fun y H4 => ∃ acc, H4 D = some (.lst acc) ∧ acc.length < sizeLine ∧ Nx (upd H4 D (.lst (acc ++ [y]))) else Nx H3)) : tLc wi g tt te vs σ H Q := h
/-- a comprehension over n turns that give items one by one: the new list's items so far are told by Pv -/
theorem lc_by {J : It} {n : Nat} {G : Hp → Prop} {Y : Nat → Hp → V → Hp → Prop} {vs : List Nat} {R : Addr → Hp → Prop} (w : Walk J n G Y) (Pv : Addr → Nat → Hp → Prop) (h0 : ∀ D H2, H D = none → Ed [] H H2 → H2 D = some (.lst []) → Pv D 0 H2) (hG : ∀ D i H', H D = none → i ≤ n → Pv D i H' → G H')
    (hs : ∀ D i x H1 H', H D = none → i < n → Pv D i H1 → Y i H1 x H' → g x (wipe σ vs) H' fun σ2 H2 => wipe σ2 vs = wipe σ vs ∧ tt σ2 H2 fun b H3 =>
      if b = true then te σ2 H3 fun y H4 => ∃ acc, H4 D = some (.lst acc) ∧ acc.length < sizeLine ∧ Pv D (i + 1) (upd H4 D (.lst (acc ++ [y]))) else Pv D (i + 1) H3) (hd : ∀ D H', H D = none → Pv D n H' → R D H') :
    ∀ D, H D = none → ∃ W : Nat → Nat → Hp → Prop, (∃ m, W 0 m (upd H D (.lst []))) ∧ ∀ i m H, W i m H →
      (J.stop i H ∧ R D H) ∨ (J.go i H ∧ ∃ Nx : Hp → Prop, (∀ H', Nx H' → ∃ m', m' < m ∧ W (i + 1) m' H') ∧ ∀ x H', J.yld i H x H' → g x (wipe σ vs) H' fun σ2 H2 => wipe σ2 vs = wipe σ vs ∧ tt σ2 H2 fun b H3 =>
        if b = true then te σ2 H3 fun y H4 => ∃ acc, H4 D = some (.lst acc) ∧ acc.length < sizeLine ∧ Nx (upd H4 D (.lst (acc ++ [y]))) else Nx H3) := fun D nD =>
  lc_it w (Pv D) (h0 D _ nD (Ed.new nD) upd_same) (fun i H' hi p => hG D i H' nD hi p) (fun i x H1 H' hi p y => hs D i x H1 H' nD hi p y) (fun H' p => hd D H' nD p)
/-- list(xs) -/
theorem go_listL {p : Addr} {xs : List V} {R : List V → Prop} (e : SqL K H p xs) (h : R xs) : ∃ q ys, [V.ref p] = [.ref q] ∧ (SqL K H q ys ∨ SqT K H q ys) ∧ R ys := ⟨p, xs, rfl, .inl e, h⟩
theorem go_disp {trs : List (TE × TE)} (h : ∀ p, H p = none → tPairs trs σ (upd H p (.dK [])) fun ps H2 => H2 p = some (.dK []) ∧ ∃ kvs : List (Key × V), ps = kvs.map (fun kv => (kV kv.1, kv.2)) ∧ kvs.length ≤ 15 ∧ Q (.ref p) (upd H2 p (.dK (mergeK [] kvs)))) : tDisp trs σ H Q := h
theorem go_pairs {tk tv : TE} {trs : List (TE × TE)} {R : List (V × V) → Hp → Prop} (h : tk σ H fun k H1 => tv σ H1 fun v H2 => tPairs trs σ H2 fun ps H3 => R ((k, v) :: ps) H3) : tPairs ((tk, tv) :: trs) σ H R := h
theorem go_pairs0 {R : List (V × V) → Hp → Prop} (h : R [] H) : tPairs [] σ H R := h
/-- a new object, by name -/
theorem alloc {p : Addr} {o : HO} {H2 : Hp} (hu : upd H p o = H2) (h : H p = none) : Ed [] H H2 ∧ H2 p = some o := by subst hu; exact ⟨Ed.new h, upd_same⟩
/-- an object changed, by name -/
theorem chg {p : Addr} {o u : HO} {H2 : Hp} (hu : upd H p o = H2) (h : H p = some u) (m : Mut (some u) := by trivial) : Ed [p] H H2 ∧ H2 p = some o := by subst hu; exact ⟨Ed.mut h m, upd_same⟩
-- ifs
theorem go_ite {c : Prop} [Decidable c] {A B : Prop} (h1 : c → A) (h2 : ¬ c → B) : if decide c = true then A else B := by
  by_cases h : c
  · rw [if_pos (decide_eq_true h)]; exact h1 h
  · rw [if_neg (fun z => h (of_decide_eq_true z))]; exact h2 h
theorem go_iten {c : Prop} [Decidable c] {A B : Prop} (h1 : ¬ c → A) (h2 : c → B) : if (!decide c) = true then A else B := by
  by_cases h : c
  · rw [decide_eq_true h]; exact iteF (h2 h)
  · rw [decide_eq_false h]; exact iteT (h1 h)
theorem go_iteb {b : Bool} {A B : Prop} (h1 : b = true → A) (h2 : b = false → B) : if b = true then A else B := by
  cases b with
  | true => exact iteT (h1 rfl)
  | false => exact iteF (h2 rfl)
theorem go_itebn {b : Bool} {A B : Prop} (h1 : b = false → A) (h2 : b = true → B) : if (!b) = true then A else B := by
  cases b with
  | true => exact iteF (h2 rfl)
  | false => exact iteT (h1 rfl)
end

/-! ### distinct places -/
theorem ne1 {H : Hp} {a b : Addr} {o : HO} (h' : H b = none) (h : H a = some o) : a ≠ b := ne_of_none h h'
theorem ne2 {H : Hp} {a b : Addr} {o : HO} (h' : H a = none) (h : H b = some o) : a ≠ b := (ne_of_none h h').symm
theorem nek {H : Hp} {a b : Addr} {o u : HO} (h : H a = some o) (h' : H b = some u) (d : o ≠ u) : a ≠ b := ne_of h h' d
theorem Ed.ex' {S : List Addr} {H H1 H2 : Hp} (b : Ed [] H1 H2) (a : Ed S H H1) : Ed S H H2 := a.ex b
theorem Ed.one' {S : List Addr} {H H1 H2 : Hp} {p : Addr} (b : Ed [p] H1 H2) (a : Ed S H H1) (h : p ∈ S ∨ H p = none) : Ed S H H2 := a.one b h
theorem Ed.two' {S : List Addr} {H H1 H2 : Hp} {p q : Addr} (b : Ed [p, q] H1 H2) (a : Ed S H H1) (h : p ∈ S ∨ H p = none) (h' : q ∈ S ∨ H q = none) : Ed S H H2 :=
  a.trans b fun x z => by
    rcases List.mem_cons.mp z with z | z
    · rw [z]; exact h
    · rw [List.mem_singleton.mp z]; exact h'
theorem Ed.back {S : List Addr} {H H' : Hp} {a : Addr} (e : Ed S H H') (h : H' a = none) : H a = none := e.dom a h
theorem sqt_of {K : PySem.W.Frag} {H : Hp} {a : Addr} {xs : List V} (h : H a = some (.tup xs)) : SqT K H a xs := .inl (.inl h)
theorem go_neL {α : Type} [DecidableEq α] {a : α} {A B : Prop} (h : B) : if (!decide (a = a)) = true then A else B := by rw [decide_eq_true rfl]; exact iteF h
theorem go_eqL {α : Type} [DecidableEq α] {a : α} {A B : Prop} (h : A) : if decide (a = a) = true then A else B := by rw [decide_eq_true rfl]; exact iteT h
theorem go_nT {A B : Prop} (h : B) : if (!true) = true then A else B := iteF h
theorem go_nF {A B : Prop} (h : A) : if (!false) = true then A else B := iteT h
theorem go_iteT' {c : Prop} [Decidable c] {A B : Prop} (hc : c) (h : A) : if decide c = true then A else B := by rw [decide_eq_true hc]; exact iteT h
theorem go_iteF' {c : Prop} [Decidable c] {A B : Prop} (hc : ¬ c) (h : B) : if decide c = true then A else B := by rw [decide_eq_false hc]; exact iteF h
theorem go_itenT' {c : Prop} [Decidable c] {A B : Prop} (hc : ¬ c) (h : A) : if (!decide c) = true then A else B := by rw [decide_eq_false hc]; exact iteT h
theorem go_itenF' {c : Prop} [Decidable c] {A B : Prop} (hc : c) (h : B) : if (!decide c) = true then A else B := by rw [decide_eq_true hc]; exact iteF h
theorem go_strE {z : Str} {R : Str → Prop} (h : R z) : ∃ x, V.str z = .str x ∧ R x := ⟨z, rfl, h⟩
theorem go_sign {c : Nat} {z : Str} {R : Nat → Str → Prop} (h : R c z) : ∃ c' z', V.str ⟨#[c]⟩ = .str ⟨#[c']⟩ ∧ V.str z = .str z' ∧ R c' z' := ⟨c, z, rfl, rfl, h⟩
theorem go_lenS {z : Str} {R : Str → Prop} (l : z.length ≤ 1000) (h : R z) : ∃ x, [V.str z] = [.str x] ∧ x.length ≤ sizeLine ∧ R x := ⟨z, rfl, Nat.le_of_lt (small1000 l), h⟩
/-! ### is None -/
theorem go_isN {R : Prop} (h : R) : V.non = V.non ∧ R := ⟨rfl, h⟩
theorem go_iteN {x : V} {A B : Prop} (hx : x ≠ .non) (h : B) : if decide (x = V.non) = true then A else B := by rw [decide_eq_false hx]; exact iteF h
theorem go_iteNT {A B : Prop} (h : A) : if decide (V.non = V.non) = true then A else B := iteT h
/-! ### isinstance -/
theorem kit_int_int : kitB "int" "int" = some true := by decide +kernel
theorem kit_int_bool : kitB "int" "bool" = some false := by decide +kernel
theorem kit_int_str : kitB "int" "str" = some false := by decide +kernel
theorem kit_int_tuple : kitB "int" "tuple" = some false := by decide +kernel
theorem kit_int_list : kitB "int" "list" = some false := by decide +kernel
theorem kit_int_dict : kitB "int" "dict" = some false := by decide +kernel
theorem kit_bool_int : kitB "bool" "int" = some true := by decide +kernel
theorem kit_bool_bool : kitB "bool" "bool" = some true := by decide +kernel
theorem kit_bool_str : kitB "bool" "str" = some false := by decide +kernel
theorem kit_bool_tuple : kitB "bool" "tuple" = some false := by decide +kernel
theorem kit_bool_list : kitB "bool" "list" = some false := by decide +kernel
theorem kit_bool_dict : kitB "bool" "dict" = some false := by decide +kernel
theorem kit_str_int : kitB "str" "int" = some false := by decide +kernel
theorem kit_str_bool : kitB "str" "bool" = some false := by decide +kernel
theorem kit_str_str : kitB "str" "str" = some true := by decide +kernel
theorem kit_str_tuple : kitB "str" "tuple" = some false := by decide +kernel
theorem kit_str_list : kitB "str" "list" = some false := by decide +kernel
theorem kit_str_dict : kitB "str" "dict" = some false := by decide +kernel
theorem kit_NoneType_int : kitB "NoneType" "int" = some false := by decide +kernel
theorem kit_NoneType_bool : kitB "NoneType" "bool" = some false := by decide +kernel
theorem kit_NoneType_str : kitB "NoneType" "str" = some false := by decide +kernel
theorem kit_NoneType_tuple : kitB "NoneType" "tuple" = some false := by decide +kernel
theorem kit_NoneType_list : kitB "NoneType" "list" = some false := by decide +kernel
theorem kit_NoneType_dict : kitB "NoneType" "dict" = some false := by decide +kernel
theorem kit_list_int : kitB "list" "int" = some false := by decide +kernel
theorem kit_list_bool : kitB "list" "bool" = some false := by decide +kernel
theorem kit_list_str : kitB "list" "str" = some false := by decide +kernel
theorem kit_list_tuple : kitB "list" "tuple" = some false := by decide +kernel
theorem kit_list_list : kitB "list" "list" = some true := by decide +kernel
theorem kit_list_dict : kitB "list" "dict" = some false := by decide +kernel
theorem kit_tuple_int : kitB "tuple" "int" = some false := by decide +kernel
theorem kit_tuple_bool : kitB "tuple" "bool" = some false := by decide +kernel
theorem kit_tuple_str : kitB "tuple" "str" = some false := by decide +kernel
theorem kit_tuple_tuple : kitB "tuple" "tuple" = some true := by decide +kernel
theorem kit_tuple_list : kitB "tuple" "list" = some false := by decide +kernel
theorem kit_tuple_dict : kitB "tuple" "dict" = some false := by decide +kernel
theorem kit_dict_int : kitB "dict" "int" = some false := by decide +kernel
theorem kit_dict_bool : kitB "dict" "bool" = some false := by decide +kernel
theorem kit_dict_str : kitB "dict" "str" = some false := by decide +kernel
theorem kit_dict_tuple : kitB "dict" "tuple" = some false := by decide +kernel
theorem kit_dict_list : kitB "dict" "list" = some false := by decide +kernel
theorem kit_dict_dict : kitB "dict" "dict" = some true := by decide +kernel
section
variable {K : PySem.W.Frag} {H : Hp} {Q : VK} {x : V}
theorem tyL {a : Addr} {xs : List V} (h : SqL K H a xs) : TyX K H (.ref a) (.type "list") := by
  rcases h with (h | ⟨o, h⟩) | ⟨o, _, _, h, c, _⟩
  · exact .base (.lst h)
  · exact .base (.frz h)
  · exact .kList h c
theorem tyT {a : Addr} {xs : List V} (h : SqT K H a xs) : TyX K H (.ref a) (.type "tuple") := by
  rcases h with (h | ⟨o, h⟩) | ⟨o, _, _, h, c, _⟩
  · exact .base (.tup h)
  · exact .fTuple h
  · exact .kTuple h c
theorem go_isi {n m : String} {b : Bool} (ht : TyX K H x (.type n)) (hk : kitB n m = some b) (h : Q (.bl b) H) : rIsi K [x, .ty m] H Q := ⟨x, .ty m, .type n, .type m, b, rfl, .ty m, ht, kit_ty hk, h⟩
theorem or_t {b : Bool} : (true || b) = true := rfl
theorem or_f {b : Bool} : (false || b) = b := rfl
theorem go_isiT2 {tp : Addr} {n m m' : String} {b b' c : Bool} (ht : TyX K H x (.type n)) (e : H tp = some (.tup [.ty m, .ty m'])) (hk : kitB n m = some b) (hk' : kitB n m' = some b') (hc : (b || b') = c) (h : Q (.bl c) H) : rIsiT K [x, .ref tp] H Q :=
  ⟨x, tp, _, .type n, [.type m, .type m'], b || b', rfl, e, .cons (.ty m) (.cons (.ty m') .nil), ht,
    kitAny_cons (kit_ty hk) (fun z => by subst z; exact kitAny_cons (kit_ty hk') (fun z => by subst z; exact kitAny_nil) fun z => by subst z; rfl) fun z => by subst z; rfl, by rw [hc]; exact h⟩
end
/-! ### slices -/
theorem cut_take (xs : List V) (k : Nat) : cutV xs none (some (k : Int)) = xs.take k := by
  unfold cutV
  rw [HT.sIx_nat, HT.sIx_none, List.drop_zero, Nat.sub_zero]
  rcases Nat.le_total k xs.length with h | h
  · rw [Nat.min_eq_left h]
  · rw [Nat.min_eq_right h, List.take_length, List.take_of_length_le h]
theorem cut_drop (xs : List V) (k : Nat) : cutV xs (some (k : Int)) none = xs.drop k := by
  unfold cutV
  rw [HT.sIx_nat, HT.sIx_none]
  rcases Nat.le_total k xs.length with h | h
  · rw [Nat.min_eq_left h, List.take_of_length_le (by rw [List.length_drop]; omega)]
  · rw [Nat.min_eq_right h, List.drop_of_length_le h, List.drop_length, List.take_nil]
theorem cut_mid (xs : List V) (j k : Nat) : cutV xs (some (j : Int)) (some (k : Int)) = (xs.drop j).take (k - j) := by
  unfold cutV
  rw [HT.sIx_nat, HT.sIx_nat]
  rcases Nat.le_total j xs.length with h | h
  · rw [Nat.min_eq_left h]
    rcases Nat.le_total k xs.length with h' | h'
    · rw [Nat.min_eq_left h']
    · rw [Nat.min_eq_right h', List.take_of_length_le (by rw [List.length_drop]; omega), List.take_of_length_le (by rw [List.length_drop]; omega)]
  · rw [Nat.min_eq_right h, List.drop_of_length_le h, List.drop_length, List.take_nil, List.take_nil]
/-! ### sizes -/
theorem mulw {i j : Int} (hi : i.natAbs < 2 ^ 200) (hj : j.natAbs < 2 ^ 200) : CMulW i j := wide_mul (a := 200) (b := 200) hi hj (by decide) (by decide) (by decide)
theorem divw {i j : Int} (h : 0 < j) (hj : j.natAbs < 2 ^ 200) : CDivW i j := wide_div (b := 200) h hj (by decide) (by decide)
end Vc

/-! Setn: len(set(xs)) of a list of pairwise different texts (my own; the way is HandS.Strs', which has at most one text). -/
namespace Setn
open PySem PySem.Spec PyProof.Rows L2
theorem getD_take {xs : List Str} {i : Nat} (h : i < xs.length) : xs.take (i + 1) = xs.take i ++ [xs.getD i Str.empty] := by
  rw [List.take_add_one, List.getElem?_eq_getElem h, List.getD_eq_getElem?_getD, List.getElem?_eq_getElem h]; rfl
theorem any_beq (l : List Str) (k : Str) : l.any (· == k) = decide (k ∈ l) := by
  rw [Bool.eq_iff_iff, List.any_eq_true, decide_eq_true_eq]
  constructor
  · rintro ⟨x, hx, e⟩
    have := eq_of_beq e
    subst this
    exact hx
  · exact fun h => ⟨k, h, beq_self_eq_true k⟩
/-- how many different texts stand ahead of place i -/
def cn (xs : List Str) : Nat → Nat
  | 0 => 0
  | i + 1 => if (xs.take i).any (· == xs.getD i Str.empty) = true then cn xs i else cn xs i + 1
theorem cn_le (xs : List Str) : ∀ i, cn xs i ≤ i
  | 0 => Nat.le_refl 0
  | i + 1 => by
    have := cn_le xs i
    unfold cn
    split <;> omega
theorem cn_eq {xs : List Str} : ∀ {i : Nat}, i ≤ xs.length → (cn xs i = i ↔ (xs.take i).Nodup)
  | 0, _ => by simp [cn]
  | i + 1, h => by
    have ih := cn_eq (xs := xs) (i := i) (by omega)
    have le := cn_le xs i
    rw [getD_take (by omega)]
    unfold cn
    rw [any_beq, List.nodup_append]
    by_cases hm : xs.getD i Str.empty ∈ xs.take i
    · rw [if_pos (by simpa using hm)]
      constructor
      · intro e; omega
      · rintro ⟨_, _, d⟩
        exact absurd rfl (d _ hm _ (by simp))
    · rw [if_neg (by simpa using hm)]
      constructor
      · intro e
        refine ⟨ih.mp (by omega), by simp, fun a ha b hb e => ?_⟩
        rw [List.mem_singleton] at hb
        rw [e, hb] at ha
        exact hm ha
      · rintro ⟨d, _⟩
        rw [ih.mpr d]
theorem cn_nd {xs : List Str} (h : xs.Nodup) : cn xs xs.length = xs.length := (cn_eq (Nat.le_refl _)).mpr (by rw [List.take_length]; exact h)
theorem cn_lt {xs : List Str} : cn xs xs.length < xs.length ↔ ¬ xs.Nodup := by
  have a := cn_eq (xs := xs) (Nat.le_refl _)
  rw [List.take_length] at a
  have b := cn_le xs xs.length
  constructor
  · intro h d
    have := a.mpr d
    omega
  · intro h
    have : cn xs xs.length ≠ xs.length := fun e => h (a.mp e)
    omega
section
variable {prog : Program} {w : World} {A : Around} {R : Result → Shared → Prop} {I : Addr} {fp wr : List Addr} {G : Array GenState → Array GenState → Prop} {n : Nat} {P : Nat → Value → Prop} {St : Nat → Shared → Prop}
/-- the set's own loop over different texts -/
theorem loopD (W : WalksS prog w A.in1 I fp wr G n P St) (S : Addr) (hSf : S ∉ fp) (xs : List Str) (hsz : xs.length = n) (hn : n + 1 < scanBound)
    (hval : ∀ i v, P i v → ∃ t, v = .str (xs.getD i Str.empty) t) : ∀ (k i : Nat) (s : Shared), n - i = k → i ≤ n → St i s → s.heap.SetOf (PySem.strKind prog w) S (fun k' => (xs.take i).any (· == k')) (cn xs i) →
      (∀ s', Moved (S :: wr) G s s' → s'.heap.SetOf (PySem.strKind prog w) S (fun k' => (xs.take n).any (· == k')) (cn xs n) → R (.ok (.ret .none)) s') → codeAny (model prog w) A (.builtin "set.update.loop" ⟨[.ref S, .ref I], []⟩) R s := by
  have nw : S ∉ wr := fun h => hSf (W.sub _ h)
  have sw : ∀ b ∈ wr, b ∈ S :: wr := fun b hb => List.mem_cons_of_mem _ hb
  intro k
  induction k with
  | zero =>
    intro i s hk hi st hS hR
    obtain rfl : i = n := by omega
    refine codeAny_builtin F.entry_set_update_loop ?_
    rw [Around.under_plainId F.plain_set_update_loop _]; show wpAny _ A.in1 (pyNext (.ref I) >>= _) _ _ s
    refine wpAny_bind (W.done s _ _ st fun s' hm => ?_); show wpAny _ A.in1 (ret Value.none) _ _ s'
    refine wpAny_pure (hR s' (hm.mono sw) ?_)
    obtain ⟨o, es, ep, t, ho, rest⟩ := hS; exact ⟨o, es, ep, t, hm.heap S _ nw ho, rest⟩
  | succ k ih =>
    intro i s hk hi st hS hR
    have lt : i < n := by omega
    refine codeAny_builtin F.entry_set_update_loop ?_
    rw [Around.under_plainId F.plain_set_update_loop _]; show wpAny _ A.in1 (pyNext (.ref I) >>= _) _ _ s
    refine wpAny_bind (W.item i s _ _ lt st fun v s' hP st' hm => ?_); obtain ⟨t, rfl⟩ := hval i v hP
    have hS' : s'.heap.SetOf (PySem.strKind prog w) S (fun k' => (xs.take i).any (· == k')) (cn xs i) := by
      obtain ⟨o, es, ep, tb, ho, rest⟩ := hS; exact ⟨o, es, ep, tb, hm.heap S _ nw ho, rest⟩
    show wpAny _ A.in1 (holding [Value.str (xs.getD i Str.empty) t] (setAdd S (.str (xs.getD i Str.empty) t)) >>= _) _ _ s'
    refine wpAny_bind (wpAny_holding ?_); unfold setAdd; refine wpAny_holding ?_
    refine wpAny_bind ((PySem.strKind prog w).pyHash (k := xs.getD i Str.empty) (strKind_is _ _ _ _) ?_)
    refine wpAny_setAddHashed_of (knd := PySem.strKind prog w) (s := { s' with toks := s'.toks + 1 }) (strKind_is _ _ _ _) rfl hS' (by have := cn_le xs i; omega) fun h' sb hS2 => ?_
    have hS3 : h'.SetOf (PySem.strKind prog w) S (fun k' => (xs.take (i + 1)).any (· == k')) (cn xs (i + 1)) := SetOf_congr hS2 (fun k' => by
      rw [getD_take (by omega), List.any_append]
      congr 1
      rw [any_beq, Bool.eq_iff_iff]; simp) rfl
    refine wpAny_pure ⟨plainId_quiet F.plain_set_update_loop _, ih (i + 1) _ (by omega) lt (W.frame _ s' _ _ st' (Nat.le_succ _) fun b hb o e => ?_) hS3 fun s'' hm'' hS'' => ?_⟩
    · rw [sb.2 b (fun h : b = S => hSf (h ▸ hb))]; exact e
    · refine hR s'' (Moved.trans W.gtrans ((hm.mono sw).then_heap (Nat.le_succ _) fun b o hb e => ?_) hm'') hS''
      rw [sb.2 b (fun h : b = S => hb (h ▸ List.mem_cons_self))]; exact e
end
abbrev setO (led : Bool) : Obj := { cls := .type "set", dict := none, data := .set #[] 0 (.fresh 0 0 led) }
section
variable {prog : Program} {w : World} {A : Around} {E : Value → Shared → Prop} {s : Shared}
theorem call_setD {l : Addr} {items : Array Value} {xs : List Str} {Q : Value → Shared → Prop} (hh : A.handled = none) (hl : s.heap.IsList l items) (hi : StrsAre items.toList xs) (hn1 : xs.length + 1 < scanBound)
    (h : ∀ (h' : Heap) (tk : Nat), h'.SetOf (PySem.strKind prog w) s.heap.objs.size (fun k' => (xs.take items.size).any (· == k')) (cn xs items.size) → (∀ b o, b < s.heap.objs.size → s.heap.get? b = some o → h'.get? b = some o) → Q (.ref s.heap.objs.size) { s with heap := h', toks := tk }) :
    wpAny (model prog w) A (call (.type "set") [.ref l]) Q E s := by
  obtain ⟨c, tl, hmro⟩ := PySem.F.called_set.mro
  have hmade := PySem.F.called_set.made; have hsub := PySem.F.called_set.sub
  refine wpAny_call (codeAny_of_tree ?_); show wpAny _ _ (callAny (.type "set") _) _ _ _
  refine wpAny_pure ⟨Code.quiet_builtin _ (by decide +kernel), codeAny_builtin PySem.F.entry_type_call ?_⟩; rw [Around.under_plain (weight_type_call_type "set" [.ref l] []) rfl]
  have h1 := PySem.F.called_set.notType; have h2 := PySem.F.called_set.canCreate; have hct := PySem.F.typeCall_set_1 (.ref l)
  repeat (any_goals (first | assumption | wp_step))
  refine codeAny_mono (code_set_new_1 (.ref l) (E := E) (Q₁ := fun obj s₁ => ∃ led : Bool, obj = .ref s.heap.objs.size ∧ s₁ = { s with heap := s.heap.push (setO led) }) fun led => ⟨led, rfl, rfl⟩) fun r s₁ hr => ?_
  cases r with
  | error e => exact hr
  | ok fl =>
    cases fl with
    | ret obj =>
      obtain ⟨led, rfl, rfl⟩ := hr
      have hS : (s.heap.push (setO led)).get? s.heap.objs.size = some (setO led) := Heap.get?_push_size _ rfl
      have hT : Shared.TypeIs { s with heap := s.heap.push (setO led) } (.ref s.heap.objs.size) "set" := ⟨_, hS, rfl⟩
      have hli := PySem.F.called_set.init.lookup; have hbi := PySem.F.called_set.init.bind (.ref s.heap.objs.size)
      repeat (any_goals (first | assumption | wp_step))
      refine codeAny_mono (codeAny_call_builtin (R := wants (fun r s₂ => r = .none ∧ ∃ h' tk, s₂ = { s with heap := h', toks := tk } ∧ h'.SetOf (PySem.strKind prog w) s.heap.objs.size (fun k' => (xs.take items.size).any (· == k')) (cn xs items.size) ∧
          (∀ b o, b < s.heap.objs.size → s.heap.get? b = some o → h'.get? b = some o)) E) PySem.F.called_set.init.plain PySem.F.entry_set_init (check_set_init_1 hT ?_)) fun r₂ s₂ hr₂ => ?_
      · obtain ⟨ol, hol, hcl, nl, hdl⟩ := hl
        obtain ⟨ocls, odict, odata, oslots⟩ := ol
        simp only at hcl hdl; subst hcl; subst hdl
        have hol' : (s.heap.push (setO led)).get? l = some { cls := .type "list", dict := odict, data := .seq items nl, slots := oslots } := Heap.get?_push_of_some _ hol
        have hsls := PySem.F.sub_list_set; have hslf := PySem.F.sub_list_frozenset
        have hne : (Value.type "list" == Value.type "dict") = false := by decide
        have hl1 : (s.heap.push (setO led)).IsList l items := ⟨_, hol', rfl, nl, rfl⟩
        unfold Builtin.«set.__init__» noKeywords Builtin.Frozenset.updateFrom
        generalize hPI : pyIter = PI
        wp_walk
        subst hPI
        refine wpAny_pyIter_list hl1 ?_; refine wpAny_bind (wpAny_runValue ?_)
        have ll : l < s.heap.objs.size := Heap.lt_size hol
        have h3 : A.in1.in1.in1.handled = none := by simp [hh]
        have nI : l ≠ (s.heap.push (setO led)).objs.size := by rw [Heap.size_push]; exact Nat.ne_of_lt (Nat.lt_succ_of_lt ll)
        have hSf : s.heap.objs.size ∉ [(s.heap.push (setO led)).objs.size, l] := by
          rw [Heap.size_push]; simp only [List.mem_cons, List.not_mem_nil, or_false, not_or]; exact ⟨Nat.ne_of_lt (Nat.lt_succ_self _), Nat.ne_of_gt ll⟩
        have hsz : xs.length = items.size := by rw [← StrsAre.len_eq hi, Array.length_toList]
        have hval : ∀ (i : Nat) (v : Value), items[i]? = some v → ∃ t, v = .str (xs.getD i Str.empty) t := fun i v hv => SS.strs_at hi i v (by rw [Array.getElem?_toList]; exact hv)
        refine loopD ((Walks.list h3 _ l nI items).toS) s.heap.objs.size hSf xs hsz (by rw [← hsz]; exact hn1) hval (items.size - 0) 0 _ (by omega) (Nat.zero_le _) ⟨⟨_, Heap.get?_push_size _ rfl, rfl, rfl⟩, (hl1.push _)⟩ ?hS0 ?hR
        case hS0 =>
          have hget : ((s.heap.push (setO led)).push { cls := .type "list_iterator", data := .fields #[.ref l, .int 0 0] }).get? s.heap.objs.size = some (setO led) := Heap.get?_push_of_some _ hS
          exact SetOf_congr ((setObjOf_fresh (knd := PySem.strKind prog w) led).setOf hget (by unfold scanBound; omega)) (fun _ => rfl) rfl
        case hR =>
          intro s' hm hS'
          obtain ⟨h', g', d', tk', os'⟩ := s'
          obtain rfl : g' = s.gens := hm.gens
          obtain rfl : d' = s.drawn := hm.drawn
          obtain rfl : os' = s.os := hm.os
          show wpAny _ _ _ _ _ _; refine wpAny_pure ?_; show wpAny _ _ (ret Value.none) _ _ _
          refine wpAny_pure ⟨rfl, h', tk', rfl, hS', fun b o hb e => ?_⟩
          have b1 : b ≠ s.heap.objs.size := Nat.ne_of_lt hb
          have b2 : b ≠ (s.heap.push (setO led)).objs.size := by rw [Heap.size_push]; exact Nat.ne_of_lt (Nat.lt_succ_of_lt hb)
          exact hm.heap b o (by simp only [List.mem_cons, List.not_mem_nil, or_false, not_or]; exact ⟨b1, b2⟩) (Heap.get?_push_of_some _ (Heap.get?_push_of_some _ e))
      · cases r₂ with
        | error e => exact hr₂
        | ok fl₂ =>
          cases fl₂ with
          | ret r =>
            obtain ⟨rfl, h', tk, rfl, hS', hk'⟩ := hr₂
            repeat (any_goals (first | assumption | wp_step))
            exact h _ _ hS' hk'
          | _ => exact hr₂.elim
    | _ => exact hr.elim
end
/-- len(set(xs)) of different texts -/
def tLenSetN (K : PySem.W.Frag) (ta : TE) : TE := fun σ H Q => ta σ H fun x H1 => ∃ l, ∃ xs : List Str, x = .ref l ∧ SqL K H1 l (xs.map V.str) ∧ xs.length ≤ 1000 ∧ Q (.int (cn xs xs.length)) H1
section
variable {X : Cx}
theorem pe_lenSetN {a : Expr} {ta : TE} {p p2 q pos : Pos} (hc : X.calm = true) (hg : Gl X "len") (hm : X.mg "len" = none) (hg2 : Gl X "set") (hm2 : X.mg "set" = none) (ha : PE X a ta) (na : starEach [a] X.env = (false, eval a X.env) :: starEach [] X.env := by rfl) :
    PE X (.Call (.Name "len" p) [.Call (.Name "set" p2) [a] [] q] [] pos) (tLenSetN X.K ta) := by
  refine ⟨fun pins s σ H Q I h => ?_⟩
  refine Call_ (ld_blt I hg hm boot_len ?_); refine PyProof.Rows.callWith_builtin1 (PyProof.Rows.args_cons ?_ rfl) rfl rfl
  refine Call_ (ld_blt I hg2 hm2 boot_set ?_)
  refine PyProof.Rows.callWith_type1 (PyProof.Rows.args_cons (thn (ha.run pins s σ H _ I h) fun v s1 ⟨x, H1, I1, r1, q1⟩ => PyProof.Rows.args_nil ?_) na) na rfl
  obtain ⟨l, xs, rfl, hq, hz, q1⟩ := q1
  cases r1
  obtain ⟨its, r, pl, _⟩ := I1.list hq
  have hl : its.toArray.size = xs.length := by rw [List.size_toArray, ← r.length, List.length_map]
  refine call_setD (I1.ok.hd hc) pl.isList (by simpa using strsAre_of r) (by unfold scanBound; omega) fun h' tk hS hk => ?_
  refine PyProof.Rows.args_nil ?_
  rw [hl] at hS
  obtain ⟨o, es, ep, t, ho, hex, hd, _, _, _, hf, hn⟩ := hS
  have I2 : Inv X pins σ H1 { s1 with heap := h', toks := tk } := I1.kept fun b o e => hk b o (Heap.lt_size e) e
  exact call_len_set ho hex hd hf (by rw [hn]; have := cn_le xs xs.length; omega) ⟨.int (cn xs xs.length), H1, I2.tok _, ⟨_, by rw [hn]⟩, q1⟩
end
end Setn

namespace Vc
open PySem PySem.Spec PyProof.Rows L2
section
variable {K : PySem.W.Frag} {σ : L2.St} {H : Hp} {Q : VK} {ta : TE}
theorem go_lenSet (h : ta σ H fun x H1 => ∃ l, ∃ xs : List Str, x = .ref l ∧ SqL K H1 l (xs.map V.str) ∧ xs.length ≤ 1000 ∧ Q (.int (Setn.cn xs xs.length)) H1) : Setn.tLenSetN K ta σ H Q := h
theorem go_lenSetC {a : Addr} {xs : List Str} {R : List Str → Prop} (e : SqL K H a (xs.map V.str)) (l : xs.length ≤ 1000) (h : R xs) : ∃ l', ∃ ys : List Str, V.ref a = .ref l' ∧ SqL K H l' (ys.map V.str) ∧ ys.length ≤ 1000 ∧ R ys := ⟨a, xs, rfl, e, l, h⟩
end
end Vc

/-! Vk: further readings by name: chains, classes' constants, fields, new instances, locked dicts, sorted. -/
namespace Vc
open PySem PySem.Spec PyProof.Rows L2
/-- a reading within a comprehension, told without the comprehension's own frame -/
theorem blkE {Y : Cx} {e : Expr} {t' t : TE} (h : PE Y e t') (q : t' = t) : PE Y e t := q ▸ h
theorem blkT {Y : Cx} {e : List Expr} {t' t : TT} (h : PTs Y e t') (q : t' = t) : PTs Y e t := q ▸ h
section
variable {K : PySem.W.Frag} {σ : L2.St} {H : Hp} {D : Ends} {Q : VK} {te ta tb tc tv : TE} {f : Str} {v x y : V} {i j : Int} {ts : TA} {g : TG} {t : TS} {tt : TT}
theorem go_chain {r r' : R2} (h : ta σ H fun x H1 => tb σ H1 fun y H2 => r x y H2 fun z H3 => ∃ k, z = .bl k ∧ (if k = true then tc σ H3 fun w' H4 => r' y w' H4 Q else Q (.bl false) H3)) : tChain r r' ta tb tc σ H Q := h
theorem go_cvalR (h : ta σ H fun x H1 => ∃ C mc v u, x = .ref C ∧ ClX.CRead K C mc ∧ ClX.CVal K C mc f v u ∧ Q v H1) : ClX.tCVal K ta f σ H Q := h
theorem go_cval {C : Addr} {mc u : Value} {R : V → Prop} (hr : ClX.CRead K C mc) (hv : ClX.CVal K C mc f v u) (h : R v) : ∃ C' mc' v' u', V.ref C = .ref C' ∧ ClX.CRead K C' mc' ∧ ClX.CVal K C' mc' f v' u' ∧ R v' := ⟨C, mc, v, u, rfl, hr, hv, h⟩
theorem go_fld (h : ta σ H fun x H1 => ∃ a C dx fs v, x = .ref a ∧ H1 a = some (.ins C dx fs) ∧ Cls K C ∧ NoAttr K C f ∧ fs.lookup f = some v ∧ Q v H1) : tFld K ta f σ H Q := h
theorem go_fldV {a C dx : Addr} {fs : List (Str × V)} {R : V → Prop} (e : H a = some (.ins C dx fs)) (hl : fs.lookup f = some v) (c : Cls K C) (n : NoAttr K C f) (h : R v) :
    ∃ a' C' dx' fs' v', V.ref a = .ref a' ∧ H a' = some (.ins C' dx' fs') ∧ Cls K C' ∧ NoAttr K C' f ∧ fs'.lookup f = some v' ∧ R v' := ⟨a, C, dx, fs, v, rfl, e, c, n, hl, h⟩
theorem go_sfld (h : tv σ H fun y H1 => ta σ H1 fun x H2 => ∃ a C dx fs, x = .ref a ∧ H2 a = some (.ins C dx fs) ∧ Cls K C ∧ NoAttr K C f ∧ fs.length < 1000 ∧ D.nx σ (upd H2 a (.ins C dx (putF f y fs)))) : sFld K ta tv f D σ H := h
theorem go_sfldV {a C dx : Addr} {fs : List (Str × V)} {R : Hp → Prop} (e : H a = some (.ins C dx fs)) (l : fs.length < 1000) (c : Cls K C) (n : NoAttr K C f) (h : R (upd H a (.ins C dx (putF f v fs)))) :
    ∃ a' C' dx' fs', V.ref a = .ref a' ∧ H a' = some (.ins C' dx' fs') ∧ Cls K C' ∧ NoAttr K C' f ∧ fs'.length < 1000 ∧ R (upd H a' (.ins C' dx' (putF f v fs'))) := ⟨a, C, dx, fs, rfl, e, c, n, l, h⟩
theorem go_make {C : Addr} {sp : Sp} {E : XK} (h : ts σ H fun vs H1 => ∀ x dx, H1 x = none → H1 dx = none → dx ≠ x → sp (.ref x :: vs) (upd (upd H1 dx (.own x)) x (.ins C dx [])) (fun v H2 => v = .non ∧ Q (.ref x) H2) E) : tMake C sp [] E ts σ H Q := by
  unfold tMake
  simpa only [List.append_nil] using h
theorem go_meth {C : Addr} {m : Str} {sp : Sp} {E : XK} (h : ta σ H fun x H1 => ∃ a dx fs, x = .ref a ∧ H1 a = some (.ins C dx fs) ∧ fs.lookup m = none ∧ ts σ H1 fun vs H2 => sp (x :: vs) H2 Q E) : tMeth C m sp [] E ta ts σ H Q := by
  unfold tMeth
  simpa only [List.append_nil] using h
theorem go_methV {a C dx : Addr} {fs : List (Str × V)} {m : Str} {R : Prop} (e : H a = some (.ins C dx fs)) (l : fs.lookup m = none) (h : R) : ∃ a' dx' fs', V.ref a = .ref a' ∧ H a' = some (.ins C dx' fs') ∧ fs'.lookup m = none ∧ R := ⟨a, dx, fs, rfl, e, l, h⟩
/-- a new instance, by name -/
theorem allocI {C p dx : Addr} {H2 : Hp} (hu : upd (upd H dx (.own p)) p (.ins C dx []) = H2) (np : H p = none) (nd : H dx = none) (ne : dx ≠ p) : Ed [] H H2 ∧ H2 p = some (.ins C dx []) ∧ H2 dx = some (.own p) := by
  subst hu
  have n1 : (upd H dx (.own p)) p = none := by rw [upd_ne ne.symm]; exact np
  exact ⟨(Ed.new nd).ex (Ed.new n1), upd_same, by rw [upd_ne ne]; exact upd_same⟩
theorem go_dgetIF {a : Addr} {k : Int} {o : Obj} {kvs : List (Key × V)} {R : V → Prop} (e : H a = some (.frz o (.dK kvs))) (ev : valV kvs (.inl k) = some v) (h : R v) : ∃ a' v', V.ref a = .ref a' ∧ DGet H a' (.int k) (some v') ∧ R v' :=
  ⟨a, v, rfl, .inl ⟨kvs, .inl k, .inr ⟨o, e⟩, rfl, ev.symm⟩, h⟩
theorem go_sorted {a : Addr} {ns : List Int} (e : SqL K H a (ns.map V.int)) (l : ns.length < 64) (h : ∀ (ns' : List Int) (p : Addr), ns'.Perm ns → ns'.Pairwise (· ≤ ·) → H p = none → Q (.ref p) (upd H p (.lst (ns'.map V.int)))) : rSorted K [.ref a] H Q := ⟨a, ns, rfl, e, l, h⟩
theorem go_listD {a : Addr} {kvs : List (Key × V)} (e : H a = some (.dK kvs)) (h : ∀ q, H q = none → Q (.ref q) (upd H q (.lst (kvs.map fun kv => kV kv.1)))) : rListD [.ref a] H Q := ⟨a, kvs, rfl, e, h⟩
theorem go_lenD {a : Addr} {kvs : List (Key × V)} {R : List (Key × V) → Prop} (e : H a = some (.dK kvs)) (h : R kvs) : ∃ b ls, [V.ref a] = [V.ref b] ∧ H b = some (.dK ls) ∧ R ls := ⟨a, kvs, rfl, e, h⟩
theorem go_in {a : Addr} {neg : Bool} {xs : List V} (e : SqL K H a xs ∨ SqT K H a xs) (hx : flatV x = true) (hf : xs.all flatV = true) (h : Q (.bl (if neg then !inV x xs else inV x xs)) H) : rIn K neg x (.ref a) H Q := ⟨a, xs, rfl, e, hx, hf, h⟩
theorem go_inL {a : Addr} {xs : List V} (e : SqL K H a xs) (hx : flatV x = true) (hf : xs.all flatV = true) (h : Q (.bl (inV x xs)) H) : rIn K false x (.ref a) H Q := go_in (neg := false) (.inl e) hx hf h
theorem go_inT {a : Addr} {xs : List V} (e : SqT K H a xs) (hx : flatV x = true) (hf : xs.all flatV = true) (h : Q (.bl (inV x xs)) H) : rIn K false x (.ref a) H Q := go_in (neg := false) (.inr e) hx hf h
theorem go_niL {a : Addr} {xs : List V} (e : SqL K H a xs) (hx : flatV x = true) (hf : xs.all flatV = true) (h : Q (.bl (!inV x xs)) H) : rIn K true x (.ref a) H Q := go_in (neg := true) (.inl e) hx hf h
theorem go_niT {a : Addr} {xs : List V} (e : SqT K H a xs) (hx : flatV x = true) (hf : xs.all flatV = true) (h : Q (.bl (!inV x xs)) H) : rIn K true x (.ref a) H Q := go_in (neg := true) (.inr e) hx hf h
theorem go_dc {wi : TI} {tk : TE} {vs : List Nat} (h : wi σ H fun J H1 => ∀ D, H1 D = none → ∃ W : Nat → Nat → Hp → Prop, (∃ m, W 0 m (upd H1 D (.dK []))) ∧ ∀ i m H, W i m H →
  (J.stop i H ∧ Q (.ref D) H) ∨ (J.go i H ∧ ∃ Nx : Hp → Prop, (∀ H', Nx H' → ∃ m', m' < m ∧ W (i + 1) m' H') ∧ ∀ x H', J.yld i H x H' → g x (wipe σ vs) H' fun σ2 H2 => wipe σ2 vs = wipe σ vs ∧ tt σ2 H2 fun b H3 =>
    if b = true then tk σ2 H3 fun y H4 => tv σ2 H4 fun z H5 => ∃ kvs k, y = kV k ∧ H5 D = some (.dK kvs) ∧ kvs.length < sizeLine ∧ Nx (upd H5 D (.dK (putK kvs k z))) else Nx H3)) : tDc wi g tt tk tv vs σ H Q := h
theorem go_aug {n : Nat} {ti : TIp} {x : V} (e : σ[n]? = some (some x)) (h : te σ H fun y H1 => ti x y H1 fun z H2 => D.nx (σ.set n (some z)) H2) : tAug n te ti D σ H := ⟨x, e, h⟩
theorem go_ipI {f : Int → Int → Int} (h : Q (.int (f i j)) H) : ipI f (.int i) (.int j) H Q := ⟨i, j, rfl, rfl, h⟩
theorem go_addS {a b : Str} {R : Str → Str → Prop} (l : a.length + b.length ≤ 1000) (h : R a b) : ∃ i j, V.str a = .str i ∧ V.str b = .str j ∧ i.length + j.length ≤ sizeLine ∧ R i j := ⟨a, b, rfl, rfl, Nat.le_of_lt (small1000 l), h⟩
theorem go_M1 {r : V → List V → Hp → VK → Prop} (h : ta σ H fun x H1 => (∃ a, x = .str a) ∧ tb σ H1 fun y H2 => r x [y] H2 Q) : tM1 r ta tb σ H Q := h
theorem go_M0 {r : V → List V → Hp → VK → Prop} (h : ta σ H fun x H1 => (∃ a, x = .str a) ∧ r x [] H1 Q) : tM0 r ta σ H Q := h
theorem go_isS {z : Str} {R : Prop} (h : R) : (∃ a, V.str z = .str a) ∧ R := ⟨⟨z, rfl⟩, h⟩
theorem go_join {a : Str} {p : Addr} {ys : List Str} {R : Str → List Str → Prop} (e : SqL K H p (ys.map V.str)) (l : (ys.map (·.length)).sum + ys.length * a.length ≤ 16777216) (h : R a ys) :
    ∃ a' p', ∃ zs : List Str, V.str a = .str a' ∧ [V.ref p] = [.ref p'] ∧ (SqL K H p' (zs.map V.str) ∨ SqT K H p' (zs.map V.str)) ∧ (zs.map (·.length)).sum + zs.length * a'.length ≤ 16777216 ∧ R a' zs := ⟨a, p, ys, rfl, rfl, .inl e, l, h⟩
theorem go_sub {to ti : TE} {ts : TSet} {R : L2.St → Hp → Prop} (h : to σ H fun o H1 => ti σ H1 fun i H2 => ts o i v H2 fun H3 => R σ H3) : gSub to ti ts v σ H R := h
theorem go_setL {p : Addr} {xs : List V} {k : Int} {j : Nat} {R : Hp → Prop} (e : H p = some (.lst xs)) (hj : ixN xs.length k = some j) (h : R (upd H p (.lst (xs.set j v)))) : rSetL (.ref p) (.int k) v H R := ⟨p, xs, k, j, rfl, rfl, e, hj, h⟩
theorem go_tupL {p : Addr} {xs : List V} {R : Addr → Hp → Prop} (e : SqL K H p xs) (h : ∀ l, H l = none → R l (upd H l (.tup xs))) : ∃ p' ys, [V.ref p] = [.ref p'] ∧ ((SqL K H p' ys ∧ ∀ l, H l = none → R l (upd H l (.tup ys))) ∨ (SqT K H p' ys ∧ R p' H)) := ⟨p, xs, rfl, .inl ⟨e, h⟩⟩
theorem at_m1 {xs : List V} (h : xs[xs.length - 1]? = some v) : atI xs (-1) = some v := by
  have h0 : 0 < xs.length := by
    rcases Nat.eq_zero_or_pos xs.length with e | e
    · rw [List.eq_nil_of_length_eq_zero e] at h; cases h
    · exact e
  unfold atI ixN
  rw [if_neg (by omega), if_pos (by omega)]
  have : (-1 + (xs.length : Int)).toNat = xs.length - 1 := by omega
  show xs[(-1 + (xs.length : Int)).toNat]? = some v
  rw [this]; exact h
/-- a dict comprehension over n turns that give items one by one -/
theorem dc_by {J : It} {n : Nat} {G : Hp → Prop} {Y : Nat → Hp → V → Hp → Prop} {tk : TE} {vs : List Nat} {R : Addr → Hp → Prop} (w : Walk J n G Y) (Pv : Addr → Nat → Hp → Prop) (h0 : ∀ D H2, H D = none → Ed [] H H2 → H2 D = some (.dK []) → Pv D 0 H2) (hG : ∀ D i H', H D = none → i ≤ n → Pv D i H' → G H')
    (hs : ∀ D i x H1 H', H D = none → i < n → Pv D i H1 → Y i H1 x H' → g x (wipe σ vs) H' fun σ2 H2 => wipe σ2 vs = wipe σ vs ∧ tt σ2 H2 fun b H3 =>
      if b = true then tk σ2 H3 fun y H4 => tv σ2 H4 fun z H5 => ∃ kvs k, y = kV k ∧ H5 D = some (.dK kvs) ∧ kvs.length < sizeLine ∧ Pv D (i + 1) (upd H5 D (.dK (putK kvs k z))) else Pv D (i + 1) H3) (hd : ∀ D H', H D = none → Pv D n H' → R D H') :
    ∀ D, H D = none → ∃ W : Nat → Nat → Hp → Prop, (∃ m, W 0 m (upd H D (.dK []))) ∧ ∀ i m H, W i m H →
      (J.stop i H ∧ R D H) ∨ (J.go i H ∧ ∃ Nx : Hp → Prop, (∀ H', Nx H' → ∃ m', m' < m ∧ W (i + 1) m' H') ∧ ∀ x H', J.yld i H x H' → g x (wipe σ vs) H' fun σ2 H2 => wipe σ2 vs = wipe σ vs ∧ tt σ2 H2 fun b H3 =>
        if b = true then tk σ2 H3 fun y H4 => tv σ2 H4 fun z H5 => ∃ kvs k, y = kV k ∧ H5 D = some (.dK kvs) ∧ kvs.length < sizeLine ∧ Nx (upd H5 D (.dK (putK kvs k z))) else Nx H3) := fun D nD => by
  refine ⟨fun i m H' => m = n - i ∧ i ≤ n ∧ Pv D i H', ⟨n, by simp, Nat.zero_le _, h0 D _ nD (Ed.new nD) upd_same⟩, ?_⟩
  rintro i m H1 ⟨rfl, hi, p⟩
  have q := hG D i H1 nD hi p
  by_cases hlt : i < n
  · exact .inr ⟨w.goes i H1 hlt q, Pv D (i + 1), fun H' p' => ⟨n - (i + 1), by omega, rfl, hlt, p'⟩, fun x H' y => hs D i x H1 H' nD hlt p (w.yields i H1 x H' hlt q y)⟩
  · have : i = n := by omega
    subst this
    exact .inl ⟨w.stops H1 q, hd D H1 nD p⟩
theorem putK_le {κ : Type} [DecidableEq κ] (c : List (κ × V)) (k : κ) (x : V) : (putK c k x).length ≤ c.length + 1 := by
  unfold putK
  split
  · rw [List.length_map]; omega
  · rw [List.length_append]; simp
theorem all_sqt {a : Addr} {xs : List V} (h : ∀ H, SqT K H a xs) (H : Hp) : SqT K H a xs := h H
/-! ### a dict that is locked while it is walked -/
theorem frz' {S : List Addr} {H' : Hp} {a : Addr} {o : Obj} {u : HO} (e : Ed S H H') (h : H a = some (.frz o u)) : H' a = some (.frz o u) := e.frz _ _ _ h
/-- unlocked again: d is what it was, all else as it is -/
theorem unlock {S : List Addr} {d : Addr} {u : HO} {od : Obj} {H1 H' H2 : Hp} (h : H d = some u) (m : Mut (some u)) (e1 : upd H d (.frz od u) = H1) (e2 : Ed S H1 H') (e3 : upd H' d u = H2) :
    Ed S H H2 ∧ H2 d = some u ∧ ∀ a o, a ≠ d → H' a = some o → H2 a = some o := by
  subst e1 e3
  have nf : ∀ ob w, u ≠ .frz ob w := fun ob w z => by rw [z] at m; exact m
  have nt : ∀ xs, u ≠ .tup xs := fun xs z => by rw [z] at m; exact m
  refine ⟨⟨fun a o ha e => ?_, fun a xs e => ?_, fun a ob w e => ?_, fun a e => ?_⟩, upd_same, fun a o n e => by rw [upd_ne n]; exact e⟩
  · by_cases q : a = d
    · subst q; rw [h] at e; cases e; exact upd_same
    · rw [upd_ne q]; exact e2.keep a o ha (by rw [upd_ne q]; exact e)
  · by_cases q : a = d
    · subst q; rw [h] at e; cases e; exact (nt _ rfl).elim
    · rw [upd_ne q]; exact e2.tup a xs (by rw [upd_ne q]; exact e)
  · by_cases q : a = d
    · subst q; rw [h] at e; cases e; exact (nf _ _ rfl).elim
    · rw [upd_ne q]; exact e2.frz a ob w (by rw [upd_ne q]; exact e)
  · by_cases q : a = d
    · subst q; rw [upd_same] at e; cases e
    · rw [upd_ne q] at e
      have := e2.dom a e
      rw [upd_ne q] at this; exact this
/-- for k in d -/
theorem lock_keys {n : Nat} {d : Addr} {kvs : List (Key × V)} (hv : σ[n]? = some (some (.ref d))) (hd : H d = some (.dK kvs)) (S : List Addr) (Pv : Hp → Nat → L2.St → Hp → Prop) (hE : ∀ H1 i σ' H', Pv H1 i σ' H' → Ed S H1 H')
    (h0 : ∀ H1 od, Ed [d] H H1 → H1 d = some (.frz od (.dK kvs)) → Pv H1 0 σ H1)
    (turn : ∀ H1 od i k w σ' H', Ed [d] H H1 → H1 d = some (.frz od (.dK kvs)) → H' d = some (.frz od (.dK kvs)) → kvs[i]? = some (k, w) → Pv H1 i σ' H' →
      g (kV k) σ' H' fun σ2 H2 => t { nx := Pv H1 (i + 1), ct := Pv H1 (i + 1), rt := fun v H3 => H3 d = some (.frz od (.dK kvs)) ∧ D.rt v (upd H3 d (.dK kvs)), bk := fun σ3 H3 => H3 d = some (.frz od (.dK kvs)) ∧ D.nx σ3 (upd H3 d (.dK kvs)) } σ2 H2)
    (done : ∀ H1 σ' H' H2, Ed [d] H H1 → Pv H1 kvs.length σ' H' → Ed S H H2 → H2 d = some (.dK kvs) → (∀ a o, a ≠ d → H' a = some o → H2 a = some o) → D.nx σ' H2) : tLock (tFor (iKeys (tVar n)) g t) D σ H := by
  refine ⟨d, .dK kvs, hd, trivial, fun od => ?_⟩
  generalize hu : upd H d (.frz od (.dK kvs)) = H1
  obtain ⟨e1, h1⟩ := chg hu hd
  refine ⟨_, hv, d, od, rfl, .inl ⟨kvs, h1, for_it walk_keys (Pv H1) (h0 H1 od e1 h1) (fun i σ' H' _ p => (hE _ _ _ _ p).frz _ _ _ h1) (fun i x σ' H' H2 hi p y => ?_) fun σ' H' p => ?_⟩⟩
  · obtain ⟨rfl, k, w, hk, rfl⟩ := y
    exact turn H1 od i k w σ' H2 e1 h1 ((hE _ _ _ _ p).frz _ _ _ h1) hk p
  · obtain ⟨e2, h2, k2⟩ := unlock hd trivial hu (hE _ _ _ _ p) rfl
    exact ⟨(hE _ _ _ _ p).frz _ _ _ h1, done H1 σ' H' _ e1 p e2 h2 k2⟩
/-- [e for k in d] -/
theorem lockE_keys {n : Nat} {d : Addr} {kvs : List (Key × V)} {vs : List Nat} (hv : σ[n]? = some (some (.ref d))) (hd : H d = some (.dK kvs)) (S : List Addr) (Pv : Hp → Addr → Nat → Hp → Prop) (hE : ∀ H1 L i H', Pv H1 L i H' → Ed S H1 H')
    (h0 : ∀ H1 od L H2, Ed [d] H H1 → H1 d = some (.frz od (.dK kvs)) → H1 L = none → Ed [] H1 H2 → H2 L = some (.lst []) → Pv H1 L 0 H2)
    (turn : ∀ H1 od L i k w H', Ed [d] H H1 → H1 L = none → H' d = some (.frz od (.dK kvs)) → kvs[i]? = some (k, w) → Pv H1 L i H' →
      g (kV k) (wipe σ vs) H' fun σ2 H2 => wipe σ2 vs = wipe σ vs ∧ tt σ2 H2 fun b H3 => if b = true then te σ2 H3 fun y H4 => ∃ acc, H4 L = some (.lst acc) ∧ acc.length < sizeLine ∧ Pv H1 L (i + 1) (upd H4 L (.lst (acc ++ [y]))) else Pv H1 L (i + 1) H3)
    (done : ∀ H1 L H' H2, H L = none → Pv H1 L kvs.length H' → Ed S H H2 → H2 d = some (.dK kvs) → (∀ a o, a ≠ d → H' a = some o → H2 a = some o) → Q (.ref L) H2) : tLockE (tLc (iKeys (tVar n)) g tt te vs) σ H Q := by
  refine ⟨d, .dK kvs, hd, trivial, fun od => ?_⟩
  generalize hu : upd H d (.frz od (.dK kvs)) = H1
  obtain ⟨e1, h1⟩ := chg hu hd
  refine ⟨_, hv, d, od, rfl, .inl ⟨kvs, h1, fun L nL => lc_it walk_keys (Pv H1 L) (h0 H1 od L _ e1 h1 nL (Ed.new nL) upd_same) (fun i H' _ p => (hE _ _ _ _ p).frz _ _ _ h1) (fun i x H' H2 hi p y => ?_) fun H' p => ?_⟩⟩
  · obtain ⟨rfl, k, w, hk, rfl⟩ := y
    exact turn H1 od L i k w H2 e1 nL ((hE _ _ _ _ p).frz _ _ _ h1) hk p
  · obtain ⟨e2, h2, k2⟩ := unlock hd trivial hu (hE _ _ _ _ p) rfl
    exact ⟨(hE _ _ _ _ p).frz _ _ _ h1, done H1 L H' _ (e1.dom _ nL) p e2 h2 k2⟩
/-- y = [e for k in d] -/
theorem lockA_keys {n m : Nat} {d : Addr} {kvs : List (Key × V)} {vs : List Nat} (hv : σ[n]? = some (some (.ref d))) (hd : H d = some (.dK kvs)) (S : List Addr) (Pv : Hp → Addr → Nat → Hp → Prop) (hE : ∀ H1 L i H', Pv H1 L i H' → Ed S H1 H')
    (h0 : ∀ H1 od L H2, Ed [d] H H1 → H1 d = some (.frz od (.dK kvs)) → H1 L = none → Ed [] H1 H2 → H2 L = some (.lst []) → Pv H1 L 0 H2)
    (turn : ∀ H1 od L i k w H', Ed [d] H H1 → H1 L = none → H' d = some (.frz od (.dK kvs)) → kvs[i]? = some (k, w) → Pv H1 L i H' →
      g (kV k) (wipe σ vs) H' fun σ2 H2 => wipe σ2 vs = wipe σ vs ∧ tt σ2 H2 fun b H3 => if b = true then te σ2 H3 fun y H4 => ∃ acc, H4 L = some (.lst acc) ∧ acc.length < sizeLine ∧ Pv H1 L (i + 1) (upd H4 L (.lst (acc ++ [y]))) else Pv H1 L (i + 1) H3)
    (done : ∀ H1 L H' H2, H L = none → Pv H1 L kvs.length H' → Ed S H H2 → H2 d = some (.dK kvs) → (∀ a o, a ≠ d → H' a = some o → H2 a = some o) → D.nx (σ.set m (some (.ref L))) H2) : tLock (tAsg (tLc (iKeys (tVar n)) g tt te vs) (gName m)) D σ H := by
  refine ⟨d, .dK kvs, hd, trivial, fun od => ?_⟩
  generalize hu : upd H d (.frz od (.dK kvs)) = H1
  obtain ⟨e1, h1⟩ := chg hu hd
  refine ⟨_, hv, d, od, rfl, .inl ⟨kvs, h1, fun L nL => lc_it walk_keys (Pv H1 L) (h0 H1 od L _ e1 h1 nL (Ed.new nL) upd_same) (fun i H' _ p => (hE _ _ _ _ p).frz _ _ _ h1) (fun i x H' H2 hi p y => ?_) fun H' p => ?_⟩⟩
  · obtain ⟨rfl, k, w, hk, rfl⟩ := y
    exact turn H1 od L i k w H2 e1 nL ((hE _ _ _ _ p).frz _ _ _ h1) hk p
  · obtain ⟨e2, h2, k2⟩ := unlock hd trivial hu (hE _ _ _ _ p) rfl
    exact ⟨(hE _ _ _ _ p).frz _ _ _ h1, done H1 L H' _ (e1.dom _ nL) p e2 h2 k2⟩
end
end Vc

/-! Kw: method calls with keywords (my own; the way is pe_meth's and pe_callK's). -/
namespace Vc
open PySem PySem.Spec PyProof.Rows L2
section
variable {X : Cx} {CX : CXT} {k : Nat} {f C : Addr} {fd : FuncData} {ps ks : List Str} {sp : Sp} {E : XK} {x m : Str} {p pos apos : Pos} {e o : Expr} {es : List Expr} {kws : List Keyword} {ta : TE} {t tk : TA} {g : List Value → List Value → List Value} {gV : List V → List V → List V}
theorem kbinds {K : PySem.W.Frag} {x qual : Str} {st : Stmt} (F : Fun K x qual st f fd)
    (h : ∀ (kV doc pm : Value) (an : Option Addr) (cdv ct : Value) (us ws : List Value), (g us ws).length = ps.length → bindArgs (PySem.W.fnOf x qual (defArgs st) (defBody st) (defScope st) .none kV doc pm an cdv ct) ⟨us, ks.zip ws⟩ = pure (ps.zip (g us ws)))
    (rel : ∀ {vs : List V} {us : List Value} {zs : List V} {ws : List Value}, Vals vs us → Vals zs ws → Vals (gV vs zs) (g us ws)) : KBinds K fd ps ks g gV := by
  obtain ⟨oc, od, kV, doc, pm, an, cdv, ct, osl, rfl, lk, hcd⟩ := F.ex
  exact ⟨fun s us ws _ hl => .of_eq (h kV doc pm an cdv ct us ws hl), rel⟩
def tMethK (C : Addr) (m : Str) (sp : Sp) (gV : List V → List V → List V) (E : XK) (ta : TE) (t tk : TA) : TE := fun σ H Q => ta σ H fun x H1 => ∃ a dx fs, x = .ref a ∧ H1 a = some (.ins C dx fs) ∧ fs.lookup m = none ∧ t σ H1 fun vs H2 => tk σ H2 fun zs H3 => sp (gV (x :: vs) zs) H3 Q E
/-- o.m(k = v, ..) -/
theorem pe_methK0 {pl : Sem Bool} (he : PE X o ta) (c : Cls X.K C) (hm : Meth X.K C m f) (F : FnOk X.prog X.w X.K X.mg X.base CX k f fd ps sp) (hr : Room k X.A) (hb : KBinds X.K fd ps ks g gV) (hx : Passes CX X E) (hkw : PK X kws tk)
    (hall : (backToKw pos (keywordEach kws X.env)).all (·.1.isSome) = true := by rfl) (hks : (backToKw pos (keywordEach kws X.env)).filterMap (·.1) = ks := by rfl)
    (hpl : ((backTo pos (starEach [] X.env)).any (·.1) || (backToKw pos (keywordEach kws X.env)).any (·.1.isNone)) = false := by rfl)
    (ht : eval (.Call (.Attribute o m apos) [] kws pos) X.env = (do
      let ov ← eval o X.env
      standAt apos.atName
      let (f, first) ← holding [ov] (getMethod ov m pl)
      callWith pos f first (backTo pos (starEach [] X.env)) (backToKw pos (keywordEach kws X.env))) := by rfl) :
    PE X (.Call (.Attribute o m apos) [] kws pos) (tMethK C m sp gV E ta tNil tk) := by
  refine ⟨fun pins s σ H Q I h => ?_⟩
  refine PySem.W.methodCall_KW (pl := pl) (thn (he.run pins s σ H _ I h) fun u s1 ⟨x, H1, I1, rx, a, dx, fs, ex, ea, l, q⟩ => ?_) ht
  subst ex
  obtain rfl : u = Value.ref a := rx
  refine getmeth_ok I1 ea c hm l ?_
  refine PySem.W.callWith_KW0 (first := [.ref a]) (h₀ := X.base) I.ok.mod.kin hm.kp hall (thn (hkw.run pos pins s1 σ H1 _ I1 q) fun ws s2 ⟨zs, H2, I2, rz, q2⟩ => ⟨I2.kIn, ?_⟩) hpl
  rw [hks]
  exact run_fnk (us := [.ref a]) (vs := [.ref a]) F hr hb hx I2 (.cons rfl .nil) rz q2
/-- o.m(e, .., k = v, ..) -/
theorem pe_methK {pl : Sem Bool} (he : PE X o ta) (c : Cls X.K C) (hm : Meth X.K C m f) (F : FnOk X.prog X.w X.K X.mg X.base CX k f fd ps sp) (hr : Room k X.A) (hb : KBinds X.K fd ps ks g gV) (hx : Passes CX X E) (ha : PA X (e :: es) t) (hkw : PK X kws tk)
    (hall : (backToKw pos (keywordEach kws X.env)).all (·.1.isSome) = true := by rfl) (hks : (backToKw pos (keywordEach kws X.env)).filterMap (·.1) = ks := by rfl)
    (hst : starEach (e :: es) X.env = (false, eval e X.env) :: starEach es X.env := by rfl)
    (hpl : ((backTo pos (starEach (e :: es) X.env)).any (·.1) || (backToKw pos (keywordEach kws X.env)).any (·.1.isNone)) = false := by rfl)
    (ht : eval (.Call (.Attribute o m apos) (e :: es) kws pos) X.env = (do
      let ov ← eval o X.env
      standAt apos.atName
      let (f, first) ← holding [ov] (getMethod ov m pl)
      callWith pos f first (backTo pos (starEach (e :: es) X.env)) (backToKw pos (keywordEach kws X.env))) := by rfl) :
    PE X (.Call (.Attribute o m apos) (e :: es) kws pos) (tMethK C m sp gV E ta t tk) := by
  refine ⟨fun pins s σ H Q I h => ?_⟩
  refine PySem.W.methodCall_KW (pl := pl) (thn (he.run pins s σ H _ I h) fun u s1 ⟨x, H1, I1, rx, a, dx, fs, ex, ea, l, q⟩ => ?_) ht
  subst ex
  obtain rfl : u = Value.ref a := rx
  refine getmeth_ok I1 ea c hm l ?_
  refine PySem.W.callWith_KW (first := [.ref a]) (h₀ := X.base) I.ok.mod.kin hm.kp hall (thn (ha.run pos pins s1 σ H1 _ I1 q) fun us s2 ⟨vs, H2, I2, r, q2⟩ => ?_) hpl hst
  refine thn (hkw.run pos pins s2 σ H2 _ I2 q2) fun ws s3 ⟨zs, H3, I3, rz, q3⟩ => ⟨I3.kIn, ?_⟩
  rw [hks]
  exact run_fnk (us := .ref a :: us) (vs := .ref a :: vs) F hr hb hx I3 (.cons rfl r) rz q3
/-- f(k = v, ..) -/
theorem pe_callK0 (F : FnOk X.prog X.w X.K X.mg X.base CX k f fd ps sp) (hr : Room k X.A) (hg : Gl X x) (hm : X.mg x = some (.ref f)) (hk : PySem.W.keepIn X.K (.ref f) = true) (hb : KBinds X.K fd ps ks g gV) (hx : Passes CX X E) (hkw : PK X kws tk)
    (hall : (backToKw pos (keywordEach kws X.env)).all (·.1.isSome) = true := by rfl) (hks : (backToKw pos (keywordEach kws X.env)).filterMap (·.1) = ks := by rfl)
    (hdb : (x == ("__debug__" : Str)) = false := by decide)
    (hpl : ((backTo pos (starEach [] X.env)).any (·.1) || (backToKw pos (keywordEach kws X.env)).any (·.1.isNone)) = false := by rfl) :
    PE X (.Call (.Name x p) [] kws pos) (tCallK sp gV E tNil tk) := by
  refine ⟨fun pins s σ H Q I h => ?_⟩
  refine wpAny_Call_Name_kw (ld_glob I hg hm ?_ hdb)
  refine PySem.W.callWith_KW0 (first := []) (h₀ := X.base) I.ok.mod.kin hk hall (thn (hkw.run pos pins s σ H _ I h) fun ws s2 ⟨zs, H2, I2, rz, q2⟩ => ⟨I2.kIn, ?_⟩) hpl
  rw [hks]
  exact run_fnk (us := []) (vs := []) F hr hb hx I2 .nil rz q2
end
section
variable {σ : L2.St} {H : Hp} {Q : VK} {ta : TE} {ts tk : TA} {C : Addr} {m : Str} {sp : Sp} {E : XK} {gV : List V → List V → List V}
theorem go_methK (h : ta σ H fun x H1 => ∃ a dx fs, x = .ref a ∧ H1 a = some (.ins C dx fs) ∧ fs.lookup m = none ∧ ts σ H1 fun vs H2 => tk σ H2 fun zs H3 => sp (gV (x :: vs) zs) H3 Q E) : tMethK C m sp gV E ta ts tk σ H Q := h
theorem go_callK (h : ts σ H fun vs H1 => tk σ H1 fun zs H2 => sp (gV vs zs) H2 Q E) : tCallK sp gV E ts tk σ H Q := h
end
end Vc

/-! Sup: an own exception over own classes over ValueError, whose __init__ begins super().__init__('text') (my own; ways of HandS.Call's fn_of, HandS.ExcInit and KE.KExcSuper). -/
namespace Vc
open PySem PySem.Spec PyProof.Rows L2 PySem.W
/-- a def with the free cell __class__ -/
structure SupScope (N P : List Str) (sc : Scope) : Prop where
  kind : sc.kind = .function
  co : sc.isCoroutine = false
  gen : sc.isGenerator = false
  nd : N.Nodup
  pre : N.take P.length = P
  par : ∀ x ∈ P, sc.names.lookup x = some .local
  nocell : ∀ y ∈ sc.names, y.2 ≠ .cell
  free1 : ∀ y ∈ sc.names, y.2 = .free → y.1 = "__class__"
  cls : sc.names.lookup ("__class__" : Str) = some .free
  sup : sc.names.lookup ("super" : Str) = some .globalImplicit
/-- the context of such a def's body -/
def cxS (cm : Bool) (CX : CXT) (P : Program) (w : World) (K : PySem.W.Frag) (mg : Str → Option Value) (base : Heap) (N : List Str) (qual : Str) (scope : Scope) (f : Addr) (cd : Value) (cc : Addr) (A : Around) (outer : List Env) (s : Shared) (H : Hp) (E : XK) : Cx where
  prog := P
  w := w
  K := K
  mg := mg
  base := base
  A := A.deeper (ksEnv qual scope s.heap.objs.size f cd cc)
  N := N
  s_0 := s
  H_0 := H
  env := ksEnv qual scope s.heap.objs.size f cd cc
  outer := outer
  stack := ksEnv qual scope s.heap.objs.size f cd cc :: outer
  ex := []
  calm := cm
  fn := fun y => !(y == ("__class__" : Str))
  pn := []
  xe := fun e s' => wpAny (model P w) (A.deeper (ksEnv qual scope s.heap.objs.size f cd cc)) (leaving (ksEnv qual scope s.heap.objs.size f cd cc) e) (fun _ s'' => CX outer H s E e s'') (fun e' s'' => CX outer H s E e' s'') s'
theorem cell1 {x : Str} {c cc : Addr} (h : List.lookup x [(("__class__" : Str), cc)] = some c) : x = "__class__" ∧ c = cc := by
  by_cases e : (x == ("__class__" : Str)) = true
  · rw [List.lookup_cons, e] at h
    exact ⟨eq_of_beq e, (Option.some.inj h).symm⟩
  · rw [List.lookup_cons, Bool.eq_false_iff.mpr e] at h
    cases h
theorem lookup_rev : ∀ {ps : List Str} {us : List Value} {i : Nat} {y : Str} {u : Value}, ps.Nodup → ps[i]? = some y → us[i]? = some u → (ps.zip us).reverse.lookup y = some u := by
  have key : ∀ {l : List (Str × Value)} {y : Str} {u : Value}, (l.map (·.1)).Nodup → (y, u) ∈ l → l.lookup y = some u := by
    intro l
    induction l with
    | nil => intro y u _ h; cases h
    | cons p r ih =>
      intro y u nd h
      rw [List.map_cons, List.nodup_cons] at nd
      rcases List.mem_cons.mp h with e | h
      · subst e; simp [List.lookup]
      · have ne : (y == p.1) = false := by
          rw [beq_eq_false_iff_ne]
          intro e
          exact nd.1 (e ▸ List.mem_map.mpr ⟨(y, u), h, rfl⟩)
        rw [List.lookup_cons, ne]
        exact ih nd.2 h
  intro ps us i y u nd h1 h2
  refine key ?_ ?_
  · rw [List.map_reverse]
    refine List.pairwise_reverse.mpr ?_
    have h3 : ((ps.zip us).map (·.1)).Nodup := nd.sublist (by
      have : (ps.zip us).map (·.1) = ps.take us.length := by
        clear key h1 h2 nd
        induction ps generalizing us with
        | nil => simp
        | cons p r ih =>
          cases us with
          | nil => simp
          | cons u t => simp [ih]
      rw [this]
      exact List.take_sublist _ _)
    exact h3.imp fun h => h.symm
  · rw [List.mem_reverse]
    refine List.mem_iff_getElem?.mpr ⟨i, ?_⟩
    rw [List.getElem?_zip_eq_some]
    exact ⟨h1, h2⟩
theorem inv_sup {cm : Bool} {CX : CXT} {P : Program} {w : World} {K : PySem.W.Frag} {mg : Str → Option Value} {base : Heap} {N ps : List Str} {qual : Str} {scope : Scope} {f cc : Addr} {cd : Value} {A : Around} {outer : List Env} {s : Shared} {H : Hp} {E : XK} {us : List Value} {vs : List V} {h1 : Heap} {tk : Nat} {oc cv : Value} {od : Option Addr} {sl : Array (Option Value)}
    (S : SupScope N ps scope) (hd : cm = true → A.handled = none) (e0 : Env0 P w K mg base A outer s H) (hl : vs.length = ps.length) (r : Vals vs us) (hcell : K.lookup cc = some ⟨oc, od, .cell (some cv), sl⟩)
    (ns : h1.Ns s.heap.objs.size (fun x => (ps.zip us).reverse.lookup x)) (hk : ∀ b o, s.heap.get? b = some o → h1.get? b = some o) :
    Inv (cxS cm CX P w K mg base N qual scope f cd cc A outer s H E) [] (start N vs) H { s with heap := h1, toks := tk } := by
  have hpl : ps.length ≤ N.length := by have := congrArg List.length S.pre; rw [List.length_take] at this; omega
  have hK : base.get? cc = some ⟨oc, od, .cell (some cv), sl⟩ := e0.mod.kin _ _ hcell
  have hs := e0.bs _ _ hK
  refine ⟨⟨e0.mod, S.kind, rfl, rfl, Nat.le_refl _, fun y z c h1 h2 => ?_, fun y hy => ?_, fun y c hf h => ?_, hd, Around.frames_deeper e0.frames, .inr ⟨rfl, rfl⟩, fun b z => absurd (show b ∈ ([] : List Addr) from z) (by simp), e0.bs, e0.bsz, fun b _ _ z => absurd (show b ∈ ([] : List Addr) from z) (by simp), fun b z => absurd (show b ∈ ([] : List Addr) from z) (by simp), e0.funs, e0.frf⟩,
    rfl, e0.bare, Un.kept hk, ⟨_, ns, fun i y v h1 h2 h3 => ?_⟩, fun y c h => ?_, e0.hok.fresh (Nat.le_refl _), fun y c h => ?_, fun p hp => absurd (show p ∈ ([] : List (Addr × Obj)) from hp) (by simp), e0.hok.kept hk, ?_⟩
  · exact (cell1 h1).1.trans (cell1 h2).1.symm
  · have hy : scope.names.lookup y = some .cell ∨ scope.names.lookup y = some .free := hy
    rcases hy with hy | hy
    · exact absurd rfl (S.nocell _ (PySem.mem_of_lookup hy))
    · have := S.free1 _ (PySem.mem_of_lookup hy) rfl
      have : y = "__class__" := this
      subst this
      exact ⟨cc, by show List.lookup _ [_] = _; simp [List.lookup]⟩
  · have := (cell1 h).1
    subst this
    cases (show (!((("__class__" : Str)) == ("__class__" : Str))) = true from hf)
  · have hi : i < vs.length := by
      unfold L2.start at h2
      by_cases hi : i < vs.length
      · exact hi
      · rw [List.getElem?_append_right (by simpa using hi)] at h2
        rw [List.getElem?_replicate] at h2
        split at h2 <;> cases h2
    have ha : vs[i]? = some v := by
      unfold L2.start at h2
      rw [List.getElem?_append_left (by simpa using hi), List.getElem?_map] at h2
      cases e : vs[i]? with
      | none => rw [e] at h2; cases h2
      | some a => rw [e] at h2; cases h2; rfl
    obtain ⟨u, hu, rv⟩ := r.get ha
    have hp : ps[i]? = some y := by
      rw [← S.pre, List.getElem?_take_of_lt (by omega)]; exact h1
    have ndP : ps.Nodup := by rw [← S.pre]; exact S.nd.sublist (List.take_sublist _ _)
    exact ⟨u, rv, .inl ⟨S.par y (List.mem_of_getElem? hp), lookup_rev ndP hp hu⟩⟩
  · rw [(cell1 h).2]
    exact ⟨_, _, hk _ _ hs.1, rfl⟩
  · rw [(cell1 h).2]
    exact hs.2
  · unfold L2.start
    show _ = N.length
    rw [List.length_append, List.length_map, List.length_replicate]
    omega
section
variable {prog : Program} {w : World} {A : Around} {E : Value → Shared → Prop} {h : Heap} {g : Array GenState} {d : Drawn} {t : Nat} {os : OsState}
variable {nm q : Str} {C N : Addr} {bs bm : List Value} {hdct : Bool} {sn : List Str} {sub : List Value} {ab : Bool} {col : Option Bool} {dd : Option Addr} {k0 k1 k2 k3 k5 : Option Value}
/-- the bound ValueError.__init__ called -/
theorem call_bv {u e t0 : Addr} {rest : List Value} {Q : Value → Shared → Prop}
    (hC : h.get? C = some (excClassObj nm q C N bs bm hdct sn sub ab col dd k0 k1 k2 k3 k5 "ValueError.__new__")) (he : h.get? e = some (HandSPX.excO C t0)) (hu : h.get? u = some (kxs_mw "ValueError.__init__" e)) (hrest : rest.length ≤ sizeLine)
    (hq : ∀ h' t1, (∀ b o, b ≠ e → h.get? b = some o → h'.get? b = some o) → h'.get? e = some (HandSPX.excO C t1) → Q .none ⟨h', g, d, t, os⟩) :
    wpAny (model prog w) A (call (.ref u) rest) Q E ⟨h, g, d, t, os⟩ := by
  refine wpAny_call (codeAny_of_tree ?_)
  show wpAny _ A.in1 (callAny (.ref u) ⟨rest, []⟩) _ _ _
  simp only [callAny]
  refine wpAny_bind (wpAny_load hu ?_)
  simp only [kxs_mw, show (Value.type "method-wrapper" == Value.type "method" || Value.type "method-wrapper" == Value.type "builtin_function_or_method" || Value.type "method-wrapper" == Value.type "method-wrapper") = true by decide, if_true]
  refine W.KFB.if_so (by decide) ?_
  refine wpAny_bind (check_bound_init F.excBase_ValueError.toExcCallFacts hC he rfl ?_)
  refine wpAny_bind (wpAny_pure (wpAny_pure ?_))
  refine ⟨Code.quiet_builtin _ (by decide +kernel), codeAny_builtin F.excBase_ValueError.initEntry ?_⟩
  rw [Around.under_plainId F.excBase_ValueError.init.plain _]
  wp_walk
  refine hq _ h.objs.size (fun b o hb ho => ?_) ?_
  · rw [Heap.get?_update_other _ _ (Ne.symm hb)]
    exact Heap.get?_push_of_some _ ho
  · rw [Heap.get?_update_self _ (Heap.get?_push_of_some _ he) rfl]
    rfl
end
/-- what super() asks for in the __init__ of the class at C -/
structure SupF (P : Program) (K : PySem.W.Frag) (mg : Str → Option Value) (f cda cc C : Addr) (fd : FuncData) (sv : Str) : Prop where
  lk : ∃ oc od sl, K.lookup f = some ⟨oc, od, .func fd, sl⟩
  par : ∃ ar : Arg, (fd.params.posonlyargs ++ fd.params.args).head? = some ar ∧ ar.arg = sv
  code : ∃ ccl cdd vs ccs file tf, K.lookup cda = some ⟨ccl, cdd, .fields vs, ccs⟩ ∧ vs[2]? = some (.str file tf) ∧ ((P.main.file : Str) == file) = true
  cell : ∃ cl cld csl, K.lookup cc = some ⟨cl, cld, .cell (some (.ref C)), csl⟩
  sub : mroIn K C (.ref C) = some true
  init : ks_superIn K C C "__init__" = some (some (.builtin "ValueError.__init__"))
  subV : subIn K (.ref C) (.type "ValueError") = some true
  nosup : mg "super" = none
  noop : nsIn K cStatics "thirdparty.any" = some none
  top : (P.main.scope.names.lookup ("super" : Str)).isSome = false
section
variable {cm : Bool} {CX : CXT} {P : Program} {w : World} {K : PySem.W.Frag} {mg : Str → Option Value} {base : Heap} {N ps : List Str} {qual : Str} {scope : Scope} {f cc cda C a : Addr} {A : Around} {outer : List Env} {s0 s : Shared} {H0 H : Hp} {E0' : XK} {pins : List (Addr × Obj)} {σ : L2.St} {fd : FuncData} {sv : Str} {body : List Stmt} {p0 p1 ap cp pos spos : Pos} {x : Str} {nk : Nat} {pl : Sem Bool}
theorem sup_stmt {e : Expr} {Q : Flow → Shared → Prop} (S : SupScope N ps scope) (SF : SupF P K mg f cda cc C fd sv) (T : OexC K C) (I : Inv (cxS cm CX P w K mg base N qual scope f (.ref cda) cc A outer s0 H0 E0') pins σ H s) (hN : N[0]? = some sv) (hself : scope.names.lookup sv = some .local) (hσ : σ[0]? = some (some (.ref a))) (ea : H a = some (exo a C none))
    (he : PE (cxS cm CX P w K mg base N qual scope f (.ref cda) cc A outer s0 H0 E0') e (tC (.str x))) (h : ∀ s', Inv (cxS cm CX P w K mg base N qual scope f (.ref cda) cc A outer s0 H0 E0') pins σ H s' → Q .next s')
    (hi : interactive (ksEnv qual scope s0.heap.objs.size f (.ref cda) cc) = false)
    (hs : swapsWith (.Call (.Attribute (.Call (.Name "super" p0) [] [] p1) "__init__" ap) [e] [] pos) none spos.line (ksEnv qual scope s0.heap.objs.size f (.ref cda) cc) = pure false)
    (hst : starEach [e] (ksEnv qual scope s0.heap.objs.size f (.ref cda) cc) = (false, eval e (ksEnv qual scope s0.heap.objs.size f (.ref cda) cc)) :: starEach [] (ksEnv qual scope s0.heap.objs.size f (.ref cda) cc))
    (ht : eval (.Call (.Attribute (.Call (.Name "super" p0) [] [] p1) "__init__" ap) [e] [] pos) (ksEnv qual scope s0.heap.objs.size f (.ref cda) cc) = (do
      let ov ← attributeBase (.Call (.Name "super" p0) [] [] p1) "__init__" (ksEnv qual scope s0.heap.objs.size f (.ref cda) cc) (eval (.Call (.Name "super" p0) [] [] p1) (ksEnv qual scope s0.heap.objs.size f (.ref cda) cc))
      standAt ap.atName
      let (fm, first) ← holding [ov] (getMethod ov "__init__" pl)
      callWith pos fm first (backTo pos (starEach [e] (ksEnv qual scope s0.heap.objs.size f (.ref cda) cc))) (backToKw pos (keywordEach [] (ksEnv qual scope s0.heap.objs.size f (.ref cda) cc))))) :
    _root_.PySem.wpAt (model P w) (cxS cm CX P w K mg base N qual scope f (.ref cda) cc A outer s0 H0 E0').A (.func body (ksEnv qual scope s0.heap.objs.size f (.ref cda) cc)) (exec (.Expr (.Call (.Attribute (.Call (.Name "super" p0) [] [] p1) "__init__" ap) [e] [] pos) spos) (ksEnv qual scope s0.heap.objs.size f (.ref cda) cc)) Q (cxS cm CX P w K mg base N qual scope f (.ref cda) cc A outer s0 H0 E0').xe s := by
  obtain ⟨_, _, _, lkf⟩ := SF.lk
  obtain ⟨ar, hp, rfl⟩ := SF.par
  obtain ⟨_, _, vs, _, file, tf, lkc, hvs, hfile⟩ := SF.code
  obtain ⟨_, _, _, lkl⟩ := SF.cell
  have KX : K.In s.heap := I.kIn
  refine ks_wpAt_Expr_any ?_ hi hs
  refine ks_wpAt_MethodCall (pl := pl) ?_ ht
  refine ks_wpAt_super_base (env := ksEnv qual scope s0.heap.objs.size f (.ref cda) cc) S.sup S.cls (by decide) rfl (KX _ _ lkf) rfl hp rfl (KX _ _ lkc) rfl hvs hfile SF.top ?_
  obtain ⟨mb, hb1, hb2⟩ := I.mod.blt
  have hboot : bootBuiltins "super" = some (.type "super") := by decide +kernel
  refine ks_loadName_global S.kind S.sup (Calls.loadGlobal_builtin (I.mod.glob.keeps I.bk) SF.nosup (hb1.keeps I.bk) ((hb2 "super" (by decide)).trans hboot) ⟨rfl, ?_⟩)
  refine wpAny_loadName_free S.kind S.cls (c := cc) (by simp [List.lookup]) ⟨_, KX _ _ lkl, rfl⟩ ?_
  obtain ⟨m, ns, hm⟩ := id I.loc
  obtain ⟨u, ru, lu⟩ := hm 0 _ _ hN hσ (.inl hself)
  obtain rfl : u = Value.ref a := ru
  have hma : m ar.arg = some (.ref a) := by
    rcases lu with ⟨_, e⟩ | ⟨k | k, _⟩
    · exact e
    · have k : scope.names.lookup ar.arg = some .cell := k
      rw [hself] at k; cases k
    · have k : scope.names.lookup ar.arg = some .free := k
      rw [hself] at k; cases k
  refine wpAny_loadName_local S.kind hself ns hma ?_
  obtain ⟨nm, q, Nn, bs, bm, sn, sub, ab, col, dd, k0, k1, k2, k3, k5, hC, hbm⟩ := T.cls
  obtain ⟨t1, ho⟩ := exo_at I.hok ea
  have hCh := KX _ _ hC
  obtain ⟨hh, g, d, t, os⟩ := s
  refine ks_wpAny_isType_cls hCh rfl ⟨rfl, ?_⟩
  refine ks_wpAny_call_super hCh rfl ho rfl (fun c z => by cases z) (looks_mroIn KX SF.sub) fun h' hso hk => ?_
  have KX' : K.In h' := KX.keeps hk
  have hcl : clsIn K C = some { name := nm, bases := bs, mro := .ref C :: bm, ns := Nn, qualname := q, hasDict := true, slotNames := sn, subclasses := sub, abstract := ab, collection := col, hasDel := false } := by unfold clsIn; rw [hC] <;> rfl
  have IA : InstAt h' a { cls := .ref C, dict := none, data := .fields #[.ref t1, .none, .none, .none, .bool false, .none] } C none := ⟨hk _ _ ho, rfl, rfl, trivial⟩
  have hsi := SF.init
  unfold ks_superIn at hsi
  rw [hcl, Option.bind_some] at hsi
  refine kxs_getMethod kxs_ValueError hso (looks_opaque KX' SF.noop) (l₀ := .ref C :: bm) ?_ rfl KX' hsi (IA.type.andThen (looks_subIn KX' SF.subV)) (ks_ne KX' IA hcl) (by decide) ?_
  · exact fun A Q E s k q => wpAny_bind ((looks_clsIn KX' hcl) A _ E s k (wpAny_pure q))
  have hk2 : ∀ b o, hh.get? b = some o → (h'.push (kxs_mw "ValueError.__init__" a)).get? b = some o := fun b o z => Heap.get?_push_of_some _ (hk b o z)
  have I2 : Inv (cxS cm CX P w K mg base N qual scope f (.ref cda) cc A outer s0 H0 E0') pins σ H ⟨h'.push (kxs_mw "ValueError.__init__" a), g, d, t + 1, os⟩ := I.kept (t' := t + 1) hk2
  have hu : (h'.push (kxs_mw "ValueError.__init__" a)).get? h'.objs.size = some (kxs_mw "ValueError.__init__" a) := Heap.get?_push_at rfl rfl
  have hsz : hh.objs.size ≤ h'.objs.size := Nat.le_of_lt (Nat.lt_of_le_of_lt (Nat.le_refl _) (Heap.lt_size hso))
  have I3 := I2.pins_of (pins' := (h'.objs.size, kxs_mw "ValueError.__init__" a) :: pins) fun p hp => by
    rcases List.mem_cons.mp hp with e | hp
    · subst e
      exact ⟨hu, I.hok.fresh hsz, fun z => absurd (Nat.lt_of_lt_of_le I.lt hsz) (by have z : h'.objs.size = _ := z; rw [z]; exact Nat.lt_irrefl _), I.nofs hsz, fun v z => by cases z⟩
    · exact I2.pin p (List.mem_append_right _ hp)
  have hev := (pa_cons he pa_nil (hs := hst)).run pos _ _ σ H (fun vs H1 => vs = [.str x] ∧ H1 = H) I3 ⟨rfl, rfl⟩
  have hst2 : starEach [e] (cxS cm CX P w K mg base N qual scope f (.ref cda) cc A outer s0 H0 E0').env = (false, eval e (cxS cm CX P w K mg base N qual scope f (.ref cda) cc A outer s0 H0 E0').env) :: starEach [] (cxS cm CX P w K mg base N qual scope f (.ref cda) cc A outer s0 H0 E0').env := hst
  rw [hst2] at hev
  show wpAny _ _ (callWith pos (.ref h'.objs.size) [] (backTo pos (starEach [e] (ksEnv qual scope s0.heap.objs.size f (.ref cda) cc))) []) _ _ _
  rw [hst]
  refine kxs_callWith (i := "ValueError.__init__") (x := a) (by rfl) ?_
  refine PySem.Calls.evalArgs_plain (thn hev fun us s1 ⟨vs, H1, I4, r1, ev, eH⟩ => ?_)
  subst ev eH
  have hu4 := (I4.pin (h'.objs.size, kxs_mw "ValueError.__init__" a) (List.mem_append_right _ (List.mem_cons_self ..))).1
  refine ⟨hu4, ?_⟩
  have I5 : Inv (cxS cm CX P w K mg base N qual scope f (.ref cda) cc A outer s0 H0 E0') pins σ H1 s1 := I4.pins_of fun p hp => I4.pin p (List.mem_append_right _ (List.mem_cons_of_mem _ hp))
  have hC5 := I5.kIn _ _ hC
  obtain ⟨t5, ho5⟩ := exo_at I5.hok ea
  obtain ⟨hh5, g5, d5, tk5, os5⟩ := s1
  have hlen : us.length = 1 := by rw [← Paired.length r1]; rfl
  refine call_bv (rest := [] ++ us) hC5 ho5 hu4 (by rw [List.nil_append, hlen, sizeLine_eq]; omega) fun h6 t6 k6 hx6 => ?_
  have J := I5.write (t' := tk5) (x := a) (e := a) (o := exo a C none) (by rw [ea]; exact True.intro) (.inl rfl) k6 ⟨_, hx6⟩ (exo_ok hx6)
  have eu : upd H1 a (exo a C none) = H1 := by
    funext b
    by_cases hb : b = a
    · rw [hb, upd_same, ea]
    · rw [upd_ne hb]
  rw [eu] at J
  exact h _ J
/-- as Fun, for a def with the free cell __class__ at cc -/
structure FunS (P : Program) (K : PySem.W.Frag) (mg : Str → Option Value) (x qual : Str) (st : Stmt) (f : Addr) (fd : FuncData) (C : Addr) (sv : Str) : Prop where
  ex : ∃ (oc : Value) (od : Option Addr) (kV doc pm : Value) (an : Option Addr) (cda cc : Addr) (ct : Value) (osl : Array (Option Value)),
    fd = ksFn x qual (defArgs st) (defBody st) (defScope st) .none kV doc pm an (.ref cda) ct cc ∧ K.lookup f = some ⟨oc, od, .func fd, osl⟩ ∧ PySem.W.codeIn K (.ref cda) qual = true ∧ SupF P K mg f cda cc C fd sv
  kp : PySem.W.keepIn K (.ref f) = true
theorem FunS.code (cm : Bool) {P : Program} {w : World} {K : PySem.W.Frag} {mg : Str → Option Value} {base : Heap} {CX : CXT} {x qual : Str} {st : Stmt} {rest : List Stmt} {f C : Addr} {fd : FuncData} {sv : Str} {N ps : List Str} {sp : Sp} {e : Expr} {z : Str} {p0 p1 ap pos spos : Pos} {pl : Sem Bool}
    (F : FunS P K mg x qual st f fd C sv) (S : SupScope N ps (defScope st)) (T : OexC K C) (hb : defBody st = .Expr (.Call (.Attribute (.Call (.Name "super" p0) [] [] p1) "__init__" ap) [e] [] pos) spos :: rest) (hN : N[0]? = some sv) (hself : (defScope st).names.lookup sv = some .local)
    (len : ∀ vs H Q E, sp vs H Q E → vs.length = ps.length)
    (hE : ∀ (X : Cx), PE X e (tC (.str z)))
    (hi : ∀ L cd cc, interactive (ksEnv qual (defScope st) L f cd cc) = false)
    (hs : ∀ L cd cc, swapsWith (.Call (.Attribute (.Call (.Name "super" p0) [] [] p1) "__init__" ap) [e] [] pos) none spos.line (ksEnv qual (defScope st) L f cd cc) = pure false)
    (hst : ∀ L cd cc, starEach [e] (ksEnv qual (defScope st) L f cd cc) = (false, eval e (ksEnv qual (defScope st) L f cd cc)) :: starEach [] (ksEnv qual (defScope st) L f cd cc))
    (ht : ∀ L cd cc, eval (.Call (.Attribute (.Call (.Name "super" p0) [] [] p1) "__init__" ap) [e] [] pos) (ksEnv qual (defScope st) L f cd cc) = (do
      let ov ← attributeBase (.Call (.Name "super" p0) [] [] p1) "__init__" (ksEnv qual (defScope st) L f cd cc) (eval (.Call (.Name "super" p0) [] [] p1) (ksEnv qual (defScope st) L f cd cc))
      standAt ap.atName
      let (fm, first) ← holding [ov] (getMethod ov "__init__" pl)
      callWith pos fm first (backTo pos (starEach [e] (ksEnv qual (defScope st) L f cd cc))) (backToKw pos (keywordEach [] (ksEnv qual (defScope st) L f cd cc)))))
    (hbody : ∀ (cda cc : Addr) (A : Around) (outer : List Env) (s : Shared) (H : Hp) (vs : List V) (Q : VK) (E : XK), sp vs H Q E →
      ∃ a, vs[0]? = some (.ref a) ∧ H a = some (exo a C none) ∧ ∃ t, PSs (cxS cm CX P w K mg base N qual (defScope st) f (.ref cda) cc A outer s H E) rest t ∧ t { nx := fun _ H' => Q .non H', rt := Q } (start N vs) H) :
    ∀ (A : Around) (outer : List Env) (s : Shared) (H : Hp) (args : Args) (us : List Value) (vs : List V) (Q : VK) (E : XK), A.depth < recursionLimit → (cm = true → A.handled = none) → Env0 P w K mg base A outer s H → BindsTo s fd args (ps.zip us) → Vals vs us → sp vs H Q E → codeAny (model P w) A (.call (.ref f) args) (CR CX outer P w H s Q E) s := by
  obtain ⟨oc, od, kV, doc, pm, an, cda, cc, ct, osl, rfl, lk, hcd, SF⟩ := F.ex
  intro A outer s H args us vs Q E hdp hcm e0 hbd r hsp
  have hl := len _ _ _ _ hsp
  have KX : K.In s.heap := e0.mod.kin.keeps fun b o e => (e0.bs b o e).1
  have lim : s.heap.NoLimit := e0.mod.nolimit.keeps fun b o e => (e0.bs b o e).1
  obtain ⟨_, _, _, lkl⟩ := SF.cell
  obtain ⟨a, ha, ea, t, ht2, hq⟩ := hbody cda cc A outer s H vs Q E hsp
  refine ks_codeAny_call_defAt hdp (KX _ _ lk) rfl lim (PySem.W.codeRec_of KX hcd) rfl hbd S.nocell (fun y hy => S.par y.1 (List.of_mem_zip (show (y.1, y.2) ∈ _ from hy)).1) (fun h₀ hns hk => ?_) S.co S.gen S.kind
  have I : Inv (cxS cm CX P w K mg base N qual (defScope st) f (.ref cda) cc A outer s H E) [] (start N vs) H { s with heap := h₀, toks := s.toks + (ps.zip us).length } := inv_sup S hcm e0 hl r lkl hns hk
  have fin : ∀ {σ' : L2.St} {H' : Hp} {v : V} {u : Value} {s' : Shared}, Inv (cxS cm CX P w K mg base N qual (defScope st) f (.ref cda) cc A outer s H E) [] σ' H' s' → RelV v u → Q v H' → CE outer P w H s Q u s' :=
    fun {σ' H' v u s'} J rv q => ⟨v, H', J.os, J.bare, J.base, J.hok, rv, q⟩
  have hσ : (start N vs)[0]? = some (some (.ref a)) := by
    have h0 : 0 < vs.length := by
      rcases Nat.eq_zero_or_pos vs.length with z | z
      · rw [List.eq_nil_of_length_eq_zero z] at ha; cases ha
      · exact z
    unfold L2.start
    rw [List.getElem?_append_left (by simpa using h0), List.getElem?_map, ha]; rfl
  rw [hb]
  refine ks_wpAt_execs_cons (sup_stmt S SF T I hN hself hσ ea (hE _) (fun s' I' => ?_) (hi _ _ _) (hs _ _ _) (hst _ _ _) (ht _ _ _))
  refine wpAt_of_wpAny (wpAny_mono (ht2.run [] s' (start N vs) H _ I' hq) (fun fl s2 hs2 => ?_) fun e s' hs => hs)
  cases fl with
  | ret u =>
    obtain ⟨v, σ', H', J, rv, q⟩ := hs2
    exact fin J rv q
  | next =>
    obtain ⟨σ', H', J, q⟩ := hs2
    exact fin (v := V.non) (u := Value.none) J rfl q
  | brk =>
    obtain ⟨_, _, _, q⟩ := hs2
    exact False.elim q
  | cont =>
    obtain ⟨_, _, _, q⟩ := hs2
    exact False.elim q
theorem FunS.ok {P : Program} {w : World} {K : PySem.W.Frag} {mg : Str → Option Value} {base : Heap} {CX : CXT} {x qual : Str} {st : Stmt} {rest : List Stmt} {f C : Addr} {fd : FuncData} {sv : Str} {N ps : List Str} {k : Nat} {sp : Sp} {e : Expr} {z : Str} {p0 p1 ap pos spos : Pos} {pl : Sem Bool}
    (F : FunS P K mg x qual st f fd C sv) (S : SupScope N ps (defScope st)) (T : OexC K C) (hb : defBody st = .Expr (.Call (.Attribute (.Call (.Name "super" p0) [] [] p1) "__init__" ap) [e] [] pos) spos :: rest) (hN : N[0]? = some sv) (hself : (defScope st).names.lookup sv = some .local)
    (len : ∀ vs H Q E, sp vs H Q E → vs.length = ps.length)
    (hE : ∀ (X : Cx), PE X e (tC (.str z)))
    (hi : ∀ L cd cc, interactive (ksEnv qual (defScope st) L f cd cc) = false)
    (hs : ∀ L cd cc, swapsWith (.Call (.Attribute (.Call (.Name "super" p0) [] [] p1) "__init__" ap) [e] [] pos) none spos.line (ksEnv qual (defScope st) L f cd cc) = pure false)
    (hst : ∀ L cd cc, starEach [e] (ksEnv qual (defScope st) L f cd cc) = (false, eval e (ksEnv qual (defScope st) L f cd cc)) :: starEach [] (ksEnv qual (defScope st) L f cd cc))
    (ht : ∀ L cd cc, eval (.Call (.Attribute (.Call (.Name "super" p0) [] [] p1) "__init__" ap) [e] [] pos) (ksEnv qual (defScope st) L f cd cc) = (do
      let ov ← attributeBase (.Call (.Name "super" p0) [] [] p1) "__init__" (ksEnv qual (defScope st) L f cd cc) (eval (.Call (.Name "super" p0) [] [] p1) (ksEnv qual (defScope st) L f cd cc))
      standAt ap.atName
      let (fm, first) ← holding [ov] (getMethod ov "__init__" pl)
      callWith pos fm first (backTo pos (starEach [e] (ksEnv qual (defScope st) L f cd cc))) (backToKw pos (keywordEach [] (ksEnv qual (defScope st) L f cd cc)))))
    (hbody : ∀ (cda cc : Addr) (A : Around) (outer : List Env) (s : Shared) (H : Hp) (vs : List V) (Q : VK) (E : XK), sp vs H Q E →
      ∃ a, vs[0]? = some (.ref a) ∧ H a = some (exo a C none) ∧ ∃ t, PSs (cxS true CX P w K mg base N qual (defScope st) f (.ref cda) cc A outer s H E) rest t ∧ t { nx := fun _ H' => Q .non H', rt := Q } (start N vs) H) :
    FnOk P w K mg base CX (k + 1) f fd ps sp :=
  ⟨len, fun A outer s H args us vs Q E hr e0 hbd r hsp => FunS.code true F S T hb hN hself len hE hi hs hst ht hbody A outer s H args us vs Q E hr.depth (fun _ => hr.hd) e0 hbd r hsp⟩
/-- how its arguments bind (no defaults) -/
theorem FunS.binds {P : Program} {K : PySem.W.Frag} {mg : Str → Option Value} {x qual : Str} {st : Stmt} {f C : Addr} {fd : FuncData} {sv : Str} {ps : List Str} (F : FunS P K mg x qual st f fd C sv)
    (h : ∀ (kV doc pm : Value) (an : Option Addr) (cda cc : Addr) (ct : Value) (us : List Value), us.length = ps.length → bindArgs (ksFn x qual (defArgs st) (defBody st) (defScope st) .none kV doc pm an (.ref cda) ct cc) ⟨us, []⟩ = pure (ps.zip us)) : Binds K fd ps [] := by
  obtain ⟨oc, od, kV, doc, pm, an, cda, cc, ct, osl, rfl, lk, hcd, SF⟩ := F.ex
  exact .all (h kV doc pm an cda cc ct)
end
end Vc

/-! Exc: own errors raised with their fields, asked and read in a suite; calls of instances that may raise (my own, over HandS' rules for exceptions). -/
namespace Vc
open PySem PySem.Spec PyProof.Rows L2
/-! ### __init__ of an error with one field, with two -/
def spErr1 (C : Addr) (f : Str) : Sp := fun vs H Q _ => ∃ (a : Addr) (v : V), vs = [.ref a, v] ∧ H a = some (exo a C none) ∧ ∀ d, H d = none → d ≠ a → Q .non (upd (upd H d (exd d [(f, v)])) a (exo a C (some d)))
def spErr2 (C : Addr) (f g : Str) : Sp := fun vs H Q _ => ∃ (a : Addr) (v u : V), vs = [.ref a, v, u] ∧ H a = some (exo a C none) ∧ ∀ d, H d = none → d ≠ a → Q .non (upd (upd (upd H d (exd d [(f, v)])) a (exo a C (some d))) d (exd d [(g, u), (f, v)]))
/-- what X(v) leaves, in one word -/
theorem mk_err {C : Addr} {fs : List (Str × V)} {H1 H2 : Hp} {Q : XK} {a d : Addr} (na : H1 a = none) (nd : H1 d = none) (ne : d ≠ a) (hx : ∀ b, b ≠ a → b ≠ d → H2 b = H1 b)
    (q : ∀ d H', H1 d = none → Ed [] H1 H' → H' d = some (.xd fs) → Q (.ref C) (some d) H') : Q (.ref C) (some d) (upd (del H2 a) d (.xd fs)) := by
  have keep : ∀ b o, H1 b = some o → (upd (del H2 a) d (.xd fs)) b = some o := fun b o e => by
    have ha : b ≠ a := ne_of_none e na
    have hd : b ≠ d := ne_of_none e nd
    rw [upd_ne hd, del_ne ha, hx b ha hd]; exact e
  refine q d _ nd ⟨fun b o _ e => keep b o e, fun b xs e => keep b _ e, fun b o u e => keep b _ e, fun b e => ?_⟩ upd_same
  by_cases hd : b = d
  · rw [hd, upd_same] at e; cases e
  · rw [upd_ne hd] at e
    by_cases ha : b = a
    · rw [ha]; exact na
    · rw [del_ne ha, hx b ha hd] at e; exact e
theorem go_err1 {C : Addr} {f : Str} {v : V} {H1 : Hp} {Q : XK} (q : ∀ d H', H1 d = none → Ed [] H1 H' → H' d = some (.xd [(f, v)]) → Q (.ref C) (some d) H') :
    [v].length ≤ 1000 ∧ ∀ a, H1 a = none → spErr1 C f (.ref a :: ([v] ++ [])) (upd H1 a (exo a C none)) (fun v' H2 => v' = .non ∧ ∃ (d : Addr) (fs : List (Str × V)), H2 a = some (exo a C (some d)) ∧ H2 d = some (exd d fs) ∧ H1 d = none ∧ Q (.ref C) (some d) (upd (del H2 a) d (.xd fs))) (fun _ _ _ => False) := by
  refine ⟨by show 1 ≤ 1000; decide, fun a na => ⟨a, v, rfl, upd_same, fun d nd ne => ⟨rfl, d, [(f, v)], upd_same, ?_, ?_, ?_⟩⟩⟩
  · rw [upd_ne ne]; exact upd_same
  · rw [upd_ne ne] at nd; exact nd
  · refine mk_err na (by rw [upd_ne ne] at nd; exact nd) ne (fun b h1 h2 => ?_) q
    rw [upd_ne h1, upd_ne h2, upd_ne h1]
theorem go_err2 {C : Addr} {f g : Str} {v u : V} {H1 : Hp} {Q : XK} (q : ∀ d H', H1 d = none → Ed [] H1 H' → H' d = some (.xd [(g, u), (f, v)]) → Q (.ref C) (some d) H') :
    [v, u].length ≤ 1000 ∧ ∀ a, H1 a = none → spErr2 C f g (.ref a :: ([v, u] ++ [])) (upd H1 a (exo a C none)) (fun v' H2 => v' = .non ∧ ∃ (d : Addr) (fs : List (Str × V)), H2 a = some (exo a C (some d)) ∧ H2 d = some (exd d fs) ∧ H1 d = none ∧ Q (.ref C) (some d) (upd (del H2 a) d (.xd fs))) (fun _ _ _ => False) := by
  refine ⟨by show 2 ≤ 1000; decide, fun a na => ⟨a, v, u, rfl, upd_same, fun d nd ne => ⟨rfl, d, [(g, u), (f, v)], ?_, upd_same, ?_, ?_⟩⟩⟩
  · rw [upd_ne ne.symm]; exact upd_same
  · rw [upd_ne ne] at nd; exact nd
  · refine mk_err na (by rw [upd_ne ne] at nd; exact nd) ne (fun b h1 h2 => ?_) q
    rw [upd_ne h2, upd_ne h1, upd_ne h2, upd_ne h1]
theorem go_mkO {C : Addr} {sp : Sp} {ta : TA} {σ : L2.St} {H : Hp} {Q : XK} (h : ta σ H fun vs H1 => vs.length ≤ 1000 ∧ ∀ a, H1 a = none → sp (.ref a :: (vs ++ [])) (upd H1 a (exo a C none))
  (fun v H2 => v = .non ∧ ∃ (d : Addr) (fs : List (Str × V)), H2 a = some (exo a C (some d)) ∧ H2 d = some (exd d fs) ∧ H1 d = none ∧ Q (.ref C) (some d) (upd (del H2 a) d (.xd fs))) (fun _ _ _ => False)) : tMkO C sp [] ta σ H Q := h
/-- raise X(..) -/
theorem go_raise {t : L2.St → Hp → XK → Prop} {W : WX} {D : Ends} {σ : L2.St} {H : Hp} (h : t σ H fun cls d H' => W cls d σ H') : (fun (_ : Ends) σ H => t σ H fun cls d H' => W cls d σ H') D σ H := h
/-- self.f = e, the first; a further one -/
theorem go_ost {K : PySem.W.Frag} {f : Str} {to te : TE} {D : Ends} {σ : L2.St} {H : Hp} (h : te σ H fun y H1 => to σ H1 fun x H2 => ∃ a C : Addr, x = .ref a ∧ OexC K C ∧ PySem.W.findIn K (.ref C) f = some none ∧
  ((H2 a = some (exo a C none) ∧ ∀ dx, H2 dx = none → dx ≠ a → D.nx σ (upd (upd H2 dx (exd dx [(f, y)])) a (exo a C (some dx)))) ∨
    ∃ (dx : Addr) (fs : List (Str × V)), H2 a = some (exo a C (some dx)) ∧ H2 dx = some (exd dx fs) ∧ fs.length ≤ 900 ∧ D.nx σ (upd H2 dx (exd dx ((f, y) :: fs))))) : tOst K f to te D σ H := h
theorem err_ends1 {K : PySem.W.Frag} {C : Addr} {f : Str} {vs : List V} {H : Hp} {Q : VK} {E : XK} {N : List Str} (T : OexC K C) (no : PySem.W.findIn K (.ref C) f = some none) (h : spErr1 C f vs H Q E) :
    ∃ a, vs[0]? = some (.ref a) ∧ H a = some (exo a C none) ∧ tOst K f (tVar 0) (tVar 1) { nx := fun _ H' => Q .non H', rt := Q } (start N vs) H := by
  obtain ⟨a, v, rfl, ea, q⟩ := h
  exact ⟨a, rfl, ea, v, rfl, .ref a, rfl, a, C, rfl, T, no, .inl ⟨ea, q⟩⟩
theorem err_ends2 {K : PySem.W.Frag} {C : Addr} {f g : Str} {vs : List V} {H : Hp} {Q : VK} {E : XK} {N : List Str} (T : OexC K C) (no : PySem.W.findIn K (.ref C) f = some none) (no2 : PySem.W.findIn K (.ref C) g = some none) (h : spErr2 C f g vs H Q E) :
    ∃ a, vs[0]? = some (.ref a) ∧ H a = some (exo a C none) ∧ tSeq (tOst K f (tVar 0) (tVar 1)) (tOst K g (tVar 0) (tVar 2)) { nx := fun _ H' => Q .non H', rt := Q } (start N vs) H := by
  obtain ⟨a, v, u, rfl, ea, q⟩ := h
  refine ⟨a, rfl, ea, v, rfl, .ref a, rfl, a, C, rfl, T, no, .inl ⟨ea, fun d nd ne => ?_⟩⟩
  exact ⟨u, rfl, .ref a, rfl, a, C, rfl, T, no2, .inr ⟨d, _, upd_same, by rw [upd_ne ne]; exact upd_same, by show 1 ≤ 900; decide, q d nd ne⟩⟩
/-! ### in a suite: isinstance of the error, its fields -/
/-- at d stands the dict of the error -/
def XdAt (H : Hp) (d : Option Addr) : Prop := d = none ∨ ∃ dd fs, d = some dd ∧ H dd = some (.xd fs)
def rIsX (K : PySem.W.Frag) (a : Addr) (cls : Value) (d : Option Addr) : List V → Hp → VK → Prop := fun xs H Q => ∃ (D : Addr) (c : V) (cv : Value) (b : Bool), cls = .ref D ∧ ExcC K D ∧ XdAt H d ∧ xs = [.ref a, c] ∧ (∀ u, RelV c u → u = cv) ∧ PySem.W.kitOne K (.ref D) cv = some b ∧ Q (.bl b) H
theorem call_isX {X : Cx} {a : Addr} {cls : Value} {d : Option Addr} {oe : Obj} {pn : List (Addr × Obj)} (hz : Zc cls d oe) (hf : ∃ vs, oe.data = .fields vs) : CallR (X.suite a ((a, oe) :: pn)) (.builtin "isinstance") (rIsX X.K a cls d) := by
  intro pins s σ H xs us Q I r h
  obtain ⟨D, c, cv, b, rfl, C, hd, rfl, hcv, e, q⟩ := h
  cases r with
  | cons rx rr =>
    cases rr with
    | cons rt rr =>
      cases rr
      cases rx
      have ec := hcv _ rt
      subst ec
      obtain ⟨hget, _⟩ := I.pin (a, oe) (List.mem_append.mpr (.inl List.mem_cons_self))
      obtain ⟨vs, hv⟩ := hf
      obtain ⟨oc, od, oda, osl⟩ := oe
      obtain ⟨h1, h2⟩ := hz
      dsimp only at h1 h2 hv
      subst h1 h2 hv
      have hsome : (PySem.W.clsIn X.K D).isSome = true := by obtain ⟨cd, hc, _⟩ := PySem.W.any_some C.hd; rw [hc]; rfl
      rcases hd with hd | ⟨dd, fs, hd, hxd⟩
      · subst hd
        have J : PySem.W.InstAt s.heap a { cls := .ref D, dict := none, data := .fields vs, slots := osl } D none := ⟨hget, rfl, rfl, trivial⟩
        exact PySem.W.kia_one (PySem.W.handS_kitx_exc C.hg C.hk C.hs C.hd C.ha C.hn C.ht C.hm) I.kIn J e (fun z => nomatch z) fun tk => ⟨.bl b, H, I.kept (t' := tk) fun _ _ z => z, rfl, q⟩
      · subst hd
        have hx : ObjOk X.prog X.w H s.heap dd (.xd fs) := I.hok dd _ hxd
        obtain ⟨mA, hns, hr⟩ := hx
        obtain ⟨odo, ho, hl⟩ := lookIn_ns hns
        have J : PySem.W.InstAt s.heap a { cls := .ref D, dict := some dd, data := .fields vs, slots := osl } D (some odo) := ⟨hget, rfl, rfl, ho⟩
        exact PySem.W.kia_one (PySem.W.kitx_exc hsome C.hg C.hk C.hs C.ha C.hn C.ht C.hm) I.kIn J e (fun z => nomatch z) fun tk => ⟨.bl b, H, I.kept (t' := tk) fun _ _ z => z, rfl, q⟩
section
variable {K : PySem.W.Frag} {a D : Addr} {d : Option Addr} {H : Hp} {Q : VK} {b : Bool}
theorem go_isXC {c : Addr} (C : ExcC K D) (hd : XdAt H d) (hk : PySem.W.kitOne K (.ref D) (.ref c) = some b) (q : Q (.bl b) H) : rIsX K a (.ref D) d [.ref a, .ref c] H Q :=
  ⟨D, .ref c, .ref c, b, rfl, C, hd, rfl, fun _ r => r, hk, q⟩
theorem go_isXT {t : String} (C : ExcC K D) (hd : XdAt H d) (hk : PySem.W.kitOne K (.ref D) (.type t) = some b) (q : Q (.bl b) H) : rIsX K a (.ref D) d [.ref a, .ty t] H Q :=
  ⟨D, .ty t, .type t, b, rfl, C, hd, rfl, fun _ r => r, hk, q⟩
theorem go_xf {C : Addr} {f : Str} {te : TE} {σ : L2.St} {cls : Value} (h : te σ H fun x H1 => x = .ref a ∧ cls = .ref C ∧ ∃ (dd : Addr) (fs : List (Str × V)) (v : V), d = some dd ∧ H1 dd = some (.xd fs) ∧ fs.lookup f = some v ∧ Q v H1) : tXf a cls d C f te σ H Q := h
theorem go_xfV {f : Str} {dd : Addr} {fs : List (Str × V)} {v : V} {R : V → Prop} (e : H dd = some (.xd fs)) (l : fs.lookup f = some v) (h : R v) :
    V.ref a = .ref a ∧ (Value.ref D) = .ref D ∧ ∃ (d' : Addr) (fs : List (Str × V)) (v : V), some dd = some d' ∧ H d' = some (.xd fs) ∧ fs.lookup f = some v ∧ R v := ⟨rfl, rfl, dd, fs, v, rfl, e, l, h⟩
theorem xdAt {dd : Addr} {fs : List (Str × V)} (e : H dd = some (.xd fs)) : XdAt H (some dd) := .inr ⟨dd, fs, rfl, e⟩
end
/-! ### an instance called; what is raised is wished for at the caller's slots -/
section
variable {X : Cx} {CX : CXT} {k : Nat} {C g : Addr} {fd : FuncData} {ps ks : List Str} {sp : Sp} {E : L2.St → XK} {pos : Pos} {fe e : Expr} {es : List Expr} {tf : TE} {t tk : TA} {kws : List Keyword} {gk : List Value → List Value → List Value} {gV : List V → List V → List V}
def InsD (H : Hp) (a C : Addr) : Prop := ∃ dx fs, H a = some (.ins C dx fs)
theorem insD_at {pins : List (Addr × Obj)} {σ : L2.St} {H : Hp} {s : Shared} {a : Addr} (I : Inv X pins σ H s) (h : InsD H a C) : ∃ ox od, PySem.W.InstAt s.heap a ox C od ∧ ox.data = .plain := by
  obtain ⟨dx, fs, h⟩ := h
  obtain ⟨mA, O, _⟩ := ins_get I.hok h
  obtain ⟨od, J, _⟩ := O.look
  exact ⟨_, _, J, rfl⟩
def tCallI (C : Addr) (sp : Sp) (E : L2.St → XK) (tf : TE) (t : TA) : TE := fun σ H Q => tf σ H fun y H1 => ∃ a, y = V.ref a ∧ t σ H1 fun vs H2 => InsD H2 a C ∧ sp (V.ref a :: vs) H2 Q (E σ)
theorem run_callI {pins : List (Addr × Obj)} {σ : L2.St} {H : Hp} {s : Shared} {Q : VK} {a : Addr} {us : List Value} {vs : List V} (c : StX.CallO X.K C g) (F : FnOk X.prog X.w X.K X.mg X.base CX k g fd ps sp) (hr : Room k X.A) (hb : Binds X.K fd ps []) (hx : ∀ σ, PassesAt CX X σ (E σ)) (I : Inv X pins σ H s) (hi : InsD H a C) (r : Vals vs us)
    (h : sp (V.ref a :: vs) H Q (E σ)) : wpAny (model X.prog X.w) X.A (call (.ref a) us) (EP X pins σ Q) X.xe s := by
  obtain ⟨ox, od, J, hd⟩ := insD_at I hi
  have h2 : sp ((V.ref a :: vs) ++ []) H Q (E σ) := by rw [List.append_nil]; exact h
  have hl : (Value.ref a :: us).length = ps.length := by
    have r2 : Vals (V.ref a :: vs) (Value.ref a :: us) := .cons rfl r
    rw [← r2.length]; exact F.len _ _ _ _ h
  have hb' := hb s (.ref a :: us) I.kIn (by rw [List.append_nil]; exact hl)
  rw [List.append_nil] at hb'
  refine wpAny_call (PySem.W.kco_code I.kIn J hd c.at_ c.fn c.fi (codeAny_mono (F.run X.A X.stack s H ⟨.ref a :: us, []⟩ (.ref a :: us) (.ref a :: vs) Q (E σ) hr I.env0 hb' (.cons rfl r) h) fun r s' hq => ?_))
  cases r with
  | error e => exact hx σ pins H s e s' I hq
  | ok fl =>
    cases fl with
    | ret u => exact I.after hq
    | next => exact False.elim hq
    | brk => exact False.elim hq
    | cont => exact False.elim hq
theorem pe_callI (hf : PE X fe tf) (c : StX.CallO X.K C g) (F : FnOk X.prog X.w X.K X.mg X.base CX k g fd ps sp) (hr : Room k X.A) (hb : Binds X.K fd ps []) (hx : ∀ σ, PassesAt CX X σ (E σ)) (ha : PA X (e :: es) t)
    (ht : eval (.Call fe (e :: es) [] pos) X.env = (do callWith pos (← eval fe X.env) [] (backTo pos (starEach (e :: es) X.env)) (backToKw pos (keywordEach [] X.env))) := by rfl)
    (he : starEach (e :: es) X.env = (false, eval e X.env) :: starEach es X.env := by rfl) (hpl : (backTo pos (starEach es X.env)).any (·.1) = false := by rfl) : PE X (.Call fe (e :: es) [] pos) (tCallI C sp E tf t) := by
  refine ⟨fun pins s σ H Q I h => ?_⟩
  refine Call_ (thn (hf.run pins s σ H _ I h) fun u s1 ⟨y, H1, I1, ry, a, ey, q⟩ => ?_) ht
  subst ey
  obtain rfl : u = Value.ref a := ry
  refine StX.callO_with (thn (ha.run pos pins s1 σ H1 _ I1 q) fun us s2 ⟨vs, H2, I2, r, hi, q2⟩ => ?_) he hpl
  obtain ⟨ox, od, J, hd⟩ := insD_at I2 hi
  exact ⟨⟨C, ox, od, J, hd⟩, run_callI c F hr hb hx I2 hi r q2⟩
end
section
variable {σ : L2.St} {H : Hp} {Q : VK} {tf : TE} {ts : TA} {C : Addr} {sp : Sp} {E : L2.St → XK}
theorem go_callI (h : tf σ H fun y H1 => ∃ a, y = V.ref a ∧ ts σ H1 fun vs H2 => InsD H2 a C ∧ sp (V.ref a :: vs) H2 Q (E σ)) : tCallI C sp E tf ts σ H Q := h
theorem go_insD {a dx : Addr} {fs : List (Str × V)} {P : Prop} (e : H a = some (.ins C dx fs)) (h : P) : InsD H a C ∧ P := ⟨⟨dx, fs, e⟩, h⟩
theorem go_refE {a : Addr} {P : Addr → Prop} (h : P a) : ∃ a', V.ref a = .ref a' ∧ P a' := ⟨a, rfl, h⟩
end
/-! ### what is raised is wished for at the caller's slots: methods, instances made, keywords -/
theorem passS0 {X : Cx} {E : L2.St → XK} : ∀ σ, PassesAt CX0 X σ (E σ) := fun _ _ _ _ _ _ _ h => h.elim
theorem passSL {X : Cx} : ∀ σ, PassesAt (L2.CX X.prog X.w) X σ ((fun (_ : L2.St) => E0) σ) := fun σ pins H s e s' I h => passL pins σ H s e s' I h
section
variable {X : Cx} {CX : CXT} {k : Nat} {C f g : Addr} {fd : FuncData} {ps ks : List Str} {sp : Sp} {E : L2.St → XK} {x m : Str} {p pos apos : Pos} {fe e o : Expr} {es : List Expr} {tf ta : TE} {t tk : TA} {kws : List Keyword} {gk : List Value → List Value → List Value} {gV : List V → List V → List V}
def tMethS (C : Addr) (m : Str) (sp : Sp) (E : L2.St → XK) (ta : TE) (t : TA) : TE := fun σ H Q => ta σ H fun x H1 => ∃ a dx fs, x = .ref a ∧ H1 a = some (.ins C dx fs) ∧ fs.lookup m = none ∧ t σ H1 fun vs H2 => sp (x :: vs) H2 Q (E σ)
theorem pe_methS {pl : Sem Bool} (he : PE X o ta) (c : Cls X.K C) (hm : Meth X.K C m f) (F : FnOk X.prog X.w X.K X.mg X.base CX k f fd ps sp) (hr : Room k X.A) (hb : Binds X.K fd ps []) (hx : ∀ σ, PassesAt CX X σ (E σ)) (ha : PA X (e :: es) t)
    (hst : starEach (e :: es) X.env = (false, eval e X.env) :: starEach es X.env := by rfl) (hpl : (backTo pos (starEach es X.env)).any (·.1) = false := by rfl)
    (ht : eval (.Call (.Attribute o m apos) (e :: es) [] pos) X.env = (do
      let ov ← eval o X.env
      standAt apos.atName
      let (f, first) ← holding [ov] (getMethod ov m pl)
      callWith pos f first (backTo pos (starEach (e :: es) X.env)) (backToKw pos (keywordEach [] X.env))) := by rfl) :
    PE X (.Call (.Attribute o m apos) (e :: es) [] pos) (tMethS C m sp E ta t) := by
  refine ⟨fun pins s σ H Q I h => ?_⟩
  refine PySem.W.methodCall_KW (pl := pl) (thn (he.run pins s σ H _ I h) fun u s1 ⟨x, H1, I1, rx, a, dx, fs, ex, ea, l, q⟩ => ?_) ht
  subst ex
  obtain rfl : u = Value.ref a := rx
  refine getmeth_ok I1 ea c hm l ?_
  refine PySem.W.callWith_K (first := [.ref a]) (h₀ := X.base) I.ok.mod.kin hm.kp (thn (ha.run pos pins s1 σ H1 _ I1 q) fun us s2 ⟨vs, H2, I2, r, q2⟩ => ⟨I2.kIn, ?_⟩) hst hpl
  exact run_fnS (us := .ref a :: us) (vs := .ref a :: vs) F hr hb (hx σ) I2 (.cons rfl r) q2
theorem pe_methS0 {pl : Sem Bool} (he : PE X o ta) (c : Cls X.K C) (hm : Meth X.K C m f) (F : FnOk X.prog X.w X.K X.mg X.base CX k f fd ps sp) (hr : Room k X.A) (hb : Binds X.K fd ps []) (hx : ∀ σ, PassesAt CX X σ (E σ))
    (ht : eval (.Call (.Attribute o m apos) [] [] pos) X.env = (do
      let ov ← eval o X.env
      standAt apos.atName
      let (f, first) ← holding [ov] (getMethod ov m pl)
      callWith pos f first (backTo pos (starEach [] X.env)) (backToKw pos (keywordEach [] X.env))) := by rfl) :
    PE X (.Call (.Attribute o m apos) [] [] pos) (tMethS C m sp E ta tNil) := by
  refine ⟨fun pins s σ H Q I h => ?_⟩
  refine PySem.W.methodCall_KW (pl := pl) (thn (he.run pins s σ H _ I h) fun u s1 ⟨x, H1, I1, rx, a, dx, fs, ex, ea, l, q⟩ => ?_) ht
  subst ex
  obtain rfl : u = Value.ref a := rx
  refine getmeth_ok I1 ea c hm l ?_
  exact PySem.W.callWith_K0 (first := [.ref a]) I1.kIn hm.kp (run_fnS (us := [.ref a]) (vs := [.ref a]) F hr hb (hx σ) I1 (.cons rfl .nil) q)
def tMakeS (C : Addr) (sp : Sp) (E : L2.St → XK) (t : TA) : TE := fun σ H Q => t σ H fun vs H1 => ∀ x dx, H1 x = none → H1 dx = none → dx ≠ x → sp (.ref x :: vs) (upd (upd H1 dx (.own x)) x (.ins C dx [])) (fun v H2 => v = .non ∧ Q (.ref x) H2) (E σ)
theorem run_makeS {pins : List (Addr × Obj)} {σ : L2.St} {H : Hp} {s : Shared} {Q : VK} {us : List Value} {vs : List V} (M : Mk X.K C f) (F : FnOk X.prog X.w X.K X.mg X.base CX k f fd ps sp) (hr : Room (k + 1) X.A) (hb : Binds X.K fd ps [])
    (hx : PassesAt CX X σ (E σ)) (I : Inv X pins σ H s) (r : Vals vs us)
    (h : ∀ x dx, H x = none → H dx = none → dx ≠ x → sp (.ref x :: vs) (upd (upd H dx (.own x)) x (.ins C dx [])) (fun v H2 => v = .non ∧ Q (.ref x) H2) (E σ)) :
    wpAny (model X.prog X.w) X.A (call (.ref C) us) (EP X pins σ Q) X.xe s := by
  have hq := h (s.heap.objs.size + 1) s.heap.objs.size (I.hok.fresh (Nat.le_succ _)) (I.hok.fresh (Nat.le_refl _)) (Nat.ne_of_lt (Nat.lt_succ_self _))
  have I2 := Inv.made (C := C) I
  have r2 : Vals (V.ref (s.heap.objs.size + 1) :: vs) (Value.ref (s.heap.objs.size + 1) :: us) := .cons rfl r
  have hl : (Value.ref (s.heap.objs.size + 1) :: us).length = ps.length := by
    have e := r2.length
    rw [F.len _ _ _ _ hq] at e
    exact e.symm
  have hb' := hb _ (Value.ref (s.heap.objs.size + 1) :: us) I2.kIn (by rw [List.append_nil]; exact hl)
  rw [List.append_nil] at hb'
  refine wpAny_call (make_map (f := f) I.kIn M.makes M.init (beq_iff_eq.mp M.fn) (codeAny_mono (F.run _ X.stack _ _ ⟨Value.ref (s.heap.objs.size + 1) :: us, []⟩ (Value.ref (s.heap.objs.size + 1) :: us) _ _ (E σ) (hr.make C us [])
    (I2.env0.make C us []) hb' r2 hq) fun r s' hq' => ?_))
  cases r with
  | error e => exact hx pins _ _ e s' I2 hq'
  | ok fl =>
    cases fl with
    | ret u =>
      obtain ⟨v, H', I3, rv, ev, q3⟩ := I2.after hq'
      subst ev
      exact ⟨rv, ⟨V.ref (s.heap.objs.size + 1), H', I3, rfl, q3⟩⟩
    | next => exact False.elim hq'
    | brk => exact False.elim hq'
    | cont => exact False.elim hq'
theorem pe_makeS (M : Mk X.K C f) (F : FnOk X.prog X.w X.K X.mg X.base CX k f fd ps sp) (hr : Room (k + 1) X.A) (hg : Gl X x) (hm : X.mg x = some (.ref C)) (hb : Binds X.K fd ps []) (hx : ∀ σ, PassesAt CX X σ (E σ))
    (ha : PA X (e :: es) t) (hdb : (x == ("__debug__" : Str)) = false := by decide) (he : starEach (e :: es) X.env = (false, eval e X.env) :: starEach es X.env := by rfl) (hpl : (backTo pos (starEach es X.env)).any (·.1) = false := by rfl) :
    PE X (.Call (.Name x p) (e :: es) [] pos) (tMakeS C sp E t) := by
  refine ⟨fun pins s σ H Q I h => ?_⟩
  refine wpAny_Call_Name_kw (ld_glob I hg hm ?_ hdb)
  refine PySem.W.callWith_K (h₀ := X.base) I.ok.mod.kin M.kp (thn (ha.run pos pins s σ H _ I h) fun us s1 ⟨vs, H1, I1, r, q⟩ => ⟨I1.kIn, ?_⟩) he hpl
  exact run_makeS M F hr hb (hx σ) I1 r q
/-- f(k = v, ..), f an instance -/
def tCallIK (C : Addr) (sp : Sp) (gV : List V → List V → List V) (E : L2.St → XK) (tf : TE) (tk : TA) : TE := fun σ H Q => tf σ H fun y H1 => ∃ a, y = V.ref a ∧ tk σ H1 fun zs H2 => InsD H2 a C ∧ sp (gV [V.ref a] zs) H2 Q (E σ)
theorem callK_of {M : Model} {A : Around} {E : Value → Shared → Prop} {s : Shared} {a : Addr} {pos : Pos} {Q : Value → Shared → Prop} {args : List (Bool × Sem Value)} {kw : List (Option Str × Sem Value)} (hplain : (args.any (·.1) || kw.any (·.1.isNone)) = false)
    (h : wpAny M A (evalArgs (.ref a) true args kw) (fun z s₁ => (∃ C ox od, PySem.W.InstAt s₁.heap a ox C od ∧ ox.data = .plain) ∧ wpAny M A (call (.ref a) ([] ++ z.pos) z.kw) Q E s₁) E s) : wpAny M A (callWith pos (.ref a) [] args kw) Q E s := by
  unfold callWith
  refine wpAny_bind (wpAny_holding (wpAny_mono h (fun z s₁ h₁ => wpAny_bind (wpAny_standAt ?_)) fun _ _ y => y))
  obtain ⟨⟨C, ox, od, J, hd⟩, h₁⟩ := h₁
  have L := PySem.W.kco_keeper (M := M) J hd
  simp only [hplain]
  refine wpAny_bind (L.here ?_)
  have tail : ∀ {t : Sem Value}, wpAny M A t Q E s₁ → wpAny M A (t >>= fun r => holding [r] point >>= fun _ => pure r) Q E s₁ :=
    fun ht => wpAny_bind (wpAny_mono ht (fun r s₂ hr => wpAny_bind (wpAny_holding (wpAny_point (wpAny_pure hr)))) fun _ _ y => y)
  exact tail (wpAny_operateT h₁)
theorem pe_callIK (hf : PE X fe tf) (c : StX.CallO X.K C g) (F : FnOk X.prog X.w X.K X.mg X.base CX k g fd ps sp) (hr : Room k X.A) (hb : KBinds X.K fd ps ks gk gV) (hx : ∀ σ, PassesAt CX X σ (E σ)) (hkw : PK X kws tk)
    (hall : (backToKw pos (keywordEach kws X.env)).all (·.1.isSome) = true := by rfl) (hks : (backToKw pos (keywordEach kws X.env)).filterMap (·.1) = ks := by rfl)
    (hpl : ((backTo pos (starEach [] X.env)).any (·.1) || (backToKw pos (keywordEach kws X.env)).any (·.1.isNone)) = false := by rfl)
    (ht : eval (.Call fe [] kws pos) X.env = (do callWith pos (← eval fe X.env) [] (backTo pos (starEach [] X.env)) (backToKw pos (keywordEach kws X.env))) := by rfl) : PE X (.Call fe [] kws pos) (tCallIK C sp gV E tf tk) := by
  refine ⟨fun pins s σ H Q I h => ?_⟩
  rw [ht]
  refine wpAny_bind (thn (hf.run pins s σ H _ I h) fun u s1 ⟨y, H1, I1, ry, a, ey, q⟩ => ?_)
  subst ey
  obtain rfl : u = Value.ref a := ry
  refine callK_of hpl (PyProof.Rows.evalArgs_kw2_nil hall (thn (hkw.run pos pins s1 σ H1 _ I1 q) fun ws s2 ⟨zs, H2, I2, r, hi, q2⟩ => ?_))
  rw [hks]
  obtain ⟨ox, od, J, hd⟩ := insD_at I2 hi
  have r2 := hb.rel (us := [Value.ref a]) (vs := [V.ref a]) (.cons rfl .nil) r
  have hl : (gk [Value.ref a] ws).length = ps.length := by rw [← r2.length]; exact F.len _ _ _ _ q2
  refine ⟨⟨C, ox, od, J, hd⟩, wpAny_call (PySem.W.kco_code I2.kIn J hd c.at_ c.fn c.fi (codeAny_mono (F.run X.A X.stack s2 H2 ⟨[.ref a], ks.zip ws⟩ (gk [.ref a] ws) (gV [.ref a] zs) Q (E σ) hr I2.env0 (hb.to s2 [.ref a] ws I2.kIn hl) r2 q2) fun r s' hq => ?_))⟩
  cases r with
  | error e => exact hx σ pins H2 s2 e s' I2 hq
  | ok fl =>
    cases fl with
    | ret u => exact I2.after hq
    | next => exact False.elim hq
    | brk => exact False.elim hq
    | cont => exact False.elim hq
end
section
variable {σ : L2.St} {H : Hp} {Q : VK} {tf ta : TE} {ts tk : TA} {C : Addr} {m : Str} {sp : Sp} {E : L2.St → XK} {gV : List V → List V → List V}
theorem go_methS (h : ta σ H fun x H1 => ∃ a dx fs, x = .ref a ∧ H1 a = some (.ins C dx fs) ∧ fs.lookup m = none ∧ ts σ H1 fun vs H2 => sp (x :: vs) H2 Q (E σ)) : tMethS C m sp E ta ts σ H Q := h
theorem go_makeS (h : ts σ H fun vs H1 => ∀ x dx, H1 x = none → H1 dx = none → dx ≠ x → sp (.ref x :: vs) (upd (upd H1 dx (.own x)) x (.ins C dx [])) (fun v H2 => v = .non ∧ Q (.ref x) H2) (E σ)) : tMakeS C sp E ts σ H Q := h
theorem go_callIK (h : tf σ H fun y H1 => ∃ a, y = V.ref a ∧ tk σ H1 fun zs H2 => InsD H2 a C ∧ sp (gV [V.ref a] zs) H2 Q (E σ)) : tCallIK C sp gV E tf tk σ H Q := h
theorem go_callS (h : ts σ H fun vs H1 => sp vs H1 Q (E σ)) : tCallS sp E ts σ H Q := h
end
/-- the error's field, whatever its class -/
def tXfX (K : PySem.W.Frag) (a : Addr) (cls : Value) (d : Option Addr) (f : Str) (te : TE) : TE := fun σ H Q => te σ H fun x H1 => x = .ref a ∧ ∃ C, cls = .ref C ∧ XfC K C ∧ PySem.W.findIn K (.ref C) f = some none ∧ ∃ (dd : Addr) (fs : List (Str × V)) (v : V), d = some dd ∧ H1 dd = some (.xd fs) ∧ fs.lookup f = some v ∧ Q v H1
theorem pe_xfX {X : Cx} {a : Addr} {oe : Obj} {cls : Value} {d : Option Addr} {pn : List (Addr × Obj)} {e : Expr} {te : TE} {pos : Pos} {n : Str} (hz : Zc cls d oe) (hf : ∃ vs, oe.data = .fields vs) (he : PE (X.suite a ((a, oe) :: pn)) e te) (hb : attributeBase e n X.env (eval e X.env) = eval e X.env := by rfl) :
    PE (X.suite a ((a, oe) :: pn)) (.Attribute e n pos) (tXfX X.K a cls d n te) := by
  refine ⟨fun pins s σ H Q I h => ?_⟩
  refine attr_of hb (thn (he.run pins s σ H _ I h) fun u s1 hh => ?_)
  obtain ⟨x, H1, I1, rx, ex, C, ec, T, hno, dd, fs, v, ed, ea, l, q⟩ := hh
  subst ex
  obtain rfl : u = Value.ref a := rx
  subst ec
  subst ed
  obtain ⟨ha, _⟩ := I1.pin (a, oe) (List.mem_append_left _ List.mem_cons_self)
  obtain ⟨vs, hd⟩ := hf
  have hx : ObjOk X.prog X.w H1 s1.heap dd (.xd fs) := I1.hok dd _ ea
  obtain ⟨mA, hns, hr⟩ := hx
  obtain ⟨od, ho, hl⟩ := lookIn_ns hns
  obtain ⟨u, hu, ru⟩ := RelO.some_of (v := v) (o := mA n) (by rw [← l]; exact hr n)
  have J : PySem.W.InstAt s1.heap a oe C (some od) := ⟨ha, hz.1, by unfold PySem.W.notCls; rw [hd] <;> rfl, by rw [hz.2]; exact ho⟩
  exact HandSPX.exc_get I1.kIn J T.ga T.gg T.exC (PySem.W.findObj_own T.hdC hno rfl (by rw [hl, hu])) (handed_of ru) ⟨v, H1, I1.tok _, ru, q⟩
theorem go_xfX {K : PySem.W.Frag} {a : Addr} {cls : Value} {d : Option Addr} {f : Str} {te : TE} {σ : L2.St} {H : Hp} {Q : VK} (h : te σ H fun x H1 => x = .ref a ∧ ∃ C, cls = .ref C ∧ XfC K C ∧ PySem.W.findIn K (.ref C) f = some none ∧ ∃ (dd : Addr) (fs : List (Str × V)) (v : V), d = some dd ∧ H1 dd = some (.xd fs) ∧ fs.lookup f = some v ∧ Q v H1) : tXfX K a cls d f te σ H Q := h
theorem go_xfXV {K : PySem.W.Frag} {a D dd : Addr} {f : Str} {H : Hp} {fs : List (Str × V)} {v : V} {R : V → Prop} (T : XfC K D) (no : PySem.W.findIn K (.ref D) f = some none) (e : H dd = some (.xd fs)) (l : fs.lookup f = some v) (h : R v) :
    V.ref a = .ref a ∧ ∃ C, (Value.ref D) = .ref C ∧ XfC K C ∧ PySem.W.findIn K (.ref C) f = some none ∧ ∃ (d' : Addr) (fs : List (Str × V)) (v : V), some dd = some d' ∧ H d' = some (.xd fs) ∧ fs.lookup f = some v ∧ R v := ⟨rfl, D, rfl, T, no, dd, fs, v, rfl, e, l, h⟩
/-! ### raise and try, by name -/
def tRaise (W : WX) (t : L2.St → Hp → XK → Prop) : TS := fun _ σ H => t σ H fun cls d H' => W cls d σ H'
theorem ps_raiseT {X : Cx} {W : WX} {e : Expr} {t : L2.St → Hp → XK → Prop} {pos : Pos} (hc : X.calm = true) (tk : Takes X W) (he : PMk X e t) : PS X (.Raise (some e) none pos) (tRaise W t) := ps_raise hc tk he
theorem go_raiseT {t : L2.St → Hp → XK → Prop} {W : WX} {D : Ends} {σ : L2.St} {H : Hp} (h : t σ H fun cls d H' => W cls d σ H') : tRaise W t D σ H := h
def tTryAs (K : PySem.W.Frag) (c : Value) (i : Nat) (ts : Addr → Value → Option Addr → TS) (Wout : WX) (tb : WX → TS) : TS := fun D σ H => tb (wAs K c i ts Wout D) D σ H
def tTryOnly (K : PySem.W.Frag) (c : Value) (ts : Addr → Value → Option Addr → TS) (Wout : WX) (tb : WX → TS) : TS := fun D σ H => tb (wOnly K c ts Wout D) D σ H
section
variable {X : Cx} {x n : Str} {c : Value} {i : Nat} {body suite : List Stmt} {b₀ : Stmt} {np pos pos' : Pos} {tb : WX → TS} {ts : Addr → Value → Option Addr → TS} {Wout : WX}
theorem ps_tryAs (hs : X.stack = X.env :: X.outer) (hf : X.env.frame = some X.env.locals) (hN : X.N.Nodup) (hi : X.N[i]? = some n) (hln : X.env.kindOf n = some .local) (hc : Names X x c) (tk : Takes X Wout)
    (hb : ∀ (W : WX) (pn : List (Addr × Obj)) (xe : Value → Shared → Prop), Takes (X.tr pn xe) W → PassesOwn (model X.prog X.w) X.A X.env xe → PSs (X.tr pn xe) body (tb W))
    (hsu : ∀ (a : Addr) (oe : Obj) (cls : Value) (d : Option Addr) (pn : List (Addr × Obj)), Zc cls d oe → (∃ vs, oe.data = .fields vs) → PSs (X.suite a ((a, oe) :: pn)) (b₀ :: suite) (ts a cls d)) :
    PS X (.Try body [.ExceptHandler (some (.Name x np)) (some n) (b₀ :: suite) pos'] [] [] pos) (tTryAs X.K c i ts Wout tb) := ps_try_as hs hf hN hi hln hc tk hb hsu
theorem ps_tryOnly (hs : X.stack = X.env :: X.outer) (hf : X.env.frame = some X.env.locals) (hc : Names X x c) (tk : Takes X Wout)
    (hb : ∀ (W : WX) (pn : List (Addr × Obj)) (xe : Value → Shared → Prop), Takes (X.tr pn xe) W → PassesOwn (model X.prog X.w) X.A X.env xe → PSs (X.tr pn xe) body (tb W))
    (hsu : ∀ (a : Addr) (oe : Obj) (cls : Value) (d : Option Addr) (pn : List (Addr × Obj)), Zc cls d oe → (∃ vs, oe.data = .fields vs) → PSs (X.suite a ((a, oe) :: pn)) (b₀ :: suite) (ts a cls d)) :
    PS X (.Try body [.ExceptHandler (some (.Name x np)) none (b₀ :: suite) pos'] [] [] pos) (tTryOnly X.K c ts Wout tb) := ps_try_only hs hf hc tk hb hsu
end
section
variable {K : PySem.W.Frag} {c : Value} {i : Nat} {tb : WX → TS} {ts : Addr → Value → Option Addr → TS} {Wout : WX} {D : Ends} {σ : L2.St} {H : Hp} {cls : Value} {d : Option Addr}
theorem go_tryAs (h : tb (wAs K c i ts Wout D) D σ H) : tTryAs K c i ts Wout tb D σ H := h
theorem go_tryOnly (h : tb (wOnly K c ts Wout D) D σ H) : tTryOnly K c ts Wout tb D σ H := h
theorem go_wAs (e : PySem.W.exmOne K cls c = some true) (h : ∀ a, H a = none → ts a cls d { nx := fun σ' H' => D.nx (σ'.set i none) H', rt := D.rt, bk := fun σ' H' => D.bk (σ'.set i none) H', ct := fun σ' H' => D.ct (σ'.set i none) H' } (σ.set i (some (.ref a))) H) : wAs K c i ts Wout D cls d σ H :=
  ⟨true, e, fun _ => h, fun q => nomatch q⟩
theorem go_wOnly (e : PySem.W.exmOne K cls c = some true) (h : ∀ a, H a = none → ts a cls d D σ H) : wOnly K c ts Wout D cls d σ H :=
  ⟨true, e, fun _ => h, fun q => nomatch q⟩
end
theorem go_nNone {A B : Prop} (h : A) : if (!(none : Option V).isSome) = true then A else B := iteT h
theorem go_nSome {v : V} {A B : Prop} (h : B) : if (!(some v).isSome) = true then A else B := iteF h
theorem go_None {A B : Prop} (h : B) : if (none : Option V).isSome = true then A else B := iteF h
theorem go_Some {v : V} {A B : Prop} (h : A) : if (some v).isSome = true then A else B := iteT h
/-! ### tuple(x), list(x): readings with a name -/
def rTupOf (K : PySem.W.Frag) : List V → Hp → VK → Prop := fun vs H Q => ∃ p xs, vs = [.ref p] ∧ ((SqL K H p xs ∧ ∀ l, H l = none → Q (.ref l) (upd H l (.tup xs))) ∨ (SqT K H p xs ∧ Q (.ref p) H))
theorem call_tupD {X : Cx} : CallR X (.type "tuple") (rTupOf X.K) := call_tuple_of
def rLstOf (K : PySem.W.Frag) : List V → Hp → VK → Prop := fun vs H Q => ∃ p xs, vs = [.ref p] ∧ (SqL K H p xs ∨ SqT K H p xs) ∧ ∀ l, H l = none → Q (.ref l) (upd H l (.lst xs))
theorem call_lstD {X : Cx} : CallR X (.type "list") (rLstOf X.K) := call_list_of
section
variable {K : PySem.W.Frag} {H : Hp} {Q : VK} {p : Addr} {xs : List V}
theorem go_tupD (e : SqL K H p xs) (h : ∀ l, H l = none → Q (.ref l) (upd H l (.tup xs))) : rTupOf K [.ref p] H Q := ⟨p, xs, rfl, .inl ⟨e, h⟩⟩
theorem go_tupDT (e : SqT K H p xs) (h : Q (.ref p) H) : rTupOf K [.ref p] H Q := ⟨p, xs, rfl, .inr ⟨e, h⟩⟩
theorem go_lstD (e : SqL K H p xs) (h : ∀ l, H l = none → Q (.ref l) (upd H l (.lst xs))) : rLstOf K [.ref p] H Q := ⟨p, xs, rfl, .inl e, h⟩
theorem go_lstDT (e : SqT K H p xs) (h : ∀ l, H l = none → Q (.ref l) (upd H l (.lst xs))) : rLstOf K [.ref p] H Q := ⟨p, xs, rfl, .inr e, h⟩
theorem go_lstDO (e : SqL K H p xs ∨ SqT K H p xs) (h : ∀ l, H l = none → Q (.ref l) (upd H l (.lst xs))) : rLstOf K [.ref p] H Q := ⟨p, xs, rfl, e, h⟩
end
theorem go_cat {H : Hp} {Q : VK} {p q : Addr} {xs ys : List V} (h1 : H p = some (.lst xs)) (h2 : H q = some (.lst ys)) (l : xs.length + ys.length ≤ 1000) (h : ∀ r, H r = none → Q (.ref r) (upd H r (.lst (xs ++ ys)))) : rCat (.ref p) (.ref q) H Q :=
  ⟨p, q, xs, ys, rfl, rfl, h1, h2, Nat.le_of_lt (small1000 l), h⟩
theorem go_prop {C : Addr} {sp : Sp} {E : XK} {ta : TE} {σ : L2.St} {H : Hp} {Q : VK} {dvs : List V} (h : ta σ H fun x H1 => ∃ a dx fs, x = .ref a ∧ H1 a = some (.ins C dx fs) ∧ sp (.ref a :: dvs) H1 Q E) : tProp C sp dvs E ta σ H Q := h
end Vc

/-! Xt: a caught error as a tracked object: held by a name, handed to defs, also where it is still being handled (my own; the way of HandS.Exc's ps_try_as and HandS.HotCalls). -/
namespace Vc
open PySem PySem.Spec PyProof.Rows L2
/-- a caught error: its class, its dict -/
def xco (a : Addr) (cls : Value) (d : Option Addr) : HO := .ext fun h => ∃ (oe : Obj) (vs : Array Value), h.get? a = some oe ∧ Zc cls d oe ∧ oe.data = .fields vs
theorem xco_own {a x : Addr} {cls : Value} {d : Option Addr} : xco a cls d ≠ .own x := fun z => by
  have z' : HO.ext _ = HO.own x := z
  cases z'
theorem xco_ok {P : Program} {w : World} {H : Hp} {h : Heap} {a : Addr} {cls : Value} {d : Option Addr} {oe : Obj} {vs : Array Value} (he : h.get? a = some oe) (hz : Zc cls d oe) (hd : oe.data = .fields vs) : ObjOk P w H h a (xco a cls d) :=
  ⟨⟨oe, vs, he, hz, hd⟩, ⟨_, he⟩, fun h1 h2 z k => by
    obtain ⟨o, v, q1, q2, q3⟩ := z
    exact ⟨o, v, k _ q1, q2, q3⟩⟩
theorem xco_at {P : Program} {w : World} {H : Hp} {h : Heap} {a : Addr} {cls : Value} {d : Option Addr} (hok : HOk P w H h) (he : H a = some (xco a cls d)) : ∃ (oe : Obj) (vs : Array Value), h.get? a = some oe ∧ Zc cls d oe ∧ oe.data = .fields vs := by
  have x : ObjOk P w H h a (.ext fun h => ∃ (oe : Obj) (vs : Array Value), h.get? a = some oe ∧ Zc cls d oe ∧ oe.data = .fields vs) := hok a _ he
  exact x.1
section
variable {X : Cx} {pins : List (Addr × Obj)} {σ : L2.St} {H : Hp} {s sI : Shared} {a : Addr} {o : HO}
/-- what was not there ahead becomes tracked -/
theorem track (J : Inv X pins σ H sI) (I : Inv X pins σ H s) (n : sI.heap.get? a = none) (na : H a = none) (ob : ObjOk X.prog X.w (upd H a o) s.heap a o) : Inv X pins σ (upd H a o) s := by
  have nb : ∀ {b : Addr} {o' : Obj}, sI.heap.get? b = some o' → b ≠ a := fun {b o'} e z => by rw [z, n] at e; cases e
  have nH : ∀ {b : Addr} {o' : HO}, H b = some o' → b ≠ a := fun {b o'} e z => by rw [z, na] at e; cases e
  refine ⟨I.ok, I.os, I.bare, ⟨I.base.keep, I.base.slot, fun b o' e n' hx => ?_, I.base.there, fun b xs e => ?_, fun b o' u e => ?_, fun b ps e => ?_⟩, I.loc, I.cell, ?_, fun y c e => ?_, fun p hp => ?_, fun b o' e => ?_, I.len⟩
  · obtain ⟨o2, e2⟩ := J.base.there b o' e hx
    rw [upd_ne (nb e2)]
    exact I.base.free b o' e n' hx
  · have q := I.base.tups b xs e
    rw [upd_ne (nH q)]; exact q
  · have q := I.base.frzs b o' u e
    rw [upd_ne (nH q)]; exact q
  · obtain ⟨more, q⟩ := I.base.tbls b ps e
    exact ⟨more, by rw [upd_ne (nH q)]; exact q⟩
  · obtain ⟨m, ⟨oL, _, _, hoL, _⟩, _⟩ := id J.loc
    rw [upd_ne (nb hoL)]; exact I.free
  · obtain ⟨v, hv⟩ := J.cell y c e
    obtain ⟨oc, hoc, _⟩ := hv
    rw [upd_ne (nb hoc)]; exact I.freeC y c e
  · obtain ⟨q1, q2, q3⟩ := I.pin p hp
    obtain ⟨z1, _⟩ := J.pin p hp
    exact ⟨q1, by rw [upd_ne (nb z1)]; exact q2, q3⟩
  · by_cases hb : b = a
    · subst hb
      rw [upd_same] at e
      cases e
      exact ob
    · rw [upd_ne hb] at e
      exact (I.hok b o' e).stay (fun _ _ _ q => q) (fun c hc => by rw [upd_ne (nH hc)]; exact hc) (fun c xs hc => by rw [upd_ne (nH hc)]; exact hc)
theorem suiteT (I : Inv X pins σ H s) (a : Addr) : Inv (X.suite a (X.pn ++ pins)) [] σ H s :=
  ⟨I.ok.suite _ _, I.os, I.bare, I.base, I.loc, I.cell, I.free, I.freeC, fun p hp => I.pin p (by rw [List.append_nil] at hp; exact hp), I.hok, I.len⟩
theorem unsuiteT {pn' : List (Addr × Obj)} (I : Inv (X.suite a (X.pn ++ pins)) pn' σ H s) (ok : X.Ok) : Inv X pins σ H s :=
  ⟨ok, I.os, I.bare, I.base, I.loc, I.cell, I.free, I.freeC, fun p hp => I.pin p (List.mem_append_left _ hp), I.hok, I.len⟩
end
/-- what the clause 'except x as n' wishes of an exception of the body: the error is tracked from there on -/
def wX (K : PySem.W.Frag) (c : Value) (i : Nat) (ts : TS) (Wout : WX) (D : Ends) : WX := fun cls d σ H =>
  ∃ b, PySem.W.exmOne K cls c = some b ∧ (b = true → ∀ a, H a = none → ts { nx := fun σ' H' => D.nx (σ'.set i none) H', rt := D.rt, bk := fun σ' H' => D.bk (σ'.set i none) H', ct := fun σ' H' => D.ct (σ'.set i none) H' } (σ.set i (some (.ref a))) (upd H a (xco a cls d))) ∧
    (b = false → Wout cls d σ H)
def tTryX (K : PySem.W.Frag) (c : Value) (i : Nat) (ts : TS) (Wout : WX) (tb : WX → TS) : TS := fun D σ H => tb (wX K c i ts Wout D) D σ H
section
variable {X : Cx} {x n : Str} {c : Value} {i : Nat} {body suite : List Stmt} {b₀ : Stmt} {np pos pos' : Pos} {tb : WX → TS} {ts : TS} {Wout : WX}
theorem ps_tryX (hs : X.stack = X.env :: X.outer) (hf : X.env.frame = some X.env.locals) (hN : X.N.Nodup) (hi : X.N[i]? = some n) (hln : X.env.kindOf n = some .local) (hc : Names X x c) (tk : Takes X Wout)
    (hb : ∀ (W : WX) (pn : List (Addr × Obj)) (xe : Value → Shared → Prop), Takes (X.tr pn xe) W → PassesOwn (model X.prog X.w) X.A X.env xe → PSs (X.tr pn xe) body (tb W))
    (hsu : ∀ (a : Addr) (pn : List (Addr × Obj)), PSs (X.suite a pn) (b₀ :: suite) ts) :
    PS X (.Try body [.ExceptHandler (some (.Name x np)) (some n) (b₀ :: suite) pos'] [] [] pos) (tTryX X.K c i ts Wout tb) := by
  refine ⟨fun pins s σ H D I h => ?_⟩
  have ok := I.ok
  have hfr : X.A.frames = some (X.env :: X.outer) := by rw [ok.frames, hs]
  have hloc : Loc X.env.scope n := .inl hln
  refine wpAny_Try_except ?_
  refine wpAny_mono ((hb (wX X.K c i ts Wout D) (X.pn ++ pins) (fun e s₁ => wpAny (model X.prog X.w) X.A (noteFrame e X.env) (fun _ s₂ => wpAny (model X.prog X.w) X.A (setFlight e none) (fun _ s₃ =>
    wpAny (model X.prog X.w) X.A (handleBy e X.env [.ExceptHandler (some (.Name x np)) (some n) (b₀ :: suite) pos']) (SP X pins D) X.xe s₃) X.xe s₂) X.xe s₁) (fun u s' xx => ?_) PassesOwn.looking).run [] s σ H D (I.toTry _) h) (fun f s1 hsp => ?_) (fun e s1 he => he)
  · -- the catch
    obtain ⟨a, B, sI, pins', σ', H', cls, d, rfl, J', nb, up, sky, na, os, ag, b, hb1, hyes, hno⟩ := xx
    have J : Inv X pins σ' H' sI := J'.ofTry ok
    have sky' : Sky B (X.env :: X.outer) a (Zc cls d) X.env.locals s'.heap := by rw [← hs]; exact sky
    show wpAny (model X.prog X.w) X.A (noteFrame (.ref a) X.env) _ _ _
    refine Sky.land Zc.steady hfr hf sky' fun h3 fl3 up3 => ?_
    have J3 : Inv X pins σ' H' { s' with heap := h3 } := J.landed nb fl3.1 (up.trans up3) os ag
    obtain ⟨oe3, vs3, he3, hz3, hd3⟩ := fl3.there
    have notFr : ∀ {h : Heap} {o : Obj} {vs : Array Value}, h.FunFrames B (X.env :: X.outer) → h.get? a = some o → o.data = .fields vs → a ∉ frs (X.env :: X.outer) := fun {h o vs} ff e dd hm => by
      obtain ⟨_, o', e', hnf⟩ := ff.mem hm
      rw [e] at e'; cases e'
      exact hnf _ dd
    have nfr := notFr fl3.2.2.1 he3 hd3
    have nL : a ≠ X.env.locals := fun z => nfr (List.mem_filterMap.mpr ⟨X.env, List.mem_cons_self, by rw [hf, z]⟩)
    have nF : a ∉ X.fs := fun hm => by
      obtain ⟨e, he, q⟩ := List.mem_filterMap.mp hm
      exact nfr (List.mem_filterMap.mpr ⟨e, List.mem_cons_of_mem _ he, q⟩)
    have nI : sI.heap.get? a = none := by
      cases e : sI.heap.get? a with
      | none => rfl
      | some o =>
        have q := nb a o e (by rw [hs]; exact nfr)
        rw [fl3.2.1] at q; cases q
    have S3 := J3.suite he3 hd3 na nL nF
    refine wpAny_handleBy_cons (codeAny_handlers_test ?_) (by intro q; cases q)
    have LT : PySem.W.Looks (model X.prog X.w) h3 (typeOf (.ref a)) cls := fun A Q E s k q => wpAny_typeOf_ref (k _ _ he3) (by rw [hz3.1]; exact q)
    have LM := PySem.W.exm_one (M := model X.prog X.w) (J3.kIn) LT hb1
    have test : ∀ {Q : Value → Shared → Prop} {E : Value → Shared → Prop}, Q c { s' with heap := h3 } → wpAny (model X.prog X.w) (X.A.mark (some (.ref a))) (eval (.Name x np) X.env) Q E { s' with heap := h3 } := fun {Q E} q => by
      obtain ⟨hg, hdbg, hm | ⟨hm, hv, hnn⟩⟩ := hc
      · exact ld_glob (X := X.suite a ((a, oe3) :: (X.pn ++ pins))) S3 hg hm q hdbg
      · exact ld_blt (X := X.suite a ((a, oe3) :: (X.pn ++ pins))) S3 hg hm hv q hnn hdbg
    refine test (LM.here ?_)
    cases b with
    | true =>
      refine codeAny_handlers_suite_as ?_
      refine HandSPX.lands_againZ fl3 fun h4 fl4 up4 => ?_
      have J4 : Inv X pins σ' H' { s' with heap := h4 } := J.landed nb fl4.1 ((up.trans up3).trans up4) os ag
      obtain ⟨oe4, vs4, he4, hz4, hd4⟩ := fl4.there
      have S4 : Inv (X.suite a (X.pn ++ pins)) [] σ' (upd H' a (xco a cls d)) { s' with heap := h4 } := suiteT (track J J4 nI na (xco_ok he4 hz4 hd4)) a
      refine store_ok (X := X.suite a (X.pn ++ pins)) (v := .ref a) S4 hN hi hloc rfl (fun s5 S5 => ?_) (.inr hln)
      refine wpAny_mono ((hsu a (X.pn ++ pins)).run [] s5 _ _ _ S5 (hyes rfl a na)) (fun f s6 hsp => ?_) (fun _ _ z => False.elim z)
      have end_ : ∀ {σ6 : L2.St} {H6 : Hp} {Q : Shared → Prop}, Inv (X.suite a (X.pn ++ pins)) [] σ6 H6 s6 → (∀ s7, Inv X pins (σ6.set i none) H6 s7 → Q s7) →
          wpAny (model X.prog X.w) X.A (do bindName X.env n .none; unbindBehindTheSuite X.env n pos') (fun _ s7 => Q s7) X.xe s6 := fun {σ6 H6 Q} S6 hq => gone_ok (unsuiteT S6 ok) hN hi hln hq
      cases f with
      | next =>
        obtain ⟨σ6, H6, S6, q6⟩ := hsp
        exact end_ S6 fun s7 J7 => ⟨_, _, J7, q6⟩
      | brk =>
        obtain ⟨σ6, H6, S6, q6⟩ := hsp
        exact end_ S6 fun s7 J7 => ⟨_, _, J7, q6⟩
      | cont =>
        obtain ⟨σ6, H6, S6, q6⟩ := hsp
        exact end_ S6 fun s7 J7 => ⟨_, _, J7, q6⟩
      | ret u =>
        obtain ⟨v6, σ6, H6, S6, r6, q6⟩ := hsp
        exact end_ S6 fun s7 J7 => ⟨_, _, _, J7, r6, q6⟩
    | false =>
      show wpAny _ X.A (handleBy (.ref a) X.env []) _ _ _
      refine wpAny_handleBy_nil ?_
      obtain ⟨k1, k2, k3, oe, vs, T, oT, ts', he, hz, hd, h1, hr⟩ := id fl3
      unfold PySem.passOn
      refine wpAny_bind (wpAny_field he hd h1 ?_)
      rw [if_neg (show ¬ ((Value.ref T == Value.none) = true) from by simp)]
      have fin : wpAny (model X.prog X.w) X.A (setFlight (.ref a) X.env.frame) (fun _ s4 => wpAny (model X.prog X.w) X.A (throw (.ref a) : Sem Flow) (SP X pins D) X.xe s4) X.xe { s' with heap := h3 } := by
        rw [hf]
        refine HandSPX.setFlight_upZ fl3 fun h4 hh4 up4 => wpAny_throw (tk _ _ ?_)
        exact ⟨a, B, sI, pins, σ', H', cls, d, rfl, J, nb, (up.trans up3).trans up4, .inr (.inr (by rw [hs]; exact hh4)), na, os, ag, hno rfl⟩
      first
        | exact wpAny_bind (wpAny_pure (wpAny_bind fin))
        | exact wpAny_bind fin
  · cases f with
    | next =>
      obtain ⟨σ', H', J', q⟩ := hsp
      exact wpAny_execs_nil ⟨σ', H', J'.ofTry ok, q⟩
    | brk =>
      obtain ⟨σ', H', J', q⟩ := hsp
      exact ⟨σ', H', J'.ofTry ok, q⟩
    | cont =>
      obtain ⟨σ', H', J', q⟩ := hsp
      exact ⟨σ', H', J'.ofTry ok, q⟩
    | ret u =>
      obtain ⟨v, σ', H', J', r, q⟩ := hsp
      exact ⟨v, σ', H', J'.ofTry ok, r, q⟩
end
section
variable {K : PySem.W.Frag} {c : Value} {i : Nat} {tb : WX → TS} {ts : TS} {Wout : WX} {D : Ends} {σ : L2.St} {H : Hp} {cls : Value} {d : Option Addr}
theorem go_tryX (h : tb (wX K c i ts Wout D) D σ H) : tTryX K c i ts Wout tb D σ H := h
/-- it is caught -/
theorem go_wX (e : PySem.W.exmOne K cls c = some true) (h : ∀ a H2, H a = none → Ed [] H H2 → H2 a = some (xco a cls d) → ts { nx := fun σ' H' => D.nx (σ'.set i none) H', rt := D.rt, bk := fun σ' H' => D.bk (σ'.set i none) H', ct := fun σ' H' => D.ct (σ'.set i none) H' } (σ.set i (some (.ref a))) H2) : wX K c i ts Wout D cls d σ H :=
  ⟨true, e, fun _ a na => h a _ na (Ed.new na) upd_same, fun q => nomatch q⟩
end
/-! ### isinstance of a tracked error, its fields -/
/-- what the heap tells of the error at a: its class at C, its dict with the fields fs -/
structure ErrAt (H : Hp) (a C : Addr) (fs : List (Str × V)) : Prop where
  ex : ∃ dd, H a = some (xco a (.ref C) (some dd)) ∧ H dd = some (.xd fs)
theorem ErrAt.ed {H H' : Hp} {a C : Addr} {fs : List (Str × V)} {S : List Addr} (e : Ed S H H') (hS : ∀ b ∈ S, ∃ o, H b = some o ∧ (∀ cls d, o ≠ xco a cls d) ∧ ∀ fs, o ≠ .xd fs) (h : ErrAt H a C fs) : ErrAt H' a C fs := by
  obtain ⟨dd, h1, h2⟩ := h
  refine ⟨dd, e.keep _ _ (fun z => ?_) h1, e.keep _ _ (fun z => ?_) h2⟩
  · obtain ⟨o, q, n, _⟩ := hS _ z
    rw [h1] at q; cases q; exact n _ _ rfl
  · obtain ⟨o, q, _, n⟩ := hS _ z
    rw [h2] at q; cases q; exact n _ rfl
theorem ErrAt.ed0 {H H' : Hp} {a C : Addr} {fs : List (Str × V)} (e : Ed [] H H') (h : ErrAt H a C fs) : ErrAt H' a C fs := h.ed e fun _ z => nomatch z
theorem ErrAt.of {H0 H : Hp} {a C dd : Addr} {fs : List (Str × V)} (h1 : H a = some (xco a (.ref C) (some dd))) (e : Ed [] H0 H) (h2 : H0 dd = some (.xd fs)) : ErrAt H a C fs := ⟨dd, h1, e.at0 h2⟩
theorem err_inst {X : Cx} {pins : List (Addr × Obj)} {σ : L2.St} {H : Hp} {s : Shared} {a C : Addr} {fs : List (Str × V)} (I : Inv X pins σ H s) (h : ErrAt H a C fs) : ∃ ox od, PySem.W.InstAt s.heap a ox C (some od) ∧ ∀ f, ∃ mf, PySem.W.lookIn f od = some mf ∧ RelO (fs.lookup f) mf := by
  obtain ⟨dd, h1, h2⟩ := h
  obtain ⟨oe, vs, ho, hz, hd⟩ := xco_at I.hok h1
  have hx : ObjOk X.prog X.w H s.heap dd (.xd fs) := I.hok dd _ h2
  obtain ⟨mA, hns, hr⟩ := hx
  obtain ⟨od, hod, hl⟩ := lookIn_ns hns
  exact ⟨oe, od, ⟨ho, hz.1, by unfold PySem.W.notCls; rw [hd] <;> rfl, by rw [hz.2]; exact hod⟩, fun f => ⟨mA f, hl f, hr f⟩⟩
/-- isinstance(e, C), e a tracked error -/
def rIsT (K : PySem.W.Frag) : List V → Hp → VK → Prop := fun xs H Q => ∃ (a D : Addr) (fs : List (Str × V)) (c : V) (cv : Value) (b : Bool), ErrAt H a D fs ∧ ExcC K D ∧ xs = [.ref a, c] ∧ (∀ u, RelV c u → u = cv) ∧ PySem.W.kitOne K (.ref D) cv = some b ∧ Q (.bl b) H
theorem err_clsIn {K : PySem.W.Frag} {D : Addr} (C : ExcC K D) : (PySem.W.clsIn K D).isSome = true := by obtain ⟨cd, hc, _⟩ := PySem.W.any_some C.hd; rw [hc]; rfl
theorem call_isT {X : Cx} : CallR X (.builtin "isinstance") (rIsT X.K) := by
  intro pins s σ H xs us Q I r h
  obtain ⟨a, D, fs, c, cv, b, hE, C, rfl, hcv, e, q⟩ := h
  cases r with
  | cons rx rr =>
    cases rr with
    | cons rt rr =>
      cases rr
      cases rx
      have ec := hcv _ rt
      subst ec
      obtain ⟨ox, od, J, _⟩ := err_inst I hE
      exact PySem.W.kia_one (PySem.W.kitx_exc (err_clsIn C) C.hg C.hk C.hs C.ha C.hn C.ht C.hm) I.kIn J e (fun z => nomatch z) fun tk => ⟨.bl b, H, I.tok tk, rfl, q⟩
/-- isinstance(e, (C1, C2, ..)) -/
def rIsTT (K : PySem.W.Frag) : List V → Hp → VK → Prop := fun xs H Q => ∃ (a D tp : Addr) (fs : List (Str × V)) (cs : List V) (ws : List Value) (b : Bool), ErrAt H a D fs ∧ ExcC K D ∧ xs = [.ref a, .ref tp] ∧ H tp = some (.tup cs) ∧ (∀ us, Vals cs us → us = ws) ∧ PySem.W.kitAny K (.ref D) ws = some b ∧ Q (.bl b) H
theorem call_isTT {X : Cx} : CallR X (.builtin "isinstance") (rIsTT X.K) := by
  intro pins s σ H xs us Q I r h
  obtain ⟨a, D, tp, fs, cs, ws, b, hE, C, rfl, hT, hcv, e, q⟩ := h
  cases r with
  | cons rx rr =>
    cases rr with
    | cons rt rr =>
      cases rr
      cases rx
      cases rt
      obtain ⟨ox, od, J, _⟩ := err_inst I hE
      obtain ⟨_, its, rv, o, h1, h2, n, h3⟩ := (show ObjOk X.prog X.w H s.heap tp (.tup cs) from I.hok tp _ hT)
      have e3 := hcv _ rv
      subst e3
      obtain ⟨oc, od', dt, sl⟩ := o
      simp only at h2 h3
      subst h2 h3
      exact PySem.W.kia_tup (PySem.W.kitx_exc (err_clsIn C) C.hg C.hk C.hs C.ha C.hn C.ht C.hm) I.kIn J h1 e (fun z => nomatch z) fun tk => ⟨.bl b, H, I.tok tk, rfl, q⟩
/-- e.f -/
def tXfT (K : PySem.W.Frag) (f : Str) (te : TE) : TE := fun σ H Q => te σ H fun x H1 => ∃ (a C : Addr) (fs : List (Str × V)) (v : V), x = .ref a ∧ ErrAt H1 a C fs ∧ XfC K C ∧ PySem.W.findIn K (.ref C) f = some none ∧ fs.lookup f = some v ∧ Q v H1
theorem pe_xfT {X : Cx} {e : Expr} {te : TE} {pos : Pos} {n : Str} (he : PE X e te) (hb : attributeBase e n X.env (eval e X.env) = eval e X.env := by rfl) : PE X (.Attribute e n pos) (tXfT X.K n te) := by
  refine ⟨fun pins s σ H Q I h => ?_⟩
  refine attr_of hb (thn (he.run pins s σ H _ I h) fun u s1 hh => ?_)
  obtain ⟨x, H1, I1, rx, a, C, fs, v, ex, hE, T, hno, l, q⟩ := hh
  subst ex
  obtain rfl : u = Value.ref a := rx
  obtain ⟨ox, od, J, hl⟩ := err_inst I1 hE
  obtain ⟨mf, hm, hr⟩ := hl n
  obtain ⟨u, hu, ru⟩ := RelO.some_of (v := v) (o := mf) (by rw [← l]; exact hr)
  exact HandSPX.exc_get I1.kIn J T.ga T.gg T.exC (PySem.W.findObj_own T.hdC hno rfl (by rw [hm, hu])) (handed_of ru) ⟨v, H1, I1.tok _, ru, q⟩
section
variable {K : PySem.W.Frag} {a D : Addr} {fs : List (Str × V)} {H : Hp} {Q : VK} {b : Bool}
theorem go_isTC {c : Addr} (hE : ErrAt H a D fs) (C : ExcC K D) (hk : PySem.W.kitOne K (.ref D) (.ref c) = some b) (q : Q (.bl b) H) : rIsT K [.ref a, .ref c] H Q :=
  ⟨a, D, fs, .ref c, .ref c, b, hE, C, rfl, fun _ r => r, hk, q⟩
theorem go_isTT {t : String} (hE : ErrAt H a D fs) (C : ExcC K D) (hk : PySem.W.kitOne K (.ref D) (.type t) = some b) (q : Q (.bl b) H) : rIsT K [.ref a, .ty t] H Q :=
  ⟨a, D, fs, .ty t, .type t, b, hE, C, rfl, fun _ r => r, hk, q⟩
theorem go_xfT {f : Str} {te : TE} {σ : L2.St} (h : te σ H fun x H1 => ∃ (a C : Addr) (fs : List (Str × V)) (v : V), x = .ref a ∧ ErrAt H1 a C fs ∧ XfC K C ∧ PySem.W.findIn K (.ref C) f = some none ∧ fs.lookup f = some v ∧ Q v H1) : tXfT K f te σ H Q := h
theorem go_xfTV {f : Str} {v : V} {R : V → Prop} (hE : ErrAt H a D fs) (T : XfC K D) (no : PySem.W.findIn K (.ref D) f = some none) (l : fs.lookup f = some v) (h : R v) :
    ∃ (a' C : Addr) (fs : List (Str × V)) (v : V), V.ref a = .ref a' ∧ ErrAt H a' C fs ∧ XfC K C ∧ PySem.W.findIn K (.ref C) f = some none ∧ fs.lookup f = some v ∧ R v := ⟨a, D, fs, v, rfl, hE, T, no, l, h⟩
end
/-! ### defs that are also called while an error is being handled (they raise nothing) -/
structure FnHt (P : Program) (w : World) (K : PySem.W.Frag) (mg : Str → Option Value) (base : Heap) (k : Nat) (f : Addr) (fd : FuncData) (ps : List Str) (sp : Sp) : Prop where
  len : ∀ vs H Q E, sp vs H Q E → vs.length = ps.length
  run : ∀ (A : Around) (outer : List Env) (s : Shared) (H : Hp) (args : Args) (us : List Value) (vs : List V) (Q : VK) (E : XK), L2H.RoomH k A → Env0 P w K mg base A outer s H → BindsTo s fd args (ps.zip us) → Vals vs us → sp vs H Q E →
    codeAny (model P w) A (.call (.ref f) args) (CR CX0 outer P w H s Q E) s
theorem FnHt.ok {P : Program} {w : World} {K : PySem.W.Frag} {mg : Str → Option Value} {base : Heap} {k : Nat} {f : Addr} {fd : FuncData} {ps : List Str} {sp : Sp} (F : FnHt P w K mg base k f fd ps sp) : FnOk P w K mg base CX0 k f fd ps sp :=
  ⟨F.len, fun A outer s H args us vs Q E hr => F.run A outer s H args us vs Q E (L2H.roomH_of hr)⟩
/-- the context of such a def's body -/
def cxT (P : Program) (w : World) (K : PySem.W.Frag) (mg : Str → Option Value) (base : Heap) (N : List Str) (qual : Str) (scope : Scope) (f : Addr) (cd : Value) (A : Around) (outer : List Env) (s : Shared) (H : Hp) (E : XK) : Cx :=
  { cxOf CX0 P w K mg base N qual scope f cd A outer s H E with calm := false }
theorem inv_startT {P : Program} {w : World} {K : PySem.W.Frag} {mg : Str → Option Value} {base : Heap} {N ps : List Str} {qual : Str} {scope : Scope} {f : Addr} {cd : Value} {A : Around} {outer : List Env} {s s1 : Shared} {H : Hp} {E : XK} {us : List Value} {vs : List V}
    (S : FnScope N ps scope) (e0 : Env0 P w K mg base A outer s H) (hl : vs.length = ps.length) (r : Vals vs us)
    (x : InCallC s s.heap.objs.size (bindL (envOfC qual scope s.heap.objs.size f cd).kindOf (ps.zip us) fun _ => none) (cellsFrom (s.heap.objs.size + 1) scope.names []) (bindC (envOfC qual scope s.heap.objs.size f cd).kindOf (ps.zip us) fun _ => none) s1) :
    Inv (cxT P w K mg base N qual scope f cd A outer s H E) [] (L2.start N vs) H s1 := by
  have hpl : ps.length ≤ N.length := by have := congrArg List.length S.pre; rw [List.length_take] at this; omega
  obtain ⟨h1, tk, rfl, hk⟩ := x.done
  have noA : ∀ b : Addr, b ∉ (cxT P w K mg base N qual scope f cd A outer s H E).ex := fun b z => absurd (show b ∈ ([] : List Addr) from z) (by simp)
  refine ⟨⟨e0.mod, S.kind, rfl, rfl, Nat.le_refl _, fun y z c h1 h2 => ?_, fun y hy => ?_, fun y c _ h => ?_, (fun z => Bool.noConfusion (show false = true from z)), Around.frames_deeper e0.frames, .inr ⟨rfl, rfl⟩, fun b z => absurd z (noA b), e0.bs, e0.bsz, fun b _ _ => noA b, fun b z => absurd z (noA b), e0.funs, e0.frf⟩,
    rfl, e0.bare, Un.kept hk, ⟨_, x.toInCall.ns, fun i y v h1 h2 h3 => ?_⟩, fun y c h => ⟨_, x.cell y c h⟩, e0.hok.fresh (Nat.le_refl _), fun y c h => ?_, fun q hq => ?_, e0.hok.kept hk, ?_⟩
  · exact name_of_addr x.apart (PySem.mem_of_lookup h1) (PySem.mem_of_lookup h2)
  · have hy : scope.names.lookup y = some .cell ∨ scope.names.lookup y = some .free := hy
    rcases hy with hy | hy
    · exact cell_has hy
    · exact absurd rfl (S.nofree _ (PySem.mem_of_lookup hy))
  · exact Nat.le_of_lt (x.above y c (PySem.mem_of_lookup h))
  · have hi : i < vs.length := by
      unfold L2.start at h2
      by_cases hi : i < vs.length
      · exact hi
      · rw [List.getElem?_append_right (by simpa using hi)] at h2
        rw [List.getElem?_replicate] at h2
        split at h2 <;> cases h2
    have ha : vs[i]? = some v := by
      unfold L2.start at h2
      rw [List.getElem?_append_left (by simpa using hi), List.getElem?_map] at h2
      cases e : vs[i]? with
      | none => rw [e] at h2; cases h2
      | some a => rw [e] at h2; cases h2; rfl
    obtain ⟨u, hu, rv⟩ := r.get ha
    have hp : ps[i]? = some y := by
      rw [← S.pre, List.getElem?_take_of_lt (by omega)]; exact h1
    have ndP : ps.Nodup := by rw [← S.pre]; exact S.nd.sublist (List.take_sublist _ _)
    refine ⟨u, rv, ?_⟩
    rcases S.par y (List.mem_of_getElem? hp) with k | k
    · exact .inl ⟨k, bindL_get ndP hp hu k⟩
    · obtain ⟨c, e⟩ := cell_has (n := s.heap.objs.size + 1) k
      refine .inr ⟨.inl k, c, e, ?_⟩
      have q := x.cell y c e
      rw [bindC_get ndP hp hu (by show scope.names.lookup y ≠ _; rw [k]; decide)] at q
      exact q
  · exact e0.hok.fresh (Nat.le_of_lt (x.above y c (PySem.mem_of_lookup h)))
  · exact absurd (show q ∈ ([] : List (Addr × Obj)) from hq) (by simp)
  · unfold L2.start
    show _ = N.length
    rw [List.length_append, List.length_map, List.length_replicate]
    omega
theorem Fun.okH {P : Program} {w : World} {K : PySem.W.Frag} {mg : Str → Option Value} {base : Heap} {x qual : Str} {st : Stmt} {f : Addr} {fd : FuncData} {N ps : List Str} {k : Nat} {sp : Sp} (F : Fun K x qual st f fd) (S : FnScope N ps (defScope st)) (len : ∀ vs H Q E, sp vs H Q E → vs.length = ps.length)
    (hbody : ∀ (cdv : Value) (A : Around) (outer : List Env) (s : Shared) (H : Hp) (vs : List V) (Q : VK) (E : XK), L2H.RoomH k (A.deeper (envOfC qual (defScope st) s.heap.objs.size f cdv)) → sp vs H Q E →
      ∃ t, PSs (cxT P w K mg base N qual (defScope st) f cdv A outer s H E).nox (defBody st) t ∧ t { nx := fun _ H' => Q .non H', rt := Q } (L2.start N vs) H) : FnHt P w K mg base (k + 1) f fd ps sp := by
  obtain ⟨oc, od, kV, doc, pm, an, cdv, ct, osl, rfl, lk, hcd⟩ := F.ex
  refine ⟨len, fun A outer s H args us vs Q E hr e0 hb r hsp => ?_⟩
  have hl := len _ _ _ _ hsp
  have KX : K.In s.heap := e0.mod.kin.keeps fun b o e => (e0.bs b o e).1
  have lim : s.heap.NoLimit := e0.mod.nolimit.keeps fun b o e => (e0.bs b o e).1
  have hkind : ∀ y ∈ ps.zip us, (defScope st).names.lookup y.1 = some .local ∨ ((defScope st).names.lookup y.1 = some .cell ∧ ((cellsFrom (s.heap.objs.size + 1) (defScope st).names []).lookup y.1).isSome = true) := fun ⟨n, v⟩ hy => by
    rcases S.par n (List.of_mem_zip hy).1 with q | q
    · exact .inl q
    · exact .inr ⟨q, PySem.W.cellsFrom_some _ _ _ (.inl q)⟩
  refine codeAny_call_function hr.depth (KX _ _ lk) rfl S.co S.gen rfl (PySem.W.codeRec_of KX hcd) (hb _ _ _ _ ?_)
  refine wpAny_newFunctionEnv_cells S.kind hkind fun env he s1 x => ?_
  subst he
  refine ⟨lim.keeps x.toInCall.keep, codeAny_func ?_⟩
  obtain ⟨t, ht0, hq⟩ := hbody cdv A outer s H vs Q E (hr.deeper _) hsp
  have ht := ht0.nox
  have I : Inv (cxT P w K mg base N qual (defScope st) f cdv A outer s H E) [] (L2.start N vs) H s1 := inv_startT S e0 hl r x
  refine wpAny_mono (ht.run [] s1 (L2.start N vs) H _ I hq) (fun fl s' hs => ?_) fun e s' hs => hs
  have fin : ∀ {σ' : L2.St} {H' : Hp} {v : V} {u : Value}, Inv (cxT P w K mg base N qual (defScope st) f cdv A outer s H E) [] σ' H' s' → RelV v u → Q v H' → CE outer P w H s Q u s' :=
    fun {σ' H' v u} J rv q => ⟨v, H', J.os, J.bare, J.base, J.hok, rv, q⟩
  cases fl with
  | ret u =>
    obtain ⟨v, σ', H', J, rv, q⟩ := hs
    exact fin J rv q
  | next =>
    obtain ⟨σ', H', J, q⟩ := hs
    exact fin (v := V.non) (u := Value.none) J rfl q
  | brk =>
    obtain ⟨_, _, _, q⟩ := hs
    exact False.elim q
  | cont =>
    obtain ⟨_, _, _, q⟩ := hs
    exact False.elim q
section
variable {X : Cx} {k : Nat} {f : Addr} {fd : FuncData} {ps : List Str} {sp : Sp} {x : Str} {q pos : Pos} {e : Expr} {es : List Expr} {t : TA}
/-- f(e, ..), also while an error is being handled -/
theorem pe_callT (F : FnHt X.prog X.w X.K X.mg X.base k f fd ps sp) (hr : L2H.RoomH k X.A) (hg : Gl X x) (hm : X.mg x = some (.ref f)) (hk : PySem.W.keepIn X.K (.ref f) = true) (hb : Binds X.K fd ps [])
    (ha : PA X (e :: es) t) (hdb : (x == ("__debug__" : Str)) = false := by decide) (he : starEach (e :: es) X.env = (false, eval e X.env) :: starEach es X.env := by rfl) (hpl : (backTo pos (starEach es X.env)).any (·.1) = false := by rfl) :
    PE X (.Call (.Name x q) (e :: es) [] pos) (tCall sp [] E0 t) := by
  refine ⟨fun pins s σ H Q I h => ?_⟩
  refine wpAny_Call_Name_kw (ld_glob I hg hm ?_ hdb)
  refine PySem.W.callWith_K (h₀ := X.base) I.ok.mod.kin hk (thn (ha.run pos pins s σ H _ I h) fun us s1 ⟨vs, H1, I1, r, q⟩ => ⟨I1.kIn, ?_⟩) he hpl
  have q : sp (vs ++ []) H1 Q E0 := q
  rw [List.append_nil] at q
  have hl : us.length = ps.length := by rw [← r.length]; exact F.len _ _ _ _ q
  have b := hb s1 us I1.kIn (by rw [List.append_nil]; exact hl)
  rw [List.append_nil] at b
  refine wpAny_call (codeAny_mono (F.run X.A X.stack s1 H1 ⟨us, []⟩ us vs Q E0 hr I1.env0 b r q) fun r s' hq => ?_)
  cases r with
  | error e => exact hq.elim
  | ok fl =>
    cases fl with
    | ret u => exact I1.after hq
    | next => exact False.elim hq
    | brk => exact False.elim hq
    | cont => exact False.elim hq
end
theorem roomH_mark {k : Nat} {A : Around} {v : Option Value} (r : L2H.RoomH k A) : L2H.RoomH k (A.mark v) := ⟨r.dp, r.un⟩
/-- the same, the written part named (in an except suite the reading may not name the suite's own place) -/
theorem call_isTK {X : Cx} {K : PySem.W.Frag} (h : X.K = K) : CallR X (.builtin "isinstance") (rIsT K) := h ▸ call_isT
theorem pe_xfTK {X : Cx} {K : PySem.W.Frag} {e : Expr} {te : TE} {pos : Pos} {n : Str} (h : X.K = K) (he : PE X e te) (hb : attributeBase e n X.env (eval e X.env) = eval e X.env := by rfl) : PE X (.Attribute e n pos) (tXfT K n te) := h ▸ pe_xfT he hb
end Vc

/-! Xo: operators of own classes: ==, a property stored (my own; ways of HandS.OwnEq and HandS.Property). -/
namespace Vc
open PySem PySem.Spec PyProof.Rows L2
/-! ### a == b by a's own __eq__ -/
structure EqM (K : PySem.W.Frag) (C g : Addr) : Prop where
  at_ : PySem.W.findIn K (.ref C) "__eq__" = some (some (.ref g))
  fn : PySem.W.isFn K (.ref g) = true
def rEqO (K : PySem.W.Frag) (C : Addr) (sp : Sp) : R2 := fun x y H Q => ∃ (a dx : Addr) (fs : List (Str × V)) (t : Value), x = .ref a ∧ H a = some (.ins C dx fs) ∧ TyX K H y t ∧ PySem.W.notFirst K C t = true ∧ sp [x, y] H (fun v H' => ∃ b, v = .bl b ∧ Q (.bl b) H') E0
theorem op_eqO {X : Cx} {C g : Addr} {fd : FuncData} {ps : List Str} {sp : Sp} {n : Nat} (F : FnOk X.prog X.w X.K X.mg X.base CX0 n g fd ps sp) (hr : Room n X.A) (m : EqM X.K C g) (hb : Binds X.K fd ps []) : OpR X (compareOp .Eq) (rEqO X.K C sp) := by
  intro pins s σ H x y v u Q I rx ry hq
  obtain ⟨a, dx, fs, t, rfl, ha, ty, nf, q⟩ := hq
  cases rx
  show wpAny (model X.prog X.w) X.A (richCompare .Eq (.ref a) u) (EP X pins σ Q) X.xe s
  obtain ⟨mA, J, _⟩ := ins_get I.hok ha
  obtain ⟨od, J, _⟩ := J.look
  obtain ⟨_, Z, p, _⟩ := kit_of I ry ty
  obtain ⟨mm, hF⟩ := I.fr
  refine PySem.W.cmp_K (op := .Eq) (tb := t) hr.units0 hF I.ok.mod.kin J (Z.ty _ _ I.kIn p) nf m.at_ m.fn ?_
  have hl := F.len _ _ _ _ q
  have r2 : Vals [V.ref a, y] [Value.ref a, u] := .cons rfl (.cons ry .nil)
  have hb' := hb s [.ref a, u] I.kIn (by simpa using hl)
  rw [List.append_nil] at hb'
  refine wpAny_call (codeAny_mono (F.run X.A X.stack s H ⟨[.ref a, u], []⟩ [.ref a, u] [.ref a, y] _ E0 hr I.env0 hb' r2 q) fun r s' hq => ?_)
  cases r with
  | error e => exact hq.elim
  | ok fl =>
    cases fl with
    | ret w =>
      obtain ⟨z, H', I', rz, b, ez, qz⟩ := I.after hq
      subst ez
      cases rz
      exact ⟨.bl b, H', I', rfl, qz⟩
    | next => exact False.elim hq
    | brk => exact False.elim hq
    | cont => exact False.elim hq
/-! ### o.f = e, f a property with a setter -/
structure PropSet (K : PySem.W.Frag) (C : Addr) (f : Str) (p g : Addr) : Prop where
  tk : PySem.W.takerIn K C f = some (some (.ref p))
  ty : PySem.W.typeIn K (.ref p) = some (.type "property")
  rec_ : ∃ a rest, PySem.W.recIn K p "property" = some (a :: .ref g :: rest)
def tSetP (C : Addr) (sp : Sp) (E : L2.St → XK) (to te : TE) : TS := fun D σ H => te σ H fun y H1 => to σ H1 fun x H2 => ∃ (a dx : Addr) (fs : List (Str × V)), x = .ref a ∧ H2 a = some (.ins C dx fs) ∧ sp [.ref a, y] H2 (fun _ H3 => D.nx σ H3) (E σ)
theorem ps_fldP {X : Cx} {CX : CXT} {C p g : Addr} {f : Str} {fd : FuncData} {ps : List Str} {sp : Sp} {n : Nat} {E : L2.St → XK} {o e : Expr} {to te : TE} {p' pos : Pos} (c : Cls X.K C) (m : PropSet X.K C f p g) (F : FnOk X.prog X.w X.K X.mg X.base CX n g fd ps sp) (hr : Room (n + 2) X.A) (hb : Binds X.K fd ps []) (hx : ∀ σ, PassesAt CX X σ (E σ))
    (ho : PE X o to) (he : PE X e te) (hs : swapsWith e (some (.Attribute o f p')) pos.line X.env = pure false := by rfl) : PS X (.Assign [.Attribute o f p'] e pos) (tSetP C sp E to te) := by
  refine ⟨fun pins s σ H D I h => ?_⟩
  refine plainObj_wpAny_Assign_Attribute (thn (he.run pins s σ H _ I h) fun v s1 ⟨y, H1, I1, r1, q1⟩ => thn (ho.run pins s1 σ H1 _ I1 q1) fun u s2 ⟨x, H2, I2, r2, a, dx, fs, ex, ea, q⟩ => ?_) hs
  subst ex
  obtain rfl : u = Value.ref a := r2
  obtain ⟨mA, J, _⟩ := ins_get I2.hok ea
  obtain ⟨od, J, _⟩ := J.look
  obtain ⟨mm, hF⟩ := I2.fr
  obtain ⟨b, rest, hrec⟩ := m.rec_
  have I3 := I2.tok (s2.toks + 1)
  have hl := F.len _ _ _ _ q
  have hb' := hb { s2 with toks := s2.toks + 1 } [.ref a, v] I3.kIn (by simpa using hl)
  rw [List.append_nil] at hb'
  refine PySem.W.set_prop hF I.ok.mod.kin J c.sa c.po m.tk m.ty hrec ?_
  refine codeAny_mono (F.run X.A.in1.in1 X.stack { s2 with toks := s2.toks + 1 } H2 ⟨[.ref a, v], []⟩ [.ref a, v] [.ref a, y] _ (E σ) hr.in1.in1 I3.env0.in1.in1 hb' (.cons rfl (.cons r1 .nil)) q) fun r s' hq => ?_
  cases r with
  | error er => exact hx σ pins H2 { s2 with toks := s2.toks + 1 } er s' I3 hq
  | ok fl =>
    cases fl with
    | ret w =>
      obtain ⟨z, H', I', rz, qz⟩ := I3.after hq
      exact ⟨σ, H', I', qz⟩
    | next => exact False.elim hq
    | brk => exact False.elim hq
    | cont => exact False.elim hq
section
variable {K : PySem.W.Frag} {H : Hp} {Q : VK} {a C dx : Addr} {fs : List (Str × V)} {y : V} {t : Value} {sp : Sp}
theorem go_eqO (ha : H a = some (.ins C dx fs)) (ty : TyX K H y t) (nf : PySem.W.notFirst K C t = true) (h : sp [.ref a, y] H (fun v H' => ∃ b, v = .bl b ∧ Q (.bl b) H') E0) : rEqO K C sp (.ref a) y H Q := ⟨a, dx, fs, t, rfl, ha, ty, nf, h⟩
theorem go_setP {E : L2.St → XK} {to te : TE} {D : Ends} {σ : L2.St} (h : te σ H fun y H1 => to σ H1 fun x H2 => ∃ (a dx : Addr) (fs : List (Str × V)), x = .ref a ∧ H2 a = some (.ins C dx fs) ∧ sp [.ref a, y] H2 (fun _ H3 => D.nx σ H3) (E σ)) : tSetP C sp E to te D σ H := h
theorem go_setPV {R : Addr → Prop} (ha : H a = some (.ins C dx fs)) (h : R a) : ∃ (a' dx : Addr) (fs : List (Str × V)), V.ref a = .ref a' ∧ H a' = some (.ins C dx fs) ∧ R a' := ⟨a, dx, fs, rfl, ha, h⟩
theorem ty_ins (ha : H a = some (.ins C dx fs)) (c : C8.InsC K C) : TyX K H (.ref a) (.ref C) := .base (.ins ha c.cl c.ha c.hn c.htk c.hm)
theorem go_isiC {x : V} {c : Addr} {b : Bool} (ht : TyX K H x t) (hk : PySem.W.kitOne K t (.ref c) = some b) (h : Q (.bl b) H) : rIsi K [x, .ref c] H Q := ⟨x, .ref c, t, .ref c, b, rfl, .own c, ht, hk, h⟩
end
/-! ### defaults -/
section
variable {K : PySem.W.Frag} {x qual : Str} {params : Arguments} {body : List Stmt} {scope : Scope} {dvs : List V} {kws : List (Str × V)} {f : Addr} {fd : FuncData} {ps ks : List Str}
theorem bindsAll (F : FunD K x qual params body scope dvs kws f fd) (hd : dvs ≠ [])
    (h : ∀ (T : Addr) (kV doc pm : Value) (an : Option Addr) (cdv ct : Value) (us its : List Value), us.length = ps.length → its.length = dvs.length →
      ∃ k, bindArgs (PySem.W.fnOf x qual params body scope (.ref T) kV doc pm an cdv ct) ⟨us, []⟩ = seqItems? (.ref T) >>= k ∧ k (some its.toArray) = pure (ps.zip us)) : Binds K fd ps [] := by
  obtain ⟨ds, r, b⟩ := F.binds1 (ps := ps) ps.length dvs.length hd (by rw [Nat.sub_self, Nat.add_zero]) (fun T kV doc pm an cdv ct us its l1 l2 => by
    obtain ⟨k, e1, e2⟩ := h T kV doc pm an cdv ct us its l1 l2
    exact ⟨k, e1, by rw [List.drop_of_length_le (Nat.le_of_eq l2), List.append_nil]; exact e2⟩)
  rw [List.drop_of_length_le (Nat.le_refl _)] at r
  cases r
  exact b
theorem kbindsD (F : FunD K x qual params body scope dvs kws f fd) (hd : dvs ≠ []) (g : {α : Type} → List α → List α → List α → List α)
    (hrel : ∀ {vs ds zs : List V} {us its ws : List Value}, Vals ds its → Vals vs us → Vals zs ws → Vals (g ds vs zs) (g its us ws))
    (h : ∀ (T : Addr) (kV doc pm : Value) (an : Option Addr) (cdv ct : Value) (us its ws : List Value), its.length = dvs.length → (g its us ws).length = ps.length →
      ∃ k, bindArgs (PySem.W.fnOf x qual params body scope (.ref T) kV doc pm an cdv ct) ⟨us, ks.zip ws⟩ = seqItems? (.ref T) >>= k ∧ k (some its.toArray) = pure (ps.zip (g its us ws))) :
    ∃ its : List Value, KBinds K fd ps ks (g its) (g dvs) := by
  obtain ⟨oc, od, dV, kV, doc, pm, an, cdv, ct, osl, rfl, lk, hcd, hD, hK⟩ := F.ex
  rcases hD with ⟨e, _⟩ | ⟨_, T, o, its, m, rfl, lT, oT, rT⟩
  · exact absurd e hd
  · refine ⟨its, ⟨fun s us ws X hl => ?_, fun r1 r2 => hrel rT r1 r2⟩⟩
    obtain ⟨k, e1, e2⟩ := h T kV doc pm an cdv ct us its ws rT.length.symm hl
    refine BindsTo.of_looks fun M => ?_
    rw [e1]
    exact looks_items X lT oT (.of_pure e2)
end
/-! ### C(k = v, ..) -/
def tMakeK (C : Addr) (sp : Sp) (gV : List V → List V → List V) (E : XK) (tk : TA) : TE := fun σ H Q => tk σ H fun zs H2 => ∀ x dx, H2 x = none → H2 dx = none → dx ≠ x → sp (gV [.ref x] zs) (upd (upd H2 dx (.own x)) x (.ins C dx [])) (fun v H3 => v = .non ∧ Q (.ref x) H3) E
section
variable {X : Cx} {CX : CXT} {k : Nat} {f C : Addr} {fd : FuncData} {ps ks : List Str} {sp : Sp} {E : XK} {x : Str} {p pos : Pos} {kws : List Keyword} {tk : TA} {g : List Value → List Value → List Value} {gV : List V → List V → List V}
theorem pe_makeK0 (M : Mk X.K C f) (F : FnOk X.prog X.w X.K X.mg X.base CX k f fd ps sp) (hr : Room (k + 1) X.A) (hg : Gl X x) (hm : X.mg x = some (.ref C)) (hb : KBinds X.K fd ps ks g gV) (hx : Passes CX X E)
    (hkw : PK X kws tk) (hall : (backToKw pos (keywordEach kws X.env)).all (·.1.isSome) = true := by rfl) (hks : (backToKw pos (keywordEach kws X.env)).filterMap (·.1) = ks := by rfl)
    (hdb : (x == ("__debug__" : Str)) = false := by decide)
    (hpl : ((backTo pos (starEach [] X.env)).any (·.1) || (backToKw pos (keywordEach kws X.env)).any (·.1.isNone)) = false := by rfl) :
    PE X (.Call (.Name x p) [] kws pos) (tMakeK C sp gV E tk) := by
  refine ⟨fun pins s σ H Q I h => ?_⟩
  refine wpAny_Call_Name_kw (ld_glob I hg hm ?_ hdb)
  refine PySem.W.callWith_KW0 (h₀ := X.base) I.ok.mod.kin M.kp hall (thn (hkw.run pos pins s σ H _ I h) fun ws s2 ⟨zs, H2, I2, rz, q2⟩ => ⟨I2.kIn, ?_⟩) hpl
  rw [hks]
  show wpAny _ _ (call (.ref C) [] (ks.zip ws)) _ _ _
  have hq := q2 (s2.heap.objs.size + 1) s2.heap.objs.size (I2.hok.fresh (Nat.le_succ _)) (I2.hok.fresh (Nat.le_refl _)) (Nat.ne_of_lt (Nat.lt_succ_self _))
  have I3 := Inv.made (C := C) I2
  have r1 : Vals [V.ref (s2.heap.objs.size + 1)] [Value.ref (s2.heap.objs.size + 1)] := .cons rfl .nil
  have r2 := hb.rel r1 rz
  have hl : (g [Value.ref (s2.heap.objs.size + 1)] ws).length = ps.length := by rw [← r2.length]; exact F.len _ _ _ _ hq
  refine wpAny_call (make_map (f := f) I2.kIn M.makes M.init (beq_iff_eq.mp M.fn) (codeAny_mono (F.run _ X.stack _ _ ⟨[Value.ref (s2.heap.objs.size + 1)], ks.zip ws⟩ (g [Value.ref (s2.heap.objs.size + 1)] ws) _ _ E (hr.make C [] (ks.zip ws))
    (I3.env0.make C [] (ks.zip ws)) (hb.to _ [Value.ref (s2.heap.objs.size + 1)] ws I3.kIn hl) r2 hq) fun r s' hq' => ?_))
  cases r with
  | error e => exact hx pins σ _ _ e s' I3 hq'
  | ok fl =>
    cases fl with
    | ret u =>
      obtain ⟨v, H', I4, rv, ev, q3⟩ := I3.after hq'
      subst ev
      exact ⟨rv, ⟨V.ref (s2.heap.objs.size + 1), H', I4, rfl, q3⟩⟩
    | next => exact False.elim hq'
    | brk => exact False.elim hq'
    | cont => exact False.elim hq'
end
theorem go_makeK {C : Addr} {sp : Sp} {gV : List V → List V → List V} {E : XK} {tk : TA} {σ : L2.St} {H : Hp} {Q : VK} (h : tk σ H fun zs H2 => ∀ x dx, H2 x = none → H2 dx = none → dx ≠ x → sp (gV [.ref x] zs) (upd (upd H2 dx (.own x)) x (.ins C dx [])) (fun v H3 => v = .non ∧ Q (.ref x) H3) E) : tMakeK C sp gV E tk σ H Q := h
theorem go_make0 {C : Addr} {sp : Sp} {dvs : List V} {E : XK} {σ : L2.St} {H : Hp} {Q : VK} (h : ∀ x dx, H x = none → H dx = none → dx ≠ x → sp (.ref x :: dvs) (upd (upd H dx (.own x)) x (.ins C dx [])) (fun v H2 => v = .non ∧ Q (.ref x) H2) E) : tMake C sp dvs E tNil σ H Q := h
end Vc

/-! Xq: own classes asked by built-in ways: len(x), y in x (my own; over the library's len_K, in_K). -/
namespace Vc
open PySem PySem.Spec PyProof.Rows L2
section
variable {X : Cx} {C g : Addr} {fd : FuncData} {ps : List Str} {sp : Sp} {n : Nat}
/-- an own special method that promises no error, run -/
theorem runO {A : Around} {pins : List (Addr × Obj)} {σ : L2.St} {s : Shared} {H : Hp} {us : List Value} {vs : List V} {Q : VK} {EE : Value → Shared → Prop} (F : FnOk X.prog X.w X.K X.mg X.base CX0 n g fd ps sp) (hr : Room n A) (hb : Binds X.K fd ps [])
    (I : Inv X pins σ H s) (env0 : Env0 X.prog X.w X.K X.mg X.base A X.stack s H) (r2 : Vals vs us) (q : sp vs H Q E0) :
    wpAny (model X.prog X.w) A (call (.ref g) us) (fun u s' => ∃ z H', Inv X pins σ H' s' ∧ RelV z u ∧ Q z H') EE s := by
  have hl := F.len _ _ _ _ q
  have hb' := hb s us I.kIn (by rw [List.append_nil, ← r2.length]; exact hl)
  rw [List.append_nil] at hb'
  refine wpAny_call (codeAny_mono (F.run A X.stack s H ⟨us, []⟩ us vs _ E0 hr env0 hb' r2 q) fun r s' hq => ?_)
  cases r with
  | error e => exact hq.elim
  | ok fl =>
    cases fl with
    | ret w =>
      obtain ⟨z, H', I', rz, qz⟩ := I.after hq
      exact ⟨z, H', I', rz, qz⟩
    | next => exact False.elim hq
    | brk => exact False.elim hq
    | cont => exact False.elim hq
/-- a class's own special method -/
structure SpM (K : PySem.W.Frag) (C g : Addr) (x : Str) : Prop where
  at_ : PySem.W.findIn K (.ref C) x = some (some (.ref g))
  fn : PySem.W.isFn K (.ref g) = true
/-- len(x) by x's own __len__ -/
def rLenO (C : Addr) (sp : Sp) : List V → Hp → VK → Prop := fun xs H Q => ∃ (a dx : Addr) (fs : List (Str × V)), xs = [.ref a] ∧ H a = some (.ins C dx fs) ∧ sp [.ref a] H (fun v H' => ∃ k : Int, v = .int k ∧ 0 ≤ k ∧ k < 2 ^ 63 ∧ Q (.int k) H') E0
theorem call_lenO (F : FnOk X.prog X.w X.K X.mg X.base CX0 n g fd ps sp) (hr : Room (n + 1) X.A) (m : SpM X.K C g "__len__") (hb : Binds X.K fd ps []) : CallR X (.builtin "len") (rLenO C sp) := by
  intro pins s σ H xs us Q I r h
  obtain ⟨a, dx, fs, rfl, ha, q⟩ := h
  rw [Vals.ref1 r]
  obtain ⟨mA, J, _⟩ := ins_get I.hok ha
  obtain ⟨od, J, _⟩ := J.look
  obtain ⟨mm, hF⟩ := I.fr
  refine PySem.W.len_K hF I.ok.mod.kin J m.at_ m.fn ?_
  refine wpAny_mono (runO (vs := [.ref a]) F hr.in1 hb I I.env0.in1 (.cons rfl .nil) q) (fun u s' hq => ?_) (fun _ _ e => e)
  obtain ⟨z, H', I', rz, k, rfl, k0, k1, qz⟩ := hq
  obtain ⟨t, rfl⟩ := rz
  exact ⟨⟨k0, k1⟩, .int k, H', I'.tok _, ⟨_, rfl⟩, qz⟩
/-- y in x by x's own __contains__ -/
def rInO (C : Addr) (sp : Sp) (b0 : Bool) : R2 := fun y x H Q => ∃ (a dx : Addr) (fs : List (Str × V)), x = .ref a ∧ H a = some (.ins C dx fs) ∧ sp [.ref a, y] H (fun v H' => ∃ b, v = .bl b ∧ Q (.bl (xor b0 b)) H') E0
theorem op_inO (F : FnOk X.prog X.w X.K X.mg X.base CX0 n g fd ps sp) (hr : Room n X.A) (m : SpM X.K C g "__contains__") (hb : Binds X.K fd ps []) : OpR X (compareOp .In) (rInO C sp false) := by
  intro pins s σ H y x v u Q I ry rx h
  obtain ⟨a, dx, fs, rfl, ha, q⟩ := h
  cases rx
  obtain ⟨mA, J, _⟩ := ins_get I.hok ha
  obtain ⟨od, J, _⟩ := J.look
  obtain ⟨mm, hF⟩ := I.fr
  refine PySem.W.in_K hF I.ok.mod.kin J m.at_ m.fn ?_
  refine wpAny_mono (runO (vs := [.ref a, y]) F hr hb I I.env0 (.cons rfl (.cons ry .nil)) q) (fun w' s' hq => ?_) (fun _ _ e => e)
  obtain ⟨z, H', I', rz, b, rfl, qz⟩ := hq
  cases rz
  rw [Bool.false_xor] at qz
  exact wpAny_truthy_bool ⟨.bl b, H', I', rfl, qz⟩
theorem op_notinO (F : FnOk X.prog X.w X.K X.mg X.base CX0 n g fd ps sp) (hr : Room n X.A) (m : SpM X.K C g "__contains__") (hb : Binds X.K fd ps []) : OpR X (compareOp .NotIn) (rInO C sp true) := by
  intro pins s σ H y x v u Q I ry rx h
  obtain ⟨a, dx, fs, rfl, ha, q⟩ := h
  cases rx
  obtain ⟨mA, J, _⟩ := ins_get I.hok ha
  obtain ⟨od, J, _⟩ := J.look
  obtain ⟨mm, hF⟩ := I.fr
  refine PySem.W.notIn_K hF I.ok.mod.kin J m.at_ m.fn ?_
  refine wpAny_mono (runO (vs := [.ref a, y]) F hr hb I I.env0 (.cons rfl (.cons ry .nil)) q) (fun w' s' hq => ?_) (fun _ _ e => e)
  obtain ⟨z, H', I', rz, b, rfl, qz⟩ := hq
  cases rz
  rw [Bool.true_xor] at qz
  exact wpAny_truthy_bool ⟨.bl (!b), H', I', rfl, qz⟩
/-- an own special method whose error is wished for at the caller's slots, run -/
theorem runOS {CX : CXT} {E : XK} {A : Around} {pins : List (Addr × Obj)} {σ : L2.St} {s : Shared} {H : Hp} {us : List Value} {vs : List V} {Q : VK} (F : FnOk X.prog X.w X.K X.mg X.base CX n g fd ps sp) (hr : Room n A) (hb : Binds X.K fd ps [])
    (hx : PassesAt CX X σ E) (I : Inv X pins σ H s) (env0 : Env0 X.prog X.w X.K X.mg X.base A X.stack s H) (r2 : Vals vs us) (q : sp vs H Q E) :
    wpAny (model X.prog X.w) A (call (.ref g) us) (EP X pins σ Q) X.xe s := by
  have hl := F.len _ _ _ _ q
  have hb' := hb s us I.kIn (by rw [List.append_nil, ← r2.length]; exact hl)
  rw [List.append_nil] at hb'
  refine wpAny_call (codeAny_mono (F.run A X.stack s H ⟨us, []⟩ us vs _ E hr env0 hb' r2 q) fun r s' hq => ?_)
  cases r with
  | error e => exact hx pins _ _ e s' I hq
  | ok fl =>
    cases fl with
    | ret w => exact I.after hq
    | next => exact False.elim hq
    | brk => exact False.elim hq
    | cont => exact False.elim hq
/-- x[y] by x's own __getitem__ -/
def tIxO (C : Addr) (sp : Sp) (E : L2.St → XK) (ta tb : TE) : TE := fun σ H Q => ta σ H fun x H1 => tb σ H1 fun y H2 => ∃ (a dx : Addr) (fs : List (Str × V)), x = .ref a ∧ H2 a = some (.ins C dx fs) ∧ sp [.ref a, y] H2 Q (E σ)
theorem pe_ixO {CX : CXT} {E : L2.St → XK} {a b : Expr} {ta tb : TE} {pos : Pos} (ha : PE X a ta) (hb0 : PE X b tb) (m : SpM X.K C g "__getitem__") (mf : PySem.W.fnIn X.K g = true) (F : FnOk X.prog X.w X.K X.mg X.base CX n g fd ps sp) (hr : Room (n + 1) X.A)
    (hb : Binds X.K fd ps []) (hx : ∀ σ, PassesAt CX X σ (E σ)) (hsl : ∀ o i, subscripted b true o i = runValue (.builtin "lifetime.subscript" ⟨[o, i], []⟩) := by intro _ _; with_unfolding_all rfl) : PE X (.Subscript a b pos) (tIxO C sp E ta tb) := by
  refine ⟨fun pins s σ H Q I h => ?_⟩
  refine Subscript_ (binT (R := fun x y H2 => ∃ (a dx : Addr) (fs : List (Str × V)), x = .ref a ∧ H2 a = some (.ins C dx fs) ∧ sp [.ref a, y] H2 Q (E σ)) ha hb0 I h fun v u s2 x y H2 I2 rx ry q => ?_)
  obtain ⟨p, dx, fs, rfl, hp, q⟩ := q
  cases rx
  obtain ⟨mA, J, _⟩ := ins_get I2.hok hp
  obtain ⟨od, J, _⟩ := J.look
  obtain ⟨mm, hF⟩ := I2.fr
  exact PySem.W.sub_K hF I2.ok.mod.kin J m.at_ mf m.fn (runOS (vs := [.ref p, y]) F hr.in1 hb (hx σ) I2 I2.env0.in1 (.cons rfl (.cons ry .nil)) q) (hsl _ _)
section
variable {ta tb : TE} {σ : L2.St} {H : Hp} {Q : VK} {E : L2.St → XK}
theorem go_ixO (h : ta σ H fun x H1 => tb σ H1 fun y H2 => ∃ (a dx : Addr) (fs : List (Str × V)), x = .ref a ∧ H2 a = some (.ins C dx fs) ∧ sp [.ref a, y] H2 Q (E σ)) : tIxO C sp E ta tb σ H Q := h
theorem go_insF {a dx : Addr} {fs : List (Str × V)} {R : Addr → Prop} (ha : H a = some (.ins C dx fs)) (h : R a) : ∃ (a' dx : Addr) (fs : List (Str × V)), V.ref a = .ref a' ∧ H a' = some (.ins C dx fs) ∧ R a' := ⟨a, dx, fs, rfl, ha, h⟩
theorem go_lenO {a dx : Addr} {fs : List (Str × V)} (ha : H a = some (.ins C dx fs)) (h : sp [.ref a] H (fun v H' => ∃ k : Int, v = .int k ∧ 0 ≤ k ∧ k < 2 ^ 63 ∧ Q (.int k) H') E0) : rLenO C sp [.ref a] H Q := ⟨a, dx, fs, rfl, ha, h⟩
theorem go_inO {a dx : Addr} {fs : List (Str × V)} {y : V} {b0 : Bool} (ha : H a = some (.ins C dx fs)) (h : sp [.ref a, y] H (fun v H' => ∃ b, v = .bl b ∧ Q (.bl (xor b0 b)) H') E0) : rInO C sp b0 y (.ref a) H Q := ⟨a, dx, fs, rfl, ha, h⟩
end
end
end Vc

/-! Xz: str(x) by x's own __str__; staticmethods called on their class (my own). -/
namespace Vc
open PySem PySem.Spec PyProof.Rows L2
section
open PySem.W PySem.Calls Builtin Builtin.Str
variable {prog : Program} {w : World} {A : Around} {E : Value → Shared → Prop} {s : Shared} {K : Frag} {x C L f : Addr} {h₀ : Heap} {m : Str → Option Value} {ox : Obj} {od : Option Obj}
theorem strOf_own {Q : Value → Shared → Prop} (hu : A.units < cLine) (X : K.In s.heap) (I : InstAt s.heap x ox C od) (hs : findIn K (.ref C) "__str__" = some (some (.ref f))) (hf : isFn K (.ref f) = true)
    (h : wpAny (model prog w) A (call (.ref f) [.ref x]) (StrBack Q) E s) : wpAny (model prog w) A (Builtin.Str.strOf (.ref x)) Q E s := by
  unfold Builtin.Str.strOf
  rw [if_neg (show ¬ isExactStr (Value.ref x) = true from by intro z; cases z)]
  refine wpAny_bind (wpAny_cRoomFor hu ?_)
  refine wpAny_bind (m := callSpecial? (.ref x) (Str.ofString "__str__")) (special_fn X I hs (beq_iff_eq.mp hf) (wpAny_mono h (fun r s' hr => ?_) fun _ _ y => y))
  cases r <;> first | exact hr.elim | skip
  repeat (first | wp_step)
  exact hr
theorem str_own {Q : Value → Shared → Prop} (hu : A.units + 2 < cLine) (X : K.In s.heap) (I : InstAt s.heap x ox C od) (hs : findIn K (.ref C) "__str__" = some (some (.ref f))) (hf : isFn K (.ref f) = true)
    (h : wpAny (model prog w) A.in1.in1 (call (.ref f) [.ref x]) (StrBack Q) E s) : wpAny (model prog w) A (call (.type "str") [.ref x]) Q E s :=
  callType_newIn F.called_str (by decide) (F.typeCall_str_1 _) (F.newCall_str_1 _) (fun obj => F.args_object_init_2 obj _) F.entry_str_new
    (S := fun A' R s' => A'.units + 1 < cLine ∧ K.In s'.heap ∧ InstAt s'.heap x ox C od ∧ wpAny (model prog w) A'.in1 (call (.ref f) [.ref x]) (StrBack fun r s1 => R (.ok (.ret r)) s1) (fun e s1 => R (.error e) s1) s')
    (.of_wp fun A' R s' hq => by
      rw [str_new_tree (.ref x)]
      refine wpAny_bind (wpAny_pure ?_)
      refine wpAny_bind (wpAny_of_eq isSubtype_str_str ?_)
      exact wpAny_bind (wpAny_mono (strOf_own (A := A'.in1) (Q := fun r s1 => R (.ok (.ret r)) s1) hq.1 hq.2.1 hq.2.2.1 hs hf hq.2.2.2) (fun r s1 h1 => wpAny_pure ⟨_, rfl, h1⟩) fun _ _ e => e))
    ⟨hu, X, I, wpAny_mono h (fun r s1 h1 => by
      cases r <;> first | exact h1.elim | skip
      exact ⟨typeIs_str _ _ _, h1⟩) fun _ _ e => e⟩
end
section
variable {X : Cx} {C g : Addr} {fd : FuncData} {ps : List Str} {sp : Sp} {n : Nat}
/-- str(x) by x's own __str__ -/
def rStrO (C : Addr) (sp : Sp) : List V → Hp → VK → Prop := fun xs H Q => ∃ (a dx : Addr) (fs : List (Str × V)), xs = [.ref a] ∧ H a = some (.ins C dx fs) ∧ sp [.ref a] H (fun v H' => ∃ z, v = .str z ∧ Q (.str z) H') E0
theorem call_strO (F : FnOk X.prog X.w X.K X.mg X.base CX0 n g fd ps sp) (hr : Room (n + 2) X.A) (m : SpM X.K C g "__str__") (hb : Binds X.K fd ps []) : CallR X (.type "str") (rStrO C sp) := by
  intro pins s σ H xs us Q I r h
  obtain ⟨a, dx, fs, rfl, ha, q⟩ := h
  rw [Vals.ref1 r]
  obtain ⟨mA, J, _⟩ := ins_get I.hok ha
  obtain ⟨od, J, _⟩ := J.look
  refine str_own (by have := hr.un; omega) I.kIn J m.at_ m.fn ?_
  refine wpAny_mono (runO (vs := [.ref a]) F hr.in1.in1 hb I I.env0.in1.in1 (.cons rfl .nil) q) (fun u s' hq => ?_) (fun _ _ e => e)
  obtain ⟨z, H', I', rz, k, rfl, qz⟩ := hq
  obtain ⟨t, rfl⟩ := rz
  exact ⟨.str k, H', I', ⟨_, rfl⟩, qz⟩
/-! ### C.m(..), m a staticmethod -/
structure SMet (K : PySem.W.Frag) (C : Addr) (mc : Value) (m : Str) (p g : Addr) : Prop where
  at_ : PySem.W.findCls K (.ref C) mc m = some (.get (.builtin "staticmethod.__get__") (.ref p) .none (.ref C))
  rc : ∃ rest, PySem.W.recIn K p "staticmethod" = some (.ref g :: rest)
  kp : PySem.W.keepIn K (.ref g) = true
theorem getsm_ok {pins : List (Addr × Obj)} {σ : L2.St} {H : Hp} {s : Shared} {A : Around} {E : Value → Shared → Prop} {mc : Value} {m : Str} {p : Addr} {pl : Sem Bool} {Q : Value × List Value → Shared → Prop} (I : Inv X pins σ H s) (r : ClX.CRead X.K C mc) (k : SMet X.K C mc m p g)
    (h : ∀ s', Inv X pins σ H s' → Q (.ref g, []) s') : wpAny (model X.prog X.w) A (getMethod (.ref C) m pl) Q E s := by
  obtain ⟨rest, hp⟩ := k.rc
  refine PySem.W.method_cls I.kIn r.ga ?_
  refine PySem.W.cls_bind I.kIn r.rd k.at_ ?_
  exact wpAny_call (PySem.W.sm_get (s := { s with toks := s.toks + 1 }) I.kIn hp (PySem.W.handed_on rfl (h _ (I.tok _))))
def tSMeth (C : Addr) (sp : Sp) (E : XK) (ta : TE) (t : TA) : TE := fun σ H Q => ta σ H fun x H1 => x = .ref C ∧ t σ H1 fun vs H2 => sp vs H2 Q E
theorem pe_smeth {CX : CXT} {E : XK} {o e : Expr} {es : List Expr} {m : Str} {pos apos : Pos} {ta : TE} {t : TA} {pl : Sem Bool} {mc : Value} {p : Addr} (he : PE X o ta) (r : ClX.CRead X.K C mc) (c : SMet X.K C mc m p g) (F : FnOk X.prog X.w X.K X.mg X.base CX n g fd ps sp) (hr : Room n X.A) (hb : Binds X.K fd ps []) (hx : Passes CX X E) (ha : PA X (e :: es) t)
    (hst : starEach (e :: es) X.env = (false, eval e X.env) :: starEach es X.env := by rfl) (hpl : (backTo pos (starEach es X.env)).any (·.1) = false := by rfl)
    (ht : eval (.Call (.Attribute o m apos) (e :: es) [] pos) X.env = (do
      let ov ← eval o X.env
      standAt apos.atName
      let (f, first) ← holding [ov] (getMethod ov m pl)
      callWith pos f first (backTo pos (starEach (e :: es) X.env)) (backToKw pos (keywordEach [] X.env))) := by rfl) :
    PE X (.Call (.Attribute o m apos) (e :: es) [] pos) (tSMeth C sp E ta t) := by
  refine ⟨fun pins s σ H Q I h => ?_⟩
  refine PySem.W.methodCall_KW (pl := pl) (thn (he.run pins s σ H _ I h) fun u s1 ⟨x, H1, I1, rx, ex, q⟩ => ?_) ht
  subst ex
  obtain rfl : u = Value.ref C := rx
  refine getsm_ok I1 r c fun s2 I2 => ?_
  refine PySem.W.callWith_K (first := []) (h₀ := X.base) I.ok.mod.kin c.kp (thn (ha.run pos pins s2 σ H1 _ I2 q) fun us s3 ⟨vs, H2, I3, r3, q2⟩ => ⟨I3.kIn, ?_⟩) hst hpl
  exact run_fn F hr hb .nil hx I3 r3 (by rw [List.append_nil]; exact q2)
theorem pe_smeth0 {CX : CXT} {E : XK} {o : Expr} {m : Str} {pos apos : Pos} {ta : TE} {pl : Sem Bool} {mc : Value} {p : Addr} (he : PE X o ta) (r : ClX.CRead X.K C mc) (c : SMet X.K C mc m p g) (F : FnOk X.prog X.w X.K X.mg X.base CX n g fd ps sp) (hr : Room n X.A) (hb : Binds X.K fd ps []) (hx : Passes CX X E)
    (ht : eval (.Call (.Attribute o m apos) [] [] pos) X.env = (do
      let ov ← eval o X.env
      standAt apos.atName
      let (f, first) ← holding [ov] (getMethod ov m pl)
      callWith pos f first (backTo pos (starEach [] X.env)) (backToKw pos (keywordEach [] X.env))) := by rfl) :
    PE X (.Call (.Attribute o m apos) [] [] pos) (tSMeth C sp E ta tNil) := by
  refine ⟨fun pins s σ H Q I h => ?_⟩
  refine PySem.W.methodCall_KW (pl := pl) (thn (he.run pins s σ H _ I h) fun u s1 ⟨x, H1, I1, rx, ex, q⟩ => ?_) ht
  subst ex
  obtain rfl : u = Value.ref C := rx
  refine getsm_ok I1 r c fun s2 I2 => ?_
  exact PySem.W.callWith_K0 I2.kIn c.kp (run_fn (us := []) F hr hb .nil hx I2 .nil (by rw [List.append_nil]; exact q))
section
variable {K : PySem.W.Frag} {σ : L2.St} {H : Hp} {Q : VK} {ta : TE} {t : TA} {E : XK}
theorem go_strO {a dx : Addr} {fs : List (Str × V)} (ha : H a = some (.ins C dx fs)) (h : sp [.ref a] H (fun v H' => ∃ z, v = .str z ∧ Q (.str z) H') E0) : rStrO C sp [.ref a] H Q := ⟨a, dx, fs, rfl, ha, h⟩
theorem go_smeth (h : ta σ H fun x H1 => x = .ref C ∧ t σ H1 fun vs H2 => sp vs H2 Q E) : tSMeth C sp E ta t σ H Q := h
theorem go_refC {P : Prop} (h : P) : V.ref C = V.ref C ∧ P := ⟨rfl, h⟩
end
end
/-! ### dicts whose values are data, compared: equal ones -/
theorem hits_dp {X : Cx} {pins : List (Addr × Obj)} {σ : L2.St} {H : Hp} {s : Shared} (I : Inv X pins σ H s) {A : Around} (hu : A.in1.units + 64 < cLine) {ls : List (Key × V)} {vb : List (Key × Value)} (rb : KV ls vb) {ks : List (Key × V)} {va : List (Key × Value)}
    (ra : KV ks va) : (∀ p ∈ ks, ∃ u d, valV ls p.1 = some u ∧ Dp X.K H p.2 d ∧ Dp X.K H u d ∧ SeqAt.shaped d = true) → PySem.W.KeqHits A.in1 s vb va true := by
  unfold KV at ra
  induction ra with
  | nil => intro _; exact .nil
  | @cons p q ps qs h t k =>
    intro hp
    obtain ⟨h1, h2⟩ := h
    obtain ⟨u, d, e, d1, d2, sd⟩ := hp p List.mem_cons_self
    have rr : RelO (some u) (valueAt vb p.1) := by rw [← e]; exact rb.val p.1
    obtain ⟨y, hy, ry⟩ := rr.some_of
    obtain ⟨key, v⟩ := q
    have h1' : p.1 = key := h1
    rw [h1'] at hy
    obtain ⟨as, r1⟩ := Dp.reads I d _ _ d1 h2
    obtain ⟨bs, r2⟩ := Dp.reads I d _ _ d2 ry
    have eq := PySem.W.keq_at (A := A) r1 r2 sd sd hu
    rw [SeqAt.eqv_refl d (SeqAt.canLay_of_shaped sd)] at eq
    show PySem.W.KeqHits A.in1 s vb ((key, v) :: qs) (true && true)
    exact .hit hy eq (k fun p' hm => hp p' (List.mem_cons_of_mem _ hm))
def rDD (K : PySem.W.Frag) (b : Bool) : R2 := fun x y H Q => ∃ a c ks ls, x = .ref a ∧ y = .ref c ∧ H a = some (.dK ks) ∧ H c = some (.dK ls) ∧ ks.length = ls.length ∧ (∀ p ∈ ks, ∃ u d, valV ls p.1 = some u ∧ Dp K H p.2 d ∧ Dp K H u d ∧ SeqAt.shaped d = true) ∧ Q (.bl b) H
theorem op_eqDD {X : Cx} (hu : X.A.units + 66 < cLine) : OpR X (compareOp .Eq) (rDD X.K true) := by
  intro pins s σ H x y v u Q I rx ry h
  obtain ⟨a, b, ks, ls, rfl, rfl, ea, eb, hlen, hp, q⟩ := h
  obtain rfl : v = Value.ref a := rx
  obtain rfl : u = Value.ref b := ry
  obtain ⟨_, ya, va, ra, da⟩ := (show ObjOk X.prog X.w H s.heap a (.dK ks) from I.hok a _ ea)
  obtain ⟨_, yb, vb, rb, db⟩ := (show ObjOk X.prog X.w H s.heap b (.dK ls) from I.hok b _ eb)
  have hl : va.length = vb.length := by rw [← ra.length, ← rb.length]; exact hlen
  exact PySem.W.keq_eq (knd := mixKind X.prog X.w) (r := true) ya yb da db (by omega) (fun _ => hits_dp I (by show X.A.units + 1 + 64 < cLine; omega) rb ra hp) (fin_bl I q (by simp [hl]))
theorem op_neDD {X : Cx} (hu : X.A.units + 66 < cLine) : OpR X (compareOp .NotEq) (rDD X.K false) := by
  intro pins s σ H x y v u Q I rx ry h
  obtain ⟨a, b, ks, ls, rfl, rfl, ea, eb, hlen, hp, q⟩ := h
  obtain rfl : v = Value.ref a := rx
  obtain rfl : u = Value.ref b := ry
  obtain ⟨_, ya, va, ra, da⟩ := (show ObjOk X.prog X.w H s.heap a (.dK ks) from I.hok a _ ea)
  obtain ⟨_, yb, vb, rb, db⟩ := (show ObjOk X.prog X.w H s.heap b (.dK ls) from I.hok b _ eb)
  have hl : va.length = vb.length := by rw [← ra.length, ← rb.length]; exact hlen
  exact PySem.W.keq_ne (knd := mixKind X.prog X.w) (r := true) ya yb da db (by omega) (fun _ => hits_dp I (by show X.A.units + 1 + 64 < cLine; omega) rb ra hp) (fin_bl I q (by simp [hl]))
theorem room66 {k : Nat} {A : Around} (r : Room k A) : A.units + 66 < cLine := by have := r.un; omega
/-! ### d.pop(k), there -/
def rDPop : V → List V → Hp → VK → Prop := fun x xs H Q => ∃ (a : Addr) (kvs : List (Key × V)) (k : Key) (v : V), x = .ref a ∧ xs = [kV k] ∧ H a = some (.dK kvs) ∧ valV kvs k = some v ∧ Q v (upd H a (.dK (dropK kvs k)))
theorem mt_dpop {X : Cx} : MtR X "dict.pop" rDPop := by
  intro pins s σ H x xs v us Q I rx rxs h
  obtain ⟨a, kvs, k, v', rfl, rfl, e, l, q⟩ := h
  cases rx
  obtain ⟨u, rfl, ru⟩ := rxs.one
  exact d_pop I e ru l (.inl rfl) fun w' s' I' r' => ⟨v', _, I', r', q⟩
section
variable {K : PySem.W.Frag} {H : Hp} {Q : VK} {σ : L2.St} {te : TE} {ts : List TE} {acc : Str}
theorem go_dpopI {a : Addr} {kvs : List (Key × V)} {k : Int} {v : V} (e : H a = some (.dK kvs)) (l : valV kvs (.inl k) = some v) (h : Q v (upd H a (.dK (dropK kvs (.inl k))))) : rDPop (.ref a) [.int k] H Q := ⟨a, kvs, .inl k, v, rfl, rfl, e, l, h⟩
theorem go_tyD {a : Addr} {kvs : List (Key × V)} {P : Prop} (e : H a = some (.dK kvs)) (h : P) : tyV K "dict" (.ref a) H ∧ P := ⟨.inr (.inr (.inl ⟨rfl, .inl ⟨kvs, e⟩⟩)), h⟩
theorem go_dclear {a : Addr} {kvs : List (Key × V)} (e : H a = some (.dK kvs)) (h : Q .non (upd H a (.dK []))) : rDClear (.ref a) [] H Q := ⟨a, kvs, rfl, rfl, e, h⟩
theorem go_lclear {a : Addr} {xs : List V} (e : H a = some (.lst xs)) (h : Q .non (upd H a (.lst []))) : rClear (.ref a) [] H Q := ⟨a, xs, rfl, rfl, e, h⟩
theorem go_revL (h : te σ H fun x H1 => ∃ a xs, x = .ref a ∧ SqL K H1 a xs ∧ ∀ p, H1 p = none → Q (.ref p) (upd H1 p (.lst xs.reverse))) : tRevL K te σ H Q := h
theorem go_revLV {a : Addr} {xs : List V} {R : List V → Prop} (e : SqL K H a xs) (h : R xs) : ∃ a' ys, V.ref a = .ref a' ∧ SqL K H a' ys ∧ R ys := ⟨a, xs, rfl, e, h⟩
theorem go_js0 {R : Str → Hp → Prop} (h : R acc H) : tJs [] acc σ H R := h
theorem go_jsS {y : Str} {R : Str → Hp → Prop} (l : (acc ++ y).length ≤ 1000) (h : tJs ts (acc ++ y) σ H R) : tJs (tC (.str y) :: ts) acc σ H R := ⟨y, rfl, Nat.le_of_lt (small1000 l), h⟩
theorem go_js {R : Str → Hp → Prop} (h : te σ H fun x H1 => ∃ y : Str, x = .str y ∧ (acc ++ y).length ≤ sizeLine ∧ tJs ts (acc ++ y) σ H1 R) : tJs (te :: ts) acc σ H R := h
theorem go_jsV {y : Str} {P : Str → Prop} (l : (acc ++ y).length ≤ 1000) (h : P y) : ∃ z : Str, V.str y = .str z ∧ (acc ++ z).length ≤ sizeLine ∧ P z := ⟨y, rfl, Nat.le_of_lt (small1000 l), h⟩
theorem go_szS {y : Str} {P : Prop} (l : y.length ≤ 1000) (h : P) : y.length ≤ sizeLine ∧ P := ⟨Nat.le_of_lt (small1000 l), h⟩
theorem go_fmt (h : te σ H fun x H1 => (∃ y : Str, x = .str y ∧ y.length ≤ sizeLine ∧ Q (.str y) H1) ∨ ∃ i : Int, x = .int i ∧ i.natAbs.log2 < 1920 ∧ Q (.str (toString i)) H1) : tFmt te σ H Q := h
theorem go_fmtS {y : Str} {P : Str → Prop} {P' : Int → Prop} (l : y.length ≤ 1000) (h : P y) : (∃ z : Str, V.str y = .str z ∧ z.length ≤ sizeLine ∧ P z) ∨ ∃ i : Int, V.str y = .int i ∧ i.natAbs.log2 < 1920 ∧ P' i := .inl ⟨y, rfl, Nat.le_of_lt (small1000 l), h⟩
theorem go_fmtI {i : Int} {P : Str → Prop} {P' : Int → Prop} (l : i.natAbs.log2 < 1920) (h : P' i) : (∃ z : Str, V.int i = .str z ∧ z.length ≤ sizeLine ∧ P z) ∨ ∃ j : Int, V.int i = .int j ∧ j.natAbs.log2 < 1920 ∧ P' j := .inr ⟨i, rfl, l, h⟩
theorem go_strI {i : Int} {P : Int → Prop} (l : i.natAbs.log2 < 1920) (h : P i) : ∃ j, [V.int i] = [.int j] ∧ j.natAbs.log2 < 1920 ∧ P j := ⟨i, rfl, l, h⟩
end
end Vc

/-! Xi: list(x), x of an own class whose __iter__ gives a list's iterator (and that has its own __len__). -/
namespace Vc
open PySem PySem.Spec PyProof.Rows L2
section
variable {prog : Program} {w : World} {A : Around} {E : Value → Shared → Prop} {s : Shared} {it l : Addr} {i : Nat} {items : Array Value}
theorem py_item {x : Value} {Q : Option Value → Shared → Prop} (ho : s.heap.get? it = some (GNX.itObj l i)) (hl : s.heap.IsList l items) (hx : items[i]? = some x)
    (hQ : ∀ h', h'.get? it = some (GNX.itObj l (i + 1)) → Heap.SameBut it s.heap h' → Q (some x) { s with heap := h' }) : wpAny (model prog w) A (pyNext (.ref it)) Q E s := by
  have hit : s.heap.IsListIter it l i := ⟨_, ho, rfl, rfl⟩
  unfold pyNext
  refine wpAny_bind (wpAny_attempt (wpAny_callSpecial?_slot (name := Str.ofString "__next__") hit.typeIs slot_listiter_next
    (wpAny_call_entry slot_listiter_next hit.typeIs entry_listiter_next ?_ (args_listiter_next _))))
  exact GNX.next_item ho hl hx fun h' e' sb => wpAny_pure (hQ h' e' sb)
theorem py_end {Q : Option Value → Shared → Prop} (hh : A.handled = none) (ho : s.heap.get? it = some (GNX.itObj l i)) (hl : s.heap.IsList l items) (hx : items[i]? = none)
    (hQ : ∀ h1 h' e vs, h1.get? it = some (GNX.itEnd i) → Heap.SameBut it s.heap h1 → (∀ b o, h1.get? b = some o → h'.get? b = some o) → h1.get? e = none →
      h'.get? e = some { cls := .type "StopIteration", data := .fields vs } → vs[1]? = some .none → Q none { s with heap := h' }) : wpAny (model prog w) A (pyNext (.ref it)) Q E s := by
  have hit : s.heap.IsListIter it l i := ⟨_, ho, rfl, rfl⟩
  unfold pyNext
  refine wpAny_bind (wpAny_attempt (wpAny_callSpecial?_slot (name := Str.ofString "__next__") hit.typeIs slot_listiter_next
    (wpAny_call_entry slot_listiter_next hit.typeIs entry_listiter_next ?_ (args_listiter_next _))))
  refine GNX.next_end hh ho hl hx fun h1 h' e vs e1 sb k ne he hv => ?_
  refine wpAny_bind (wpAny_isInstance (T := "StopIteration") (b := true) ⟨_, he, rfl⟩ isSubtype_stop ?_)
  exact wpAny_pure (hQ h1 h' e vs e1 sb k ne he hv)
end
section
variable {X : Cx} {pins : List (Addr × Obj)} {σ : L2.St}
theorem li_loop {q it l : Addr} {zs : List V} {H0 : Hp} {A1 : Around} {Rs : Result → Shared → Prop} (hh : A1.in1.handled = none) (hlq : l ≠ q) (hli : l ≠ it) (hiq : it ≠ q) (zl : zs.length ≤ 1000)
    (hdone : ∀ H s, Inv X pins σ H s → H q = some (.lst zs) → Ed [q, it] H0 H → Rs (.ok (.ret .none)) s) :
    ∀ (n i : Nat) (H : Hp) (s : Shared), n + i = zs.length → Inv X pins σ H s → H it = some (ItO l it i) → SqL X.K H l zs → H q = some (.lst (zs.take i)) → Ed [q, it] H0 H →
      codeAny (model X.prog X.w) A1 (.builtin "list.extend.loop" ⟨[.ref q, .ref it, .none], []⟩) Rs s := by
  intro n
  induction n with
  | zero =>
    intro i H s hn I hit hl hq e
    refine codeAny_builtin PySem.F.entry_extend_loop ?_
    rw [Around.under_plainId PySem.F.plain_extend_loop _]
    show wpAny _ A1.in1 (pyNext (.ref it) >>= _) _ _ s
    obtain ⟨its, rv, pl, hz⟩ := I.list hl
    have mu : Mut (H it) := by rw [hit]; exact True.intro
    refine wpAny_bind (py_end hh (itO_get I hit) pl.isList (by rw [List.getElem?_toArray]; exact rv.none_of (by rw [List.getElem?_eq_none]; omega)) fun h1 h' e' vs e1 sb k ne he hv => ?_)
    have I2 : Inv X pins σ (upd H it (ItE it i)) { s with heap := h1 } := I.write (x := it) (e := it) (t' := s.toks) mu (.inl rfl) (fun b o nb z => (sb.2 b nb).trans z) ⟨_, e1⟩ (itE_ok e1)
    generalize hu : upd H it (ItE it i) = H2 at I2
    obtain ⟨e2, h2⟩ := chg hu hit
    have I3 : Inv X pins σ H2 { s with heap := h' } := L2.Inv.turnedL (s := { s with heap := h1 }) I2 (t' := s.toks) (ch := []) (h' := h') (fun b o _ e => k b o e) (fun b hb => by cases hb)
    refine wpAny_pure (hdone H2 _ I3 ?_ (e.one e2 (.inl (by simp))))
    rw [e2.at1 hiq.symm hq, List.take_of_length_le (by omega)]
  | succ n ih =>
    intro i H s hn I hit hl hq e
    refine codeAny_builtin PySem.F.entry_extend_loop ?_
    rw [Around.under_plainId PySem.F.plain_extend_loop _]
    show wpAny _ A1.in1 (pyNext (.ref it) >>= _) _ _ s
    obtain ⟨its, rv, pl, hz⟩ := I.list hl
    have mu : Mut (H it) := by rw [hit]; exact True.intro
    obtain ⟨v, hv⟩ : ∃ v, zs[i]? = some v := ⟨_, List.getElem?_eq_getElem (by omega)⟩
    obtain ⟨u, hu, ru⟩ := rv.get hv
    refine wpAny_bind (py_item (itO_get I hit) pl.isList (x := u) (by rw [List.getElem?_toArray]; exact hu) fun h' e' sb => ?_)
    have I2 : Inv X pins σ (upd H it (ItO l it (i + 1))) { s with heap := h' } := I.write (x := it) (e := it) (t' := s.toks) mu (.inl rfl) (fun b o nb z => (sb.2 b nb).trans z) ⟨_, e'⟩ (itO_ok e')
    generalize hg : upd H it (ItO l it (i + 1)) = H2 at I2
    obtain ⟨e2, h2⟩ := chg hg hit
    have hq2 := e2.at1 hiq.symm hq
    show wpAny _ A1.in1 (updateSeq q (·.push u) >>= _) _ _ _
    obtain ⟨z, its2, k, r2, hl2, e3⟩ := I2.lstM hq2
    refine wpAny_bind (wpAny_updateSeq e3 rfl (wpAny_pure ⟨plainId_quiet PySem.F.plain_extend_loop _, ?_⟩) (by rw [List.size_toArray]; omega) (by show (its2.toArray.push u).size ≤ sizeLine + 1; rw [Array.size_push, List.size_toArray]; omega))
    have I3 := I2.lset (f := (·.push u)) (its' := its2 ++ [u]) (t' := s.toks) hq2 e3 (by simp) (r2.append (.cons ru .nil)) (by have := small1000 zl; rw [List.length_append, List.length_take]; show _ + 1 ≤ _; omega)
    generalize hw : upd H2 q _ = H3 at I3
    obtain ⟨e4, h4⟩ := chg hw hq2
    refine ih (i + 1) H3 _ (by omega) I3 (e4.at1 hiq h2) ?_ ?_ ?_
    · exact e4.sql1 hlq (e2.sql1 hli hl)
    · rw [h4, List.take_add_one, hv]; rfl
    · exact (e.one e2 (.inl (by simp))).one e4 (.inl (by simp))
/-- x's own __len__, asked for a hint -/
theorem li_hint {H : Hp} {s : Shared} {C g a : Addr} {dx : Addr} {fs : List (Str × V)} {fd : FuncData} {ps : List Str} {sp : Sp} {n : Nat} {A1 : Around} {EE : Value → Shared → Prop} {Q : Bool → Shared → Prop}
    (F : FnOk X.prog X.w X.K X.mg X.base CX0 n g fd ps sp) (hr : Room n A1.in1) (m : SpM X.K C g "__len__") (hb : Binds X.K fd ps []) (I : Inv X pins σ H s) (env0 : Env0 X.prog X.w X.K X.mg X.base A1.in1 X.stack s H) (ha : H a = some (.ins C dx fs))
    {G : VK} (q : sp [.ref a] H G E0) (kk : ∀ v H', G v H' → ∃ k : Int, v = .int k ∧ 0 ≤ k ∧ k ≤ 1000 ∧ ∀ s', Inv X pins σ H' s' → ∀ b, Q b s') : wpAny (model X.prog X.w) A1 (Builtin.List.listLengthHint (.ref a)) Q EE s := by
  obtain ⟨mA, J, _⟩ := ins_get I.hok ha
  obtain ⟨od, J, _⟩ := J.look
  obtain ⟨mm, hF⟩ := I.fr
  unfold Builtin.List.listLengthHint
  refine wpAny_bind (wpAny_bind (J.type.here ((PySem.W.looks_findIn I.kIn m.at_).here ?_)))
  refine PySem.W.KFB.if_not rfl ?_
  refine wpAny_bind (m := rule "list.length-hint.len") (wpAny_rule ?_)
  refine wpAny_bind (wpAny_attempt ?_)
  refine PySem.W.len_K hF I.ok.mod.kin J m.at_ m.fn ?_
  refine wpAny_mono (runO (vs := [.ref a]) (EE := fun _ _ => False) F hr hb I env0 (.cons rfl .nil) q) (fun u s' hq => ?_) (fun _ _ e => e.elim)
  obtain ⟨z, H', I', rz, hg⟩ := hq
  obtain ⟨k, rfl, k0, k1, qz⟩ := kk _ _ hg
  obtain ⟨t, rfl⟩ := rz
  refine ⟨⟨k0, by omega⟩, ?_⟩
  have tl : Builtin.List.listTooLong k.toNat = false := notLongL (Nat.le_of_lt (small1000 (by omega)))
  refine wpAny_bind (m := asInt? (.int k _)) (wpAny_of_eq (a := some k) rfl ?_)
  show wpAny _ _ (if Builtin.List.listTooLong k.toNat = true then _ else _) _ _ _
  rw [tl, if_neg (by decide)]
  exact wpAny_pure (qz _ (I'.tok _) _)
/-- what x's own __iter__ and __len__ do: a list's iterator, a number -/
def LiRun (K : PySem.W.Frag) (spI spL : Sp) (a q : Addr) (zs : List V) (H : Hp) (R : Hp → Prop) : Prop :=
  spI [.ref a] H (fun v H1 => ∃ l it, v = .ref it ∧ Ed [] H H1 ∧ H it = none ∧ H1 it = some (ItO l it 0) ∧ SqL K H1 l zs ∧ l ≠ q ∧ l ≠ it ∧
    spL [.ref a] H1 (fun w H2 => ∃ k : Int, w = .int k ∧ 0 ≤ k ∧ k ≤ 1000 ∧ Ed [] H1 H2 ∧ R H2) E0) E0
theorem li_extend {H : Hp} {s : Shared} {C gi gl a q dx : Addr} {fs : List (Str × V)} {fdI fdL : FuncData} {psI psL : List Str} {spI spL : Sp} {n : Nat} {A1 : Around} {zs : List V} {Rs : Result → Shared → Prop}
    (FI : FnOk X.prog X.w X.K X.mg X.base CX0 n gi fdI psI spI) (mI : SpM X.K C gi "__iter__") (bI : Binds X.K fdI psI []) (FL : FnOk X.prog X.w X.K X.mg X.base CX0 n gl fdL psL spL) (mL : SpM X.K C gl "__len__") (bL : Binds X.K fdL psL [])
    (sb : Sub X n A1.in1.in1) (sb1 : Sub X n A1.in1) (hh : A1.in1.handled = none) (I : Inv X pins σ H s) (ha : H a = some (.ins C dx fs)) (hq : H q = some (.lst [])) (zl : zs.length ≤ 1000)
    (hrun : LiRun X.K spI spL a q zs H fun _ => True) (hdone : ∀ H' s', Inv X pins σ H' s' → Ed [q] H H' → H' q = some (.lst zs) → Rs (.ok (.ret .none)) s') :
    wpAny (model X.prog X.w) A1.in1 (Builtin.List.listExtendWith (.ref q) (.ref a) .none)
      (fun fin s' => match fin with | .done f => Rs (.ok f) s' | .again c' => c'.quiet = true ∧ codeAny (model X.prog X.w) A1 c' Rs s') (fun e s' => Rs (.error e) s') s := by
  have hne : q ≠ a := ne_of hq ha (fun z => nomatch z)
  obtain ⟨mA, J, _⟩ := ins_get I.hok ha
  obtain ⟨od, J, _⟩ := J.look
  obtain ⟨m0, hF⟩ := I.fr
  unfold Builtin.List.listExtendWith
  refine wpAny_bind (J.type.here ?_)
  have h1 : Builtin.List.listSameRef (.ref q) (.ref a) = false := by simp [Builtin.List.listSameRef, hne]
  have h2 : (Value.ref C == Value.type "list") = false := rfl
  have h3 : (Value.ref C == Value.type "tuple") = false := rfl
  simp only [h1, h2, h3, Bool.or_false, Bool.false_eq_true, if_false]
  refine wpAny_bind (PySem.W.owit_iter hF I.ok.mod.kin J mI.at_ mI.fn ?_)
  have env : ∀ {A' : Around} {s' : Shared} {H' : Hp}, Sub X n A' → Inv X pins σ H' s' → Env0 X.prog X.w X.K X.mg X.base A' X.stack s' H' := fun sb I => by
    have e := I.env0
    exact ⟨by rw [sb.fr]; exact e.frames, e.mod, e.bs, e.bsz, e.funs, e.frf, e.hok, e.bare⟩
  refine wpAny_mono (runO (vs := [.ref a]) (EE := fun _ _ => False) FI sb1.room bI I (env sb1 I) (.cons rfl .nil) hrun) (fun u s' hq' => ?_) (fun _ _ e => e.elim)
  obtain ⟨z, H1, I1, rz, l, it, rfl, e1, nit, hit, hl, hlq, hli, hL⟩ := hq'
  cases rz
  have hT : s'.TypeIs (.ref it) "list_iterator" := ⟨_, itO_get I1 hit, rfl⟩
  unfold PySem.W.OwitIt
  refine wpAny_specialOf (name := Str.ofString "__next__") hT slot_listiter_next.lookup ?_
  have ha1 := e1.at0 ha
  have hq1 := e1.at0 hq
  have hiq : it ≠ q := fun z => by rw [z, hq] at nit; cases nit
  refine wpAny_bind (wpAny_holding (li_hint FL sb.room mL bL I1 (env sb I1) ha1 hL fun v H2 hg => ?_))
  obtain ⟨k, ek, k0, k1, e2, _⟩ := hg
  refine ⟨k, ek, k0, k1, fun s2 I2 b => ?_⟩
  have hq2 := e2.at0 hq1
  have hit2 : H2 it = some (ItO l it 0) := e2.keep _ _ (fun z => nomatch z) hit
  have hl2 := e2.sql0 hl
  have e12 : Ed [] H H2 := e1.ex e2
  have loop : ∀ s3, Inv X pins σ H2 s3 → codeAny (model X.prog X.w) A1 (.builtin "list.extend.loop" ⟨[.ref q, .ref it, .none], []⟩) Rs s3 := fun s3 I3 =>
    li_loop hh hlq hli hiq zl (H0 := H2) (fun H' s' I' hq' e' => hdone H' s' I' (Ed.two' e' (Ed.refl.ex e12) (.inl (by simp)) (.inr nit)) hq') zs.length 0 H2 s3 (by omega) I3 hit2 hl2 (by rw [hq2]; rfl) .refl
  obtain ⟨z, its, kk, r3, hl3, e3⟩ := I2.lstM hq2
  cases r3
  refine wpAny_ite_split (fun _ => ?_) (fun _ => wpAny_pure ⟨plainId_quiet PySem.F.plain_extend_loop _, loop _ I2⟩)
  refine wpAny_bind (wpAny_rule ?_)
  refine wpAny_bind ?_
  show wpAny _ _ (updateSeq q (·.push .none) >>= fun _ => updateSeq q (·.pop)) _ _ _
  refine wpAny_bind (wpAny_updateSeq e3 rfl ?_)
  have I3 := I2.lset (f := (·.push Value.none)) (its' := [Value.none]) (ys := [.non]) (t' := s2.toks) hq2 e3 (by simp) (.cons rfl .nil) (by rw [List.length_singleton, sizeLine_eq]; decide)
  obtain ⟨z4, its4, k4, r4, hl4, e4⟩ := I3.lstM upd_same
  obtain ⟨u4, rfl, ru4⟩ := r4.one
  refine wpAny_updateSeq e4 rfl ?_ (by show 1 ≤ sizeLine; rw [sizeLine_eq]; decide) (by show 0 ≤ sizeLine + 1; exact Nat.zero_le _)
  refine wpAny_pure ⟨plainId_quiet PySem.F.plain_extend_loop _, loop _ ?_⟩
  have I4 := I3.lset (f := (·.pop)) (its := [u4]) (its' := []) (ys := []) (t' := s2.toks) upd_same e4 (by rfl) .nil (Nat.zero_le _)
  rw [upd_upd] at I4
  have hH : upd H2 q (.lst []) = H2 := by
    funext b
    by_cases hb : b = q
    · rw [hb, upd_same, hq2]
    · rw [upd_ne hb]
  rw [hH] at I4
  exact I4
/-- list(x) -/
def rListLi (K : PySem.W.Frag) (C : Addr) (spI spL : Sp) : List V → Hp → VK → Prop := fun xs H Q => ∃ a dx fs zs, xs = [.ref a] ∧ H a = some (.ins C dx fs) ∧ zs.length ≤ 1000 ∧
  (∀ q H1, H q = none → Ed [] H H1 → LiRun K spI spL a q zs H1 fun _ => True) ∧ ∀ q H', H q = none → Ed [] H H' → H' q = some (.lst zs) → Q (.ref q) H'
theorem call_listLi {C gi gl : Addr} {fdI fdL : FuncData} {psI psL : List Str} {spI spL : Sp} {n : Nat} (hc : X.calm = true)
    (FI : FnOk X.prog X.w X.K X.mg X.base CX0 n gi fdI psI spI) (mI : SpM X.K C gi "__iter__") (bI : Binds X.K fdI psI []) (FL : FnOk X.prog X.w X.K X.mg X.base CX0 n gl fdL psL spL) (mL : SpM X.K C gl "__len__") (bL : Binds X.K fdL psL [])
    (hr : Room (n + 3) X.A) : CallR X (.type "list") (rListLi X.K C spI spL) := by
  intro pins s σ H xs us Q I rv h
  obtain ⟨a, dx, fs, zs, rfl, ha, zl, hrun, hq⟩ := h
  obtain ⟨u, rfl, ru⟩ := rv.one
  cases ru
  have sb3 : Sub X (n + 1) X.A.in1.in1 := (Sub.in1 (Sub.in1 (⟨hr, rfl⟩ : Sub X (n + 3) X.A)))
  refine callType_codes (Q₁ := fun obj s₁ => obj = .ref s.heap.objs.size ∧ s₁ = { s with heap := s.heap.push { cls := .type "list", data := .seq #[] } }) PySem.F.called_list (PySem.F.typeCall_list_1 _) PySem.F.entry_list_init
    (code_list_new _ ⟨rfl, rfl⟩) fun obj s₁ h₁ => ?_
  obtain ⟨rfl, rfl⟩ := h₁
  have hS : (s.heap.push { cls := .type "list", data := .seq #[] }).get? s.heap.objs.size = some { cls := .type "list", data := .seq #[] } := Heap.get?_push_size _ rfl
  refine ⟨⟨_, hS, rfl⟩, PySem.F.args_list_init_2 _ _, ?_⟩
  have fr : H s.heap.objs.size = none := I.hok.fresh (Nat.le_refl _)
  have I1 : Inv X pins σ (upd H s.heap.objs.size (.lst [])) { s with heap := s.heap.push { cls := .type "list", data := .seq #[] } } := I.lnew (its := []) (t' := s.toks) .nil (Nat.zero_le _)
  show wpAny _ _ (do let old ← Builtin.List.listItems (.ref s.heap.objs.size); Builtin.List.listUpdate (.ref s.heap.objs.size) (fun _ => #[]); letGo old.toList.reverse; Builtin.List.listExtendWith (.ref s.heap.objs.size) (.ref a) .none) _ _ _
  refine wpAny_bind ?_
  unfold Builtin.List.listItems
  refine wpAny_bind (wpAny_seqItems hS rfl (wpAny_pure ?_))
  show wpAny _ _ (updateSeq s.heap.objs.size (fun _ => #[]) >>= fun _ => letGo (#[] : Array Value).toList.reverse >>= fun _ => Builtin.List.listExtendWith (.ref s.heap.objs.size) (.ref a) .none) _ _ _
  refine wpAny_bind (wpAny_updateSeq hS rfl ?_)
  have I2 := I1.lset (f := fun _ => #[]) (its := []) (its' := []) (ys := []) (t' := s.toks) upd_same hS rfl .nil (Nat.zero_le _)
  rw [upd_upd] at I2
  refine wpAny_bind (wpAny_letGo ?_)
  have ha2 : upd H s.heap.objs.size (.lst []) a = some (.ins C dx fs) := by rw [upd_ne (ne_of_none ha fr)]; exact ha
  have e0 : Ed [] H (upd H s.heap.objs.size (.lst [])) := Ed.new fr
  exact li_extend (A1 := X.A.in1) (Rs := wants (fun r s₂ => r = .none ∧ EP X pins σ Q (.ref s.heap.objs.size) s₂) X.xe) FI mI bI FL mL bL (sb3.in1) (sb3.mono (Nat.le_succ _)) (I.ok.hd hc) I2 ha2 upd_same zl (hrun _ _ fr e0)
    (fun H' s' I' e' hz => ⟨rfl, .ref s.heap.objs.size, H', I', rfl, hq _ H' fr (e0.one e' (.inr fr)) hz⟩)
/-- either way of a call -/
theorem call_or {g : Value} {r r' : List V → Hp → VK → Prop} (a : CallR X g r) (b : CallR X g r') : CallR X g (fun xs H Q => r xs H Q ∨ r' xs H Q) := by
  intro pins s σ H xs us Q I rv h
  rcases h with h | h
  · exact a pins s σ H xs us Q I rv h
  · exact b pins s σ H xs us Q I rv h
end
end Vc

/-! Xv: defs with a star parameter: the promise, the instance made. -/
namespace Vc
open PySem PySem.Spec PyProof.Rows L2
/-- a def with a star parameter behind its others: what binding does -/
structure BindV (fd : FuncData) (ps : List Str) (pv : Str) : Prop where
  b : ∀ us rest : List Value, us.length = ps.length → bindArgs fd ⟨us ++ rest, []⟩ = (newTuple rest >>= fun t => pure (ps.zip us ++ [(pv, t)]))
theorem bind_star3 {B : List Value → Sem (List (Str × Value))} {p1 p2 p3 pv : Str} (h0 : ∀ a b c, B [a, b, c] = (newTuple [] >>= fun t => pure [(p1, a), (p2, b), (p3, c), (pv, t)])) (h1 : ∀ a b c r rs, B (a :: b :: c :: r :: rs) = (newTuple (r :: rs) >>= fun t => pure [(p1, a), (p2, b), (p3, c), (pv, t)])) :
    ∀ us rest : List Value, us.length = [p1, p2, p3].length → B (us ++ rest) = (newTuple rest >>= fun t => pure ([p1, p2, p3].zip us ++ [(pv, t)]))
  | [a, b, c], [], _ => h0 a b c
  | [a, b, c], r :: rs, _ => h1 a b c r rs
/-- a call's promise by the def's own: what is left over is a new tuple -/
def spV (n : Nat) (sp : Sp) : Sp := fun vs H Q E => ∃ ws rest, vs = ws ++ rest ∧ ws.length = n ∧ rest.length ≤ sizeLine ∧ ∀ p, H p = none → sp (ws ++ [V.ref p]) (upd H p (.tup rest)) Q E
section
variable {w : World} {P : Program} {K : PySem.W.Frag} {mg : Str → Option Value} {base : Heap}
theorem Fun.bindsV {x qual pv : Str} {st : Stmt} {f : Addr} {fd : FuncData} {ps : List Str} (F : Fun K x qual st f fd)
    (h : ∀ (kV doc pm : Value) (an : Option Addr) (cdv ct : Value) (us rest : List Value), us.length = ps.length → bindArgs (PySem.W.fnOf x qual (defArgs st) (defBody st) (defScope st) .none kV doc pm an cdv ct) ⟨us ++ rest, []⟩ = (newTuple rest >>= fun t => pure (ps.zip us ++ [(pv, t)]))) : BindV fd ps pv := by
  obtain ⟨oc, od, kV, doc, pm, an, cdv, ct, osl, rfl, lk, hcd⟩ := F.ex
  exact ⟨h kV doc pm an cdv ct⟩
theorem Fun.okV {x qual pv : Str} {st : Stmt} {f : Addr} {fd : FuncData} {N ps : List Str} {k : Nat} {sp : Sp} (F : Fun K x qual st f fd) (B : BindV fd ps pv) (S : FnScope N (ps ++ [pv]) (defScope st))
    (hbody : ∀ (cdv : Value) (A : Around) (outer : List Env) (s : Shared) (H : Hp) (vs : List V) (Q : VK) (E : XK), Room k (A.deeper (envOfC qual (defScope st) s.heap.objs.size f cdv)) → sp vs H Q E →
      ∃ t, PSs (cxOf (L2.CX P w) P w K mg base N qual (defScope st) f cdv A outer s H E) (defBody st) t ∧ t { nx := fun _ H' => Q .non H', rt := Q } (start N vs) H) : FnR P w K mg base (L2.CX P w) (k + 1) f (spV ps.length sp) := by
  obtain ⟨oc, od, kV, doc, pm, an, cdv, ct, osl, rfl, lk, hcd⟩ := F.ex
  exact StX.fn_star lk hcd S StX.cxUp B.b fun A outer s H vs Q E hr hsp => hbody cdv A outer s H vs Q E hr hsp
end
section
variable {X : Cx} {CX : CXT} {k : Nat} {f C : Addr} {sp : Sp} {E : L2.St → XK} {x : Str} {e : Expr} {es : List Expr} {t : TA} {p pos : Pos}
theorem run_makeV {pins : List (Addr × Obj)} {σ : L2.St} {H : Hp} {s : Shared} {Q : VK} {us : List Value} {vs : List V} (M : Mk X.K C f) (F : FnR X.prog X.w X.K X.mg X.base CX k f sp) (hr : Room (k + 1) X.A)
    (hx : PassesAt CX X σ (E σ)) (I : Inv X pins σ H s) (r : Vals vs us)
    (h : ∀ x dx, H x = none → H dx = none → dx ≠ x → sp (.ref x :: vs) (upd (upd H dx (.own x)) x (.ins C dx [])) (fun v H2 => v = .non ∧ Q (.ref x) H2) (E σ)) :
    wpAny (model X.prog X.w) X.A (call (.ref C) us) (EP X pins σ Q) X.xe s := by
  have hq := h (s.heap.objs.size + 1) s.heap.objs.size (I.hok.fresh (Nat.le_succ _)) (I.hok.fresh (Nat.le_refl _)) (Nat.ne_of_lt (Nat.lt_succ_self _))
  have I2 := Inv.made (C := C) I
  have r2 : Vals (V.ref (s.heap.objs.size + 1) :: vs) (Value.ref (s.heap.objs.size + 1) :: us) := .cons rfl r
  refine wpAny_call (make_map (f := f) I.kIn M.makes M.init (beq_iff_eq.mp M.fn) (codeAny_mono (F _ X.stack _ _ (Value.ref (s.heap.objs.size + 1) :: us) _ _ (E σ) (hr.make C us []) (I2.env0.make C us []) r2 hq) fun r s' hq' => ?_))
  cases r with
  | error e => exact hx pins _ _ e s' I2 hq'
  | ok fl =>
    cases fl with
    | ret u =>
      obtain ⟨v, H', I3, rv, ev, q3⟩ := I2.after hq'
      subst ev
      exact ⟨rv, ⟨V.ref (s.heap.objs.size + 1), H', I3, rfl, q3⟩⟩
    | next => exact False.elim hq'
    | brk => exact False.elim hq'
    | cont => exact False.elim hq'
/-- C(a, .., b), the class's __init__ with a star parameter -/
theorem pe_makeV (M : Mk X.K C f) (F : FnR X.prog X.w X.K X.mg X.base CX k f sp) (hr : Room (k + 1) X.A) (hg : Gl X x) (hm : X.mg x = some (.ref C)) (hx : ∀ σ, PassesAt CX X σ (E σ))
    (ha : PA X (e :: es) t) (hdb : (x == ("__debug__" : Str)) = false := by decide) (he : starEach (e :: es) X.env = (false, eval e X.env) :: starEach es X.env := by rfl) (hpl : (backTo pos (starEach es X.env)).any (·.1) = false := by rfl) :
    PE X (.Call (.Name x p) (e :: es) [] pos) (tMakeS C sp E t) := by
  refine ⟨fun pins s σ H Q I h => ?_⟩
  refine wpAny_Call_Name_kw (ld_glob I hg hm ?_ hdb)
  refine PySem.W.callWith_K (h₀ := X.base) I.ok.mod.kin M.kp (thn (ha.run pos pins s σ H _ I h) fun us s1 ⟨vs, H1, I1, r, q⟩ => ⟨I1.kIn, ?_⟩) he hpl
  exact run_makeV M F hr (hx σ) I1 r q
end
end Vc

/-! Xr: ranges of any size: walked, made into lists (my own; over the library's LongRange and KdlSrc). -/
namespace Vc
open PySem PySem.Spec PyProof.Rows L2
theorem turn_long {P : Program} {w : World} {K : PySem.W.Frag} {tg : Expr} (it : Addr) (lo : Int) (n : Nat) : Turn P w K tg (Itr lo n) [it] it (fun i h => IsLongIter h it (lo + (i : Nat) * 1) ((n : Int) - (i : Nat)) 1) where
  mem := List.mem_singleton.mpr rfl
  obj := fun i h st b hb => by
    cases List.mem_singleton.mp hb
    refine ⟨_, st, fun v z => ?_⟩
    have q : Data.fields #[rawInt (lo + (i : Nat) * 1), rawInt ((n : Int) - (i : Nat)), rawInt 1] = Data.cell v := z
    cases q
  keep := fun i h h' st k => k it (List.mem_singleton.mpr rfl) _ st
  item := by
    intro X hP hw hK hc i pins s σ H E I hf st hg
    subst hP hw hK
    obtain ⟨f0, f1, f2, f3, f4, f5⟩ := hf it (List.mem_singleton.mpr rfl)
    refine (Walks.longrange (prog := X.prog) (w := X.w) (I.ok.hd hc) it lo 1 n).item i s _ _ hg st fun v h' tk hv st' kk => ?_
    obtain ⟨t, rfl⟩ := hv
    have J : Inv X pins σ H { s with heap := h', toks := tk } := I.turned (fun b o hb e => kk b o (fun z => hb (List.mem_singleton.mp z)) e) f0 f1 f3 f4 f5
    refine ⟨_, rfl, go_of (s := { s with heap := h', toks := tk }) (n := "longrange_iterator") st' rfl rfl (by decide) ⟨.int (lo + i), H, J, ⟨t, by rw [Int.mul_one]⟩, ⟨rfl, rfl⟩, st', fun b hb => (hf b hb).1⟩⟩
  done := by
    intro X hP hw hK hc i pins s σ H E I hf st hg
    subst hP hw hK
    obtain ⟨f0, f1, f2, f3, f4, f5⟩ := hf it (List.mem_singleton.mpr rfl)
    have hz : (n : Int) - (i : Nat) ≤ 0 := by have : n ≤ i := hg; omega
    exact wpAny_pyNext_long_end (I.ok.hd hc) st hz fun h' eb => ⟨rfl, I.turned (t' := s.toks) (fun b o hb e => eb b o hb e) f0 f1 f3 f4 f5⟩
  self := fun _ _ _ _ _ st h => wpAny_pyIter_longiter st h
theorem size_one (a b : Int) : Builtin.Range.rangeSize a b 1 = (((b - a).toNat : Nat) : Int) := rangeSize_nat a b
/-- a range object that stands, walked; of any size -/
theorem range_itL {tg : Expr} {X : Cx} {pins : List (Addr × Obj)} {σ : L2.St} {H : Hp} {s : Shared} {R : It → Hp → Prop} {E : Value → Shared → Prop} {lo hi : Int} {t u v : Tok} {tk : Nat} (I : Inv X pins σ H s)
    (q : R (Itr lo (hi - lo).toNat) H) : wpAny (model X.prog X.w) X.A (pyIter (.ref s.heap.objs.size)) (PIE X pins σ tg R) E { s with heap := s.heap.push { cls := .type "range", data := .fields #[.int lo t, .int hi u, .int 1 v] }, toks := tk } := by
  have J : Inv X pins σ H { s with heap := s.heap.push { cls := .type "range", data := .fields #[.int lo t, .int hi u, .int 1 v] }, toks := tk } := I.kept fun b o e => Heap.get?_push_of_some _ e
  have z1 : lo + ((0 : Nat) : Int) * 1 = lo := by simp
  have z2 : (((hi - lo).toNat : Nat) : Int) - ((0 : Nat) : Int) = Builtin.Range.rangeSize lo hi 1 := by rw [size_one]; simp
  by_cases hs : Builtin.Range.small lo hi 1 = true
  · refine wpAny_pyIter_range (IsRange.new ..) hs ?_
    refine ⟨_, [_], _, _, H, rfl, J.kept (t' := tk) fun b o e => Heap.get?_push_of_some _ e, turn_range _ lo (hi - lo).toNat, ?_, fun b hb => ?_, q⟩
    · show IsRangeIter _ _ (lo + ((0 : Nat) : Int) * 1) ((((hi - lo).toNat : Nat) : Int) - ((0 : Nat) : Int)) 1
      rw [z1, z2]
      exact Heap.get?_push_size _ rfl
    · cases List.mem_singleton.mp hb
      exact J.fpOk (Nat.le_refl _) (J.hok.fresh (Nat.le_refl _))
  · refine wpAny_pyIter_longrange (IsRange.new ..) (Bool.eq_false_iff.mpr hs) ?_
    refine ⟨_, [_], _, _, H, rfl, J.kept (t' := tk) fun b o e => Heap.get?_push_of_some _ e, turn_long _ lo (hi - lo).toNat, ?_, fun b hb => ?_, q⟩
    · show IsLongIter _ _ (lo + ((0 : Nat) : Int) * 1) ((((hi - lo).toNat : Nat) : Int) - ((0 : Nat) : Int)) 1
      rw [z1, z2]
      exact Heap.get?_push_size _ rfl
    · cases List.mem_singleton.mp hb
      exact J.fpOk (Nat.le_refl _) (J.hok.fresh (Nat.le_refl _))
/-- for x in range(a, b), a and b of any size -/
def iRngL (ta : TA) : TI := fun σ H R => ta σ H fun vs H1 => ∃ i j : Int, vs = [.int i, .int j] ∧ R (Itr i (j - i).toNat) H1
theorem pi_rangeL {tg : Expr} {X : Cx} {a b : Expr} {ta : TA} {p pos : Pos} (hg : Gl X "range") (hm : X.mg "range" = none) (ha : PA X [a, b] ta) (hs : starEach [a, b] X.env = [(false, eval a X.env), (false, eval b X.env)] := by rfl) (hs2 : starEach [b] X.env = [(false, eval b X.env)] := by rfl) :
    PI X tg (.Call (.Name "range" p) [a, b] [] pos) (iRngL ta) := by
  refine ⟨fun pins s σ H R I h => ?_⟩
  refine Call_ (ld_blt I hg hm boot_range (PyProof.Rows.callWith_type1 (thn (ha.run pos pins s σ H _ I h) fun us s1 ⟨vs, H1, I1, r1, i, j, e, q⟩ => ?_) (by rw [hs, hs2]) (by rw [hs2]; rfl)))
  subst e
  rcases r1 with _ | ⟨⟨t, rfl⟩, _ | ⟨⟨t', rfl⟩, _ | _⟩⟩
  exact call_range_2 (range_itL I1 q)
theorem go_iRngL {ta : TA} {σ : L2.St} {H : Hp} {R : It → Hp → Prop} (h : ta σ H fun vs H1 => ∃ i j : Int, vs = [.int i, .int j] ∧ R (Itr i (j - i).toNat) H1) : iRngL ta σ H R := h
theorem go_iRngLV {i j : Int} {P : Int → Int → Prop} (h : P i j) : ∃ i' j' : Int, [V.int i, V.int j] = [.int i', .int j'] ∧ P i' j' := ⟨i, j, rfl, h⟩
/-! ### list(range(a, b)), a and b of any size -/
section
variable {prog : Program} {w : World} {A : Around} {E : Value → Shared → Prop} {s : Shared}
/-- the list's own loop, from where its iterator stands -/
theorem long_loop {R : Result → Shared → Prop} {r it : Addr} {a c : Int} {n : Nat} (hh : A.handled = none) (hlen : n ≤ sizeLine) (S : Addr) (hSI : S ≠ it) (res : Value) (c₁ : Nat) (h0 : Heap) (base : Heap) (tk : Nat)
    (st : IsLongIter h0 it (a + ((0 : Nat) : Int) * c) ((n : Int) - ((0 : Nat) : Int)) c) (kb : ∀ b o, b ≠ S → base.get? b = some o → h0.get? b = some o) (nI : base.get? it = none) (hS : h0.get? S = some { cls := .type "list", data := .seq #[] c₁ })
    (hR : ∀ h' tk acc' c', (∀ b o, b ≠ S → base.get? b = some o → h'.get? b = some o) → h'.get? S = some { cls := .type "list", dict := none, data := .seq acc' c', slots := #[] } → ItemsOf (fun i v => ∃ t, v = .int (a + i * c) t) acc' n → R (.ok (.ret res)) { s with heap := h', toks := tk }) :
    codeAny (model prog w) A (.builtin "list.extend.loop" ⟨[.ref S, .ref it, res], []⟩) R { s with heap := h0, toks := tk } := by
  refine codeAny_extend_loopS (Walks.longrange (prog := prog) (w := w) (A := A.in1) hh it a c n).toS hlen S (fun z => hSI (List.mem_singleton.mp z)) res n 0 { s with heap := h0, toks := tk } #[] c₁ rfl (Nat.zero_le _) st hS (ItemsOf.nil _) fun s' acc' c' hm hS' hacc => ?_
  rw [Moved.eq_with hm]
  refine hR s'.heap s'.toks acc' c' (fun b o hb e => hm.heap b o (fun z => ?_) (kb b o hb e)) hS' hacc
  rcases List.mem_cons.mp z with z | z
  · exact hb z
  · rw [List.mem_singleton.mp z, nI] at e; cases e
theorem long_extend {R : Result → Shared → Prop} {r : Addr} {a b c : Int} {t u v : Tok} {n : Nat} (hh : A.handled = none) (hr : IsRange s.heap r a b c t u v) (hbig : Builtin.Range.small a b c = false) (hn : Builtin.Range.rangeSize a b c = n) (hlen : n ≤ 2 ^ 24)
    (S : Addr) (res : Value) (c₀ : Nat) (hS : s.heap.get? S = some { cls := .type "list", data := .seq #[] c₀ })
    (hR : ∀ h' tk acc' c', (∀ b o, b ≠ S → s.heap.get? b = some o → h'.get? b = some o) → h'.get? S = some { cls := .type "list", dict := none, data := .seq acc' c', slots := #[] } → ItemsOf (fun i v => ∃ t, v = .int (a + i * c) t) acc' n → R (.ok (.ret res)) { s with heap := h', toks := tk }) :
    wpAny (model prog w) A.in1 (Builtin.List.listExtendWith (.ref S) (.ref r) res)
      (fun fin s' => match fin with | .done f => R (.ok f) s' | .again c' => c'.quiet = true ∧ codeAny (model prog w) A c' R s') (fun e s' => R (.error e) s') s := by
  have nSr : S ≠ r := fun e => by rw [e, hr] at hS; simp at hS
  have nSI : S ≠ s.heap.objs.size := Nat.ne_of_lt (Heap.lt_size hS)
  have nI : s.heap.get? s.heap.objs.size = none := by
    cases q : s.heap.get? s.heap.objs.size with
    | none => rfl
    | some o => exact absurd (Heap.lt_size q) (Nat.lt_irrefl _)
  generalize hO : ({ cls := .type "longrange_iterator", data := .fields #[rawInt a, rawInt (Builtin.Range.rangeSize a b c), rawInt c] } : Obj) = oI
  have st0 : ∀ h : Heap, h.get? s.heap.objs.size = some oI → IsLongIter h s.heap.objs.size (a + ((0 : Nat) : Int) * c) ((n : Int) - ((0 : Nat) : Int)) c := fun h e => by
    show h.get? _ = some _
    rw [e, ← hO, hn]; simp
  have hl : n ≤ sizeLine := by rw [sizeLine_eq]; omega
  unfold Builtin.List.listExtendWith
  refine wpAny_bind (wpAny_typeOf (T := "range") ⟨_, hr, rfl⟩ ?_)
  have q1 : Builtin.List.listSameRef (.ref S) (.ref r) = false := by simp [Builtin.List.listSameRef, nSr]
  have q2 : ((Value.type "range" == Value.type "list") || (Value.type "range" == Value.type "tuple")) = false := by decide
  simp only [q1, q2, Bool.or_false, Bool.false_or, Bool.false_eq_true, if_false]
  refine wpAny_bind (wpAny_pyIter_longrange hr hbig ?_)
  rw [hO]
  refine wpAny_bind (wpAny_holding (wpAny_hint_range (n := n) (Heap.get?_push_of_some _ hr) hn hlen ?_))
  have p1 : (s.heap.push oI).get? s.heap.objs.size = some oI := by subst hO; exact Heap.get?_push_size _ rfl
  have p2 := Heap.get?_push_of_some oI hS
  refine wpAny_ite_split (fun _ => ?_) (fun _ => wpAny_pure ⟨plainId_quiet F.plain_extend_loop _, long_loop (prog := prog) (w := w) (s := s) (r := r) hh hl S nSI res c₀ _ s.heap _ (st0 _ p1) (fun b o _ e => Heap.get?_push_of_some _ e) nI p2 hR⟩)
  refine wpAny_bind (wpAny_rule (wpAny_bind ?_))
  show wpAny _ _ (updateSeq S (·.push .none) >>= fun _ => updateSeq S (·.pop)) _ _ _
  refine wpAny_bind (wpAny_updateSeq p2 rfl ?_)
  have p3 := Heap.get?_update_self (Obj.mapSeq (·.push Value.none)) p2 rfl
  refine wpAny_updateSeq (hz := by seq_fits) p3 rfl ?_
  have p4 := Heap.get?_update_self (Obj.mapSeq (·.pop)) p3 rfl
  refine wpAny_pure ⟨plainId_quiet F.plain_extend_loop _, long_loop (prog := prog) (w := w) (s := s) (r := r) hh hl S nSI res _ _ s.heap _ (st0 _ ?_) (fun b o hb e => ?_) nI p4 hR⟩
  · rw [Heap.get?_update_other _ _ nSI, Heap.get?_update_other _ _ nSI]; exact p1
  · rw [Heap.get?_update_other _ _ (Ne.symm hb), Heap.get?_update_other _ _ (Ne.symm hb)]; exact Heap.get?_push_of_some _ e
theorem long_init {R : Result → Shared → Prop} {r : Addr} {a b c : Int} {t u v : Tok} {n : Nat} (hh : A.handled = none) (hr : IsRange s.heap r a b c t u v) (hbig : Builtin.Range.small a b c = false) (hn : Builtin.Range.rangeSize a b c = n) (hlen : n ≤ 2 ^ 24)
    (S : Addr) (hS : s.heap.get? S = some { cls := .type "list", data := .seq #[] })
    (hR : ∀ h' tk acc' c', (∀ b o, b ≠ S → s.heap.get? b = some o → h'.get? b = some o) → h'.get? S = some { cls := .type "list", dict := none, data := .seq acc' c', slots := #[] } → ItemsOf (fun i v => ∃ t, v = .int (a + i * c) t) acc' n → R (.ok (.ret .none)) { s with heap := h', toks := tk }) :
    wpAny (model prog w) A.in1 (Builtin.«list.__init__» ⟨[.ref S, .ref r], []⟩)
      (fun fin s' => match fin with | .done f => R (.ok f) s' | .again c' => c'.quiet = true ∧ codeAny (model prog w) A c' R s') (fun e s' => R (.error e) s') s := by
  have nSr : S ≠ r := fun e => by rw [e, hr] at hS; simp at hS
  show wpAny _ _ (do let old ← Builtin.List.listItems (.ref S); Builtin.List.listUpdate (.ref S) (fun _ => #[]); letGo old.toList.reverse; Builtin.List.listExtendWith (.ref S) (.ref r) .none) _ _ s
  unfold Builtin.List.listItems
  refine wpAny_bind (wpAny_bind (wpAny_seqItems hS rfl (wpAny_pure ?_)))
  show wpAny _ _ (updateSeq S (fun _ => #[]) >>= fun _ => letGo (#[] : Array Value).toList.reverse >>= fun _ => Builtin.List.listExtendWith (.ref S) (.ref r) .none) _ _ s
  refine wpAny_bind (wpAny_updateSeq hS rfl (wpAny_bind (wpAny_letGo ?_)))
  have oth : ∀ {b : Addr} {o : Obj}, b ≠ S → s.heap.get? b = some o → (s.heap.update S (Obj.mapSeq (fun _ => (#[] : Array Value)))).get? b = some o :=
    fun hb e => by rw [Heap.get?_update_other _ _ (Ne.symm hb)]; exact e
  refine long_extend hh (oth (Ne.symm nSr) hr) hbig hn hlen S .none _ (Heap.get?_update_self _ hS rfl) fun h' tk acc' c' hk hS' hacc => ?_
  exact hR h' tk acc' c' (fun b o hb e => hk b o hb (oth hb e)) hS' hacc
theorem call_list_rangeL {Q : Value → Shared → Prop} {r : Addr} {a b c : Int} {t u v : Tok} {n : Nat} (hh : A.handled = none) (hr : IsRange s.heap r a b c t u v) (hn : Builtin.Range.rangeSize a b c = n) (hlen : n ≤ 2 ^ 24)
    (hQ : ∀ h' tk acc' c', (∀ b o, s.heap.get? b = some o → h'.get? b = some o) → h'.get? s.heap.objs.size = some { cls := .type "list", dict := none, data := .seq acc' c', slots := #[] } → ItemsOf (fun i v => ∃ t, v = .int (a + i * c) t) acc' n → Q (.ref s.heap.objs.size) { s with heap := h', toks := tk }) :
    wpAny (model prog w) A (call (.type "list") [.ref r]) Q E s := by
  by_cases hs : Builtin.Range.small a b c = true
  · exact call_list_range hh hr hs hn hlen hQ
  · refine callType_codes (Q₁ := fun obj s₁ => obj = .ref s.heap.objs.size ∧ s₁ = { s with heap := s.heap.push { cls := .type "list", data := .seq #[] } }) F.called_list (F.typeCall_list_1 _) F.entry_list_init (code_list_new _ ⟨rfl, rfl⟩) fun obj s₁ h₁ => ?_
    obtain ⟨rfl, rfl⟩ := h₁
    have hS : (s.heap.push { cls := .type "list", data := .seq #[] }).get? s.heap.objs.size = some { cls := .type "list", data := .seq #[] } := Heap.get?_push_size _ rfl
    exact ⟨⟨_, hS, rfl⟩, F.args_list_init_2 _ _, long_init (A := A.in1) hh (Heap.get?_push_of_some _ hr) (Bool.eq_false_iff.mpr hs) hn hlen _ hS fun h' tk acc' c' hk hS' hacc =>
      ⟨rfl, hQ h' tk acc' c' (fun b o e => hk b o (Nat.ne_of_lt (Heap.lt_size e)) (Heap.get?_push_of_some _ e)) hS' hacc⟩⟩
end
/-- the ints a .. b - 1 -/
def rgI (a b : Int) : List Int := (List.range (b - a).toNat).map fun i => a + (i : Nat)
theorem rgI_len (a b : Int) : (rgI a b).length = (b - a).toNat := by unfold rgI; rw [List.length_map, List.length_range]
theorem rgI_V (a b : Int) : (rgI a b).map V.int = rgV a b := by unfold rgI rgV; rw [List.map_map]; rfl
def tLstRgL (te : L2.St → Hp → (Int → Int → Hp → Prop) → Prop) : TE := fun σ H Q => te σ H fun a b H1 => (b - a).toNat ≤ 2 ^ 24 ∧ ∀ q, H1 q = none → Q (.ref q) (upd H1 q (.lst ((rgI a b).map V.int)))
/-- list(range(..)) -/
theorem pe_listRgL {X : Cx} {e : Expr} {te : L2.St → Hp → (Int → Int → Hp → Prop) → Prop} {p pos : Pos} (hc : X.calm = true) (hg : Gl X "list") (hm : X.mg "list" = none) (he : PRg X e te) (na : starEach [e] X.env = (false, eval e X.env) :: starEach [] X.env := by rfl) : PE X (.Call (.Name "list" p) [e] [] pos) (tLstRgL te) := by
  refine ⟨fun pins s σ H Q I h => ?_⟩
  refine Call_ (ld_blt I hg hm boot_list (PyProof.Rows.callWith_type1 (args_cons (thn (he pins s σ H _ I h) fun x s1 ⟨r, a, b, t, u, v, H1, ex, hr, I1, ok, q⟩ => args_nil ?_) na) na))
  subst ex
  refine call_list_rangeL (n := (b - a).toNat) (I1.ok.hd hc) hr (rangeSize_nat a b) ok fun h' tk acc c' hk e' hi => ?_
  have hz : ((rgI a b).map V.int).length ≤ sizeLine := by rw [List.length_map, rgI_len, sizeLine_eq]; omega
  refine ⟨.ref s1.heap.objs.size, _, I1.laid hk (Nat.le_refl _) (show ObjOk X.prog X.w _ _ _ (.lst ((rgI a b).map V.int)) from ⟨hz, acc.toList, c', by rw [rgI_V]; exact vals_rg hi, by rw [Array.toArray_toList]; exact e'⟩), rfl, q _ (I1.hok.fresh (Nat.le_refl _))⟩
section
variable {ta tb : TE} {σ : L2.St} {H : Hp} {Q : VK} {K : PySem.W.Frag}
theorem go_lstRg (h : ta σ H fun x H1 => tb σ H1 fun y H2 => ∃ i j, x = .int i ∧ y = .int j ∧ (j - i).toNat ≤ 2 ^ 24 ∧ ∀ q, H2 q = none → Q (.ref q) (upd H2 q (.lst ((rgI i j).map V.int)))) : tLstRgL (tRg2 ta tb) σ H Q := h
theorem go_lstRgV {i j : Int} {P : Int → Int → Prop} (h : P i j) : ∃ i' j' : Int, V.int i = .int i' ∧ V.int j = .int j' ∧ P i' j' := ⟨i, j, rfl, rfl, h⟩
theorem go_minL {p : Addr} {ns : List Int} (e : SqL K H p (ns.map V.int)) (l : 0 < ns.length) (h : ∀ m, m ∈ ns → (∀ y, y ∈ ns → m ≤ y) → Q (.int m) H) : rMin K [.ref p] H Q := ⟨p, ns, rfl, e, l, h⟩
end
/-! ### the plain law of such lists -/
theorem rgI_nil {a b : Int} (h : b ≤ a) : rgI a b = [] := by
  unfold rgI
  have : (b - a).toNat = 0 := by omega
  rw [this]; rfl
theorem rgI_snoc {a b : Int} (h : a ≤ b) : rgI a (b + 1) = rgI a b ++ [b] := by
  unfold rgI
  have e : (b + 1 - a).toNat = (b - a).toNat + 1 := by omega
  rw [e, List.range_succ, List.map_append]
  have : a + (((b - a).toNat : Nat) : Int) = b := by omega
  rw [List.map_cons, List.map_nil, this]
theorem rgI_app {a b : Int} (h : a ≤ b) : ∀ n : Nat, rgI a b ++ rgI b (b + n) = rgI a (b + n)
  | 0 => by rw [show b + ((0 : Nat) : Int) = b by omega, rgI_nil (Int.le_refl b), List.append_nil]
  | n + 1 => by
    have e : b + ((n + 1 : Nat) : Int) = (b + n) + 1 := by omega
    rw [e, rgI_snoc (a := b) (by omega), rgI_snoc (a := a) (by omega), ← List.append_assoc, rgI_app h n]
theorem rgI_cat {a b c : Int} (h : a ≤ b) (k : b ≤ c) : rgI a b ++ rgI b c = rgI a c := by
  have := rgI_app h (c - b).toNat
  rwa [show b + (((c - b).toNat : Nat) : Int) = c by omega] at this
theorem rgI_last {a b : Int} (h : a ≤ b) : (rgI a (b + 1))[(b - a).toNat]? = some b := by
  rw [rgI_snoc h, List.getElem?_append_right (by rw [rgI_len]; exact Nat.le_refl _), rgI_len]
  simp
theorem rgI_get {a b : Int} {i : Nat} {x : Int} (h : (rgI a b)[i]? = some x) : x = a + i ∧ a + i < b := by
  unfold rgI at h
  rw [List.getElem?_map] at h
  cases e : (List.range (b - a).toNat)[i]? with
  | none => rw [e] at h; cases h
  | some k =>
    rw [e] at h
    obtain ⟨hk, rfl⟩ := List.getElem?_eq_some_iff.mp e
    rw [List.getElem_range] at h
    rw [List.length_range] at hk
    cases h
    exact ⟨rfl, by omega⟩
end Vc

/-! Xl: a loop over a locked thing that may raise: the error leaves the lock (my own; over HandS.Iter's lock). -/
namespace Vc
open PySem PySem.Spec PyProof.Rows L2
def lockW (W : WX) (d : Addr) (od : Obj) (u : HO) : WX := fun cls dd σ H => H d = some (.frz od u) ∧ W cls dd σ (upd H d u)
def unD (D : Ends) (d : Addr) (od : Obj) (u : HO) : Ends := ⟨fun σ' H' => H' d = some (.frz od u) ∧ D.nx σ' (upd H' d u), fun v H' => H' d = some (.frz od u) ∧ D.rt v (upd H' d u), fun σ' H' => H' d = some (.frz od u) ∧ D.bk σ' (upd H' d u), fun σ' H' => H' d = some (.frz od u) ∧ D.ct σ' (upd H' d u)⟩
def tLockX (W : WX) (tb : WX → TS) : TS := fun D σ H => ∃ d u, H d = some u ∧ Mut (some u) ∧ ∀ od, tb (lockW W d od u) (unD D d od u) σ (upd H d (.frz od u))
theorem ps_lockX {X : Cx} {st : Stmt} {W : WX} {tb : WX → TS} (po : PassesOwn (model X.prog X.w) X.A X.env X.xe) (tk : Takes X W)
    (hb : ∀ (W : WX) (pn : List (Addr × Obj)) (xe : Value → Shared → Prop), Takes (X.tr pn xe) W → PassesOwn (model X.prog X.w) X.A X.env xe → PS (X.tr pn xe) st (tb W)) : PS X st (tLockX W tb) := by
  refine ⟨fun pins s σ H D I hw => ?_⟩
  obtain ⟨d, u, hd, mu, hw⟩ := hw
  obtain ⟨od, I1⟩ := I.lock hd mu
  have nf := I.nofrz hd mu
  have ok := I.ok
  have T : Takes (X.tr (X.pn ++ pins) X.xe) (lockW W d od u) := fun u' s' ⟨a, B, sI, pins', σ', H', cls, dd, e, I', nb, up, sky, na, os, ag, hf, w⟩ =>
    tk u' s' ⟨a, B, sI, pins, σ', upd H' d u, cls, dd, e, (I'.ofTry ok).unlock hf nf, nb, up, sky, by
      have : a ≠ d := fun z => by rw [z, hf] at na; cases na
      rw [upd_ne this]; exact na, os, ag, w⟩
  refine thn ((hb (lockW W d od u) (X.pn ++ pins) X.xe T po).run [] s σ (upd H d (.frz od u)) (unD D d od u) (I1.toTry _) (hw od)) fun f s1 q => ?_
  cases f with
  | next => obtain ⟨σ', H', I2, e, q⟩ := q; exact ⟨σ', _, (I2.ofTry ok).unlock e nf, q⟩
  | brk => obtain ⟨σ', H', I2, e, q⟩ := q; exact ⟨σ', _, (I2.ofTry ok).unlock e nf, q⟩
  | cont => obtain ⟨σ', H', I2, e, q⟩ := q; exact ⟨σ', _, (I2.ofTry ok).unlock e nf, q⟩
  | ret v => obtain ⟨x, σ', H', I2, r, e, q⟩ := q; exact ⟨x, σ', _, (I2.ofTry ok).unlock e nf, r, q⟩
section
variable {σ : L2.St} {H : Hp} {D : Ends} {g : TG} {t : WX → TS} {W : WX}
/-- for k in d, where a turn may raise -/
theorem lockX_keys {n : Nat} {d : Addr} {kvs : List (Key × V)} (hv : σ[n]? = some (some (.ref d))) (hd : H d = some (.dK kvs)) (S : List Addr) (Pv : Hp → Nat → L2.St → Hp → Prop) (hE : ∀ H1 i σ' H', Pv H1 i σ' H' → Ed S H1 H')
    (h0 : ∀ H1 od, Ed [d] H H1 → H1 d = some (.frz od (.dK kvs)) → Pv H1 0 σ H1)
    (turn : ∀ H1 od i k w σ' H' (W' : WX), (∀ cls dd σ3 H3, Ed S H1 H3 → (∀ H4, Ed S H H4 → H4 d = some (.dK kvs) → (∀ a o, a ≠ d → H3 a = some o → H4 a = some o) → W cls dd σ3 H4) → W' cls dd σ3 H3) →
      Ed [d] H H1 → H1 d = some (.frz od (.dK kvs)) → H' d = some (.frz od (.dK kvs)) → kvs[i]? = some (k, w) → Pv H1 i σ' H' →
      g (kV k) σ' H' fun σ2 H2 => t W' { nx := Pv H1 (i + 1), ct := Pv H1 (i + 1), rt := fun v H3 => H3 d = some (.frz od (.dK kvs)) ∧ D.rt v (upd H3 d (.dK kvs)), bk := fun σ3 H3 => H3 d = some (.frz od (.dK kvs)) ∧ D.nx σ3 (upd H3 d (.dK kvs)) } σ2 H2)
    (done : ∀ H1 σ' H' H2, Ed [d] H H1 → Pv H1 kvs.length σ' H' → Ed S H H2 → H2 d = some (.dK kvs) → (∀ a o, a ≠ d → H' a = some o → H2 a = some o) → D.nx σ' H2) : tLockX W (fun W' => tFor (iKeys (tVar n)) g (t W')) D σ H := by
  refine ⟨d, .dK kvs, hd, trivial, fun od => ?_⟩
  generalize hu : upd H d (.frz od (.dK kvs)) = H1
  obtain ⟨e1, h1⟩ := chg hu hd
  refine ⟨_, hv, d, od, rfl, .inl ⟨kvs, h1, for_it walk_keys (Pv H1) (h0 H1 od e1 h1) (fun i σ' H' _ p => (hE _ _ _ _ p).frz _ _ _ h1) (fun i x σ' H' H2 hi p y => ?_) fun σ' H' p => ?_⟩⟩
  · obtain ⟨rfl, k, w, hk, rfl⟩ := y
    refine turn H1 od i k w σ' H2 _ (fun cls dd σ3 H3 e3 hw => ?_) e1 h1 ((hE _ _ _ _ p).frz _ _ _ h1) hk p
    obtain ⟨e2, h2, k2⟩ := unlock hd trivial hu e3 rfl
    exact ⟨e3.frz _ _ _ h1, hw _ e2 h2 k2⟩
  · obtain ⟨e2, h2, k2⟩ := unlock hd trivial hu (hE _ _ _ _ p) rfl
    exact ⟨(hE _ _ _ _ p).frz _ _ _ h1, done H1 σ' H' _ e1 p e2 h2 k2⟩
end
end Vc

/-! Xj: an except suite (as n) that raises another error from the caught one; star calls that make an instance (my own; ways of HandS.SuiteRaise, HandS.RaiseFrom, HandS.ExcInitHot). -/
namespace Vc
open PySem PySem.Spec PyProof.Rows L2 HotX L2H
/-! ### errors whose context is None leave a def -/
theorem cxUpN {P : Program} {w : World} : StX.CXUp (L2N.CX P w) := by
  rintro outer s H s2 H2 E e s' un kp ho ⟨a, B, H', cls, d, ea, fl, hok, ub, na, os, ag, he⟩
  refine ⟨a, B, H', cls, d, ea, fl, hok, ⟨fun b o q n hb => ub.keep b o (kp b o q) (un.free b o q n (by simp)) hb, fun b o q hb => ub.slot b o (kp b o q) hb, fun b o q n => ub.free b o (kp b o q) (un.free b o q n (by simp)),
    fun b o q hb => ub.there b o (kp b o q) hb, fun b xs q => ub.tups b xs (un.tups b xs q), fun b o xs q => ub.frzs b o xs (un.frzs b o xs q), fun b ps q => ?_⟩, na, os.trans ho, ag, he⟩
  obtain ⟨m1, e1⟩ := un.tbls b ps q
  obtain ⟨m2, e2⟩ := ub.tbls b _ e1
  exact ⟨m1 ++ m2, by rw [e2, Array.append_assoc]⟩
theorem cx_weak {P : Program} {w : World} {outer : List Env} {H : Hp} {s : Shared} {E : XK} {u : Value} {s' : Shared} (h : L2N.CX P w outer H s E u s') : L2.CX P w outer H s E u s' := by
  obtain ⟨a, B, H', cls, d, ea, fl, r⟩ := h
  exact ⟨a, B, H', cls, d, ea, flyingZ_imp (fun o z => z.zc) fl, r⟩
theorem fnr_weak {P : Program} {w : World} {K : PySem.W.Frag} {mg : Str → Option Value} {base : Heap} {k : Nat} {f : Addr} {sp : Sp} (F : FnR P w K mg base (L2N.CX P w) k f sp) : FnR P w K mg base (L2.CX P w) k f sp :=
  fun A outer s H us vs Q E hr e0 r h => codeAny_mono (F A outer s H us vs Q E hr e0 r h) fun r s' hq => by
    cases r with
    | error e => exact cx_weak hq
    | ok fl => cases fl <;> exact hq
section
variable {w : World} {P : Program} {K : PySem.W.Frag} {mg : Str → Option Value} {base : Heap}
theorem Fun.okVN {x qual pv : Str} {st : Stmt} {f : Addr} {fd : FuncData} {N ps : List Str} {k : Nat} {sp : Sp} (F : Fun K x qual st f fd) (B : BindV fd ps pv) (S : FnScope N (ps ++ [pv]) (defScope st))
    (hbody : ∀ (cdv : Value) (A : Around) (outer : List Env) (s : Shared) (H : Hp) (vs : List V) (Q : VK) (E : XK), Room k (A.deeper (envOfC qual (defScope st) s.heap.objs.size f cdv)) → sp vs H Q E →
      ∃ t, PSs (cxOf (L2N.CX P w) P w K mg base N qual (defScope st) f cdv A outer s H E) (defBody st) t ∧ t { nx := fun _ H' => Q .non H', rt := Q } (start N vs) H) : FnR P w K mg base (L2N.CX P w) (k + 1) f (spV ps.length sp) := by
  obtain ⟨oc, od, kV, doc, pm, an, cdv, ct, osl, rfl, lk, hcd⟩ := F.ex
  exact StX.fn_star lk hcd S cxUpN B.b fun A outer s H vs Q E hr hsp => hbody cdv A outer s H vs Q E hr hsp
end
/-- X(..), X's own __init__ walked; where nothing is handled -/
theorem pmk_oexN {X : Cx} {CX : CXT} {x : Str} {e : Expr} {es : List Expr} {ta : TA} {p pos : Pos} {C fI : Addr} {k : Nat} {fd : FuncData} {ps : List Str} {sp : Sp} (T : OexC X.K C) (iC : PySem.W.findIn X.K (.ref C) "__init__" = some (some (.ref fI))) (tI : PySem.W.typeIn X.K (.ref fI) = some (.type "function"))
    (F1 : FnOk X.prog X.w X.K X.mg X.base CX k fI fd ps sp) (hr : Room (k + 1) X.A) (hb : Binds X.K fd ps []) (hx : Passes CX X (fun _ _ _ => False)) (hg : Gl X x) (hm : X.mg x = some (.ref C)) (ha : PA X (e :: es) ta)
    (hdb : (x == ("__debug__" : Str)) = false := by decide) (he : starEach (e :: es) X.env = (false, eval e X.env) :: starEach es X.env := by rfl) (hpl : (backTo pos (starEach es X.env)).any (·.1) = false := by rfl) :
    L2N.PMk X (.Call (.Name x p) (e :: es) [] pos) (tMkO C sp [] ta) := by
  intro pins s σ H Q I h
  obtain ⟨nm, q, N, bs, bm, sn, sub, ab, col, dd, k0, k1, k2, k3, k5, hC, hbm⟩ := T.cls
  refine wpAny_Call_Name_kw (ld_glob I hg hm ?_ hdb)
  refine PySem.W.callWith_K (h₀ := X.base) I.ok.mod.kin T.kC (thn (ha.run pos pins s σ H _ I h) fun us s1 ⟨vs, H1, I1, r1, hz, q1⟩ => ⟨I1.kIn, ?_⟩) he hpl
  show wpAny _ _ (call (.ref C) us) _ _ _
  obtain ⟨hp, g, dr, tk, os⟩ := s1
  have hsz : hp.objs.size ≤ hp.objs.size + 1 := Nat.le_succ _
  have hn : H1 (hp.objs.size + 1) = none := I1.hok.fresh hsz
  have hq := q1 (hp.objs.size + 1) hn
  rw [List.append_nil] at hq
  have kk : ∀ b o, hp.get? b = some o → ((hp.push (PySem.W.kdv_tup us)).push (PySem.HandSPX.excO C hp.objs.size)).get? b = some o := fun b o e => Heap.get?_push_of_some _ (Heap.get?_push_of_some _ e)
  have hget : ((hp.push (PySem.W.kdv_tup us)).push (PySem.HandSPX.excO C hp.objs.size)).get? (hp.objs.size + 1) = some (PySem.HandSPX.excO C hp.objs.size) := by heap_get
  have I2 : Inv X pins σ (upd H1 (hp.objs.size + 1) (exo (hp.objs.size + 1) C none)) ⟨(hp.push (PySem.W.kdv_tup us)).push (PySem.HandSPX.excO C hp.objs.size), g, dr, tk, os⟩ :=
    I1.laid (t' := tk) (a := hp.objs.size + 1) (o := exo (hp.objs.size + 1) C none) (h' := (hp.push (PySem.W.kdv_tup us)).push (PySem.HandSPX.excO C hp.objs.size)) kk hsz (exo_ok hget)
  have r2 : Vals (V.ref (hp.objs.size + 1) :: vs) (Value.ref (hp.objs.size + 1) :: us) := .cons rfl r1
  have hl : (Value.ref (hp.objs.size + 1) :: us ++ []).length = ps.length := by
    have e := r2.length
    rw [F1.len _ _ _ _ hq] at e
    rw [List.append_nil]
    exact e.symm
  have hus : us.length ≤ sizeLine := by
    rw [← Paired.length r1, sizeLine_eq]
    omega
  have b2 := hb _ (Value.ref (hp.objs.size + 1) :: us) I2.kIn hl
  rw [List.append_nil] at b2
  refine wpAny_call (PySem.HandSPX.call_own F.excBase_ValueError (fun Y => PySem.HandSPX.refsVE_contains Y bm hbm) (I1.kIn _ _ hC) (PySem.W.looks_findIn I1.kIn iC) (fun self => PySem.W.bind_fn I1.kIn self tI) hus
    (codeAny_mono (F1.run _ X.stack _ _ ⟨Value.ref (hp.objs.size + 1) :: us, []⟩ (Value.ref (hp.objs.size + 1) :: us) _ _ (fun _ _ _ => False) (hr.make C us []) (I2.env0.make C us []) b2 r2 hq) fun r s' hq' => ?_))
  cases r with
  | error er => exact hx pins σ _ _ er s' I2 hq'
  | ok fl =>
    cases fl with
    | ret u =>
      obtain ⟨v, H2, os2, bare2, un2, hok2, rv, ev, d, fs, ea, ed, hd1, q2⟩ := hq'
      subst ev
      obtain ⟨h2, g2, d2, t2, os'⟩ := s'
      obtain ⟨t0, G, J, kG, ge, hoe, na⟩ := mk_end0 (d2 := d2) (t2 := t2) I1 hsz kk un2 hok2 os2 bare2 ea ed hd1
      refine ⟨rv, ⟨hp.objs.size + 1, _, _, ⟨G, g2, d2, t2, os'⟩, _, .ref C, some d, rfl, J, kG, ge, hoe, ⟨rfl, rfl, fun vs hv => ?_⟩, rfl, rfl, na, rfl, bare2, raises_own T.exC T.tyC, q2⟩⟩
      cases hv
      rfl
    | next => exact False.elim hq'
    | brk => exact False.elim hq'
    | cont => exact False.elim hq'
theorem ps_raiseN {X : Cx} {W : WX} {e : Expr} {t : L2.St → Hp → XK → Prop} {pos : Pos} (hc : X.calm = true) (tk : L2N.Takes X W) (he : L2N.PMk X e t) : PS X (.Raise (some e) none pos) (tRaise W t) := L2N.ps_raise hc tk he
/-! ### an error's __init__ also where one is handled -/
theorem FnHt.toH {P : Program} {w : World} {K : PySem.W.Frag} {mg : Str → Option Value} {base : Heap} {k : Nat} {f : Addr} {fd : FuncData} {ps : List Str} {sp : Sp} (F : FnHt P w K mg base k f fd ps sp) : FnH P w K mg base CX0 k f fd ps sp :=
  ⟨F.len, fun A outer s H args us vs Q E p hr _ _ e0 b r h => F.run A outer s H args us vs Q E hr e0 b r h⟩
theorem FunS.okT {P : Program} {w : World} {K : PySem.W.Frag} {mg : Str → Option Value} {base : Heap} {x qual : Str} {st : Stmt} {rest : List Stmt} {f C : Addr} {fd : FuncData} {sv : Str} {N ps : List Str} {k : Nat} {sp : Sp} {e : Expr} {z : Str} {p0 p1 ap pos spos : Pos} {pl : Sem Bool}
    (F : FunS P K mg x qual st f fd C sv) (S : SupScope N ps (defScope st)) (T : OexC K C) (hb : defBody st = .Expr (.Call (.Attribute (.Call (.Name "super" p0) [] [] p1) "__init__" ap) [e] [] pos) spos :: rest) (hN : N[0]? = some sv) (hself : (defScope st).names.lookup sv = some .local)
    (len : ∀ vs H Q E, sp vs H Q E → vs.length = ps.length)
    (hE : ∀ (X : Cx), PE X e (tC (.str z)))
    (hi : ∀ L cd cc, interactive (PySem.W.ksEnv qual (defScope st) L f cd cc) = false)
    (hs : ∀ L cd cc, swapsWith (.Call (.Attribute (.Call (.Name "super" p0) [] [] p1) "__init__" ap) [e] [] pos) none spos.line (PySem.W.ksEnv qual (defScope st) L f cd cc) = pure false)
    (hst : ∀ L cd cc, starEach [e] (PySem.W.ksEnv qual (defScope st) L f cd cc) = (false, eval e (PySem.W.ksEnv qual (defScope st) L f cd cc)) :: starEach [] (PySem.W.ksEnv qual (defScope st) L f cd cc))
    (ht : ∀ L cd cc, eval (.Call (.Attribute (.Call (.Name "super" p0) [] [] p1) "__init__" ap) [e] [] pos) (PySem.W.ksEnv qual (defScope st) L f cd cc) = (do
      let ov ← attributeBase (.Call (.Name "super" p0) [] [] p1) "__init__" (PySem.W.ksEnv qual (defScope st) L f cd cc) (eval (.Call (.Name "super" p0) [] [] p1) (PySem.W.ksEnv qual (defScope st) L f cd cc))
      standAt ap.atName
      let (fm, first) ← holding [ov] (getMethod ov "__init__" pl)
      callWith pos fm first (backTo pos (starEach [e] (PySem.W.ksEnv qual (defScope st) L f cd cc))) (backToKw pos (keywordEach [] (PySem.W.ksEnv qual (defScope st) L f cd cc)))))
    (hbody : ∀ (cda cc : Addr) (A : Around) (outer : List Env) (s : Shared) (H : Hp) (vs : List V) (Q : VK) (E : XK), sp vs H Q E →
      ∃ a, vs[0]? = some (.ref a) ∧ H a = some (exo a C none) ∧ ∃ t, PSs (cxS false CX0 P w K mg base N qual (defScope st) f (.ref cda) cc A outer s H E) rest t ∧ t { nx := fun _ H' => Q .non H', rt := Q } (start N vs) H) :
    FnHt P w K mg base (k + 1) f fd ps sp :=
  ⟨len, fun A outer s H args us vs Q E hr e0 hbd r hsp => FunS.code false F S T hb hN hself len hE hi hs hst ht hbody A outer s H args us vs Q E hr.depth (fun z => nomatch z) e0 hbd r hsp⟩
/-! ### raise X(..) from n, in an except suite -/
def refFrom (b : Addr) (h : Heap) (a : Addr) : Heap := (h.update a (Obj.mapFields (·.setIfInBounds 3 (.ref b)))).update a (Obj.mapFields (·.setIfInBounds 4 (.bool true)))
theorem refFrom_at {b : Addr} {h : Heap} {a : Addr} {oe : Obj} {vs : Array Value} (ha : h.get? a = some oe) (hd : oe.data = .fields vs) :
    (refFrom b h a).get? a = some ((oe.mapFields (·.setIfInBounds 3 (.ref b))).mapFields (·.setIfInBounds 4 (.bool true))) ∧ ((oe.mapFields (·.setIfInBounds 3 (.ref b))).mapFields (·.setIfInBounds 4 (.bool true))).data = .fields ((vs.setIfInBounds 3 (.ref b)).setIfInBounds 4 (.bool true)) := by
  have hd3 := Obj.data_mapFields hd (·.setIfInBounds 3 (.ref b))
  have ha3 := Heap.get?_update_self (Obj.mapFields (·.setIfInBounds 3 (.ref b))) ha (Obj.isFreed_of_fields hd3)
  have hd4 := Obj.data_mapFields hd3 (·.setIfInBounds 4 (.bool true))
  exact ⟨Heap.get?_update_self (Obj.mapFields (·.setIfInBounds 4 (.bool true))) ha3 (Obj.isFreed_of_fields hd4), hd4⟩
theorem refFrom_other {c : Addr} {h : Heap} {a b : Addr} (hne : a ≠ b) : (refFrom c h a).get? b = h.get? b := by
  unfold refFrom
  rw [Heap.get?_update_other _ _ hne, Heap.get?_update_other _ _ hne]
theorem raise_made_hotF {prog : Program} {w : World} {A : Around} {E : Value → Shared → Prop} {env : Env} {s : Shared} {x c : Sem Value} {Q : Flow → Shared → Prop} {x1 b : Addr}
    (h : wpAny (model prog w) A x (fun v s₁ => ∃ a oe vs cls ob vb, v = .ref a ∧ s₁.heap.get? a = some oe ∧ oe.cls = cls ∧ oe.data = .fields vs ∧ vs[1]? = some .none ∧ 4 < vs.size ∧ x1 ≠ a ∧ HotAt A x1 s₁.heap ∧
      (∀ Q' : Value → Shared → Prop, Q' (.ref b) s₁ → wpAny (model prog w) A c Q' E s₁) ∧ s₁.heap.get? b = some ob ∧ ob.data = .fields vb ∧ PySem.W.Looks (model prog w) s₁.heap (isSubtype ob.cls (.type "BaseException")) true ∧
      PySem.W.Looks (model prog w) s₁.heap (isSubtype cls (.type "BaseException")) true ∧ PySem.W.Looks (model prog w) (refFrom b s₁.heap a) (typeOf cls) (.type "type") ∧
      E (.ref a) { s₁ with heap := (refFrom b s₁.heap a).update a (Obj.mapFields (·.setIfInBounds 2 (.ref x1))) }) E s) :
    wpAny (model prog w) A (raiseStmt env (some x) (some c)) Q E s := by
  unfold raiseStmt
  dsimp only
  refine wpAny_bind (wpAny_mono h (fun v s₁ h₁ => ?_) fun _ _ x => x)
  obtain ⟨a, oe, vs, cls, ob, vb, rfl, ha, hcls, hd, h1, hi, hne, hot, hcs, hbo, hbd, LB, L1, L3, hE⟩ := h₁
  have LT : PySem.W.Looks (model prog w) s₁.heap (typeOf (.ref a)) cls := fun A Q E s k q => wpAny_typeOf_ref (k _ _ ha) (by rw [hcls]; exact q)
  have LI : PySem.W.Looks (model prog w) s₁.heap (isInstance (.ref a) (.type "BaseException")) true := LT.andThen L1
  have LTb : PySem.W.Looks (model prog w) s₁.heap (typeOf (.ref b)) ob.cls := fun A Q E s k q => wpAny_typeOf_ref (k _ _ hbo) q
  have LIb : PySem.W.Looks (model prog w) s₁.heap (isInstance (.ref b) (.type "BaseException")) true := LTb.andThen LB
  have hnt : ∀ {Q' : Bool → Shared → Prop}, Q' false s₁ → wpAny (model prog w) A (isType (.ref a)) Q' E s₁ := by
    intro Q' hq
    simp only [isType, loadHead]
    refine wpAny_bind (wpAny_loadPart ha ?_)
    rw [hd]; exact wpAny_pure hq
  have hntb : ∀ {Q' : Bool → Shared → Prop}, Q' false s₁ → wpAny (model prog w) A (isType (.ref b)) Q' E s₁ := by
    intro Q' hq
    simp only [isType, loadHead]
    refine wpAny_bind (wpAny_loadPart hbo ?_)
    rw [hbd]; exact wpAny_pure hq
  have hd3 := Obj.data_mapFields hd (·.setIfInBounds 3 (.ref b))
  have ha3 := Heap.get?_update_self (Obj.mapFields (·.setIfInBounds 3 (.ref b))) ha (Obj.isFreed_of_fields hd3)
  obtain ⟨ha4, hd4⟩ := refFrom_at (b := b) ha hd
  have s3 : 3 < vs.size := by omega
  have s4 : 4 < (vs.setIfInBounds 3 (Value.ref b)).size := by rw [set_size]; exact hi
  have s2 : 2 < ((vs.setIfInBounds 3 (Value.ref b)).setIfInBounds 4 (Value.bool true)).size := by rw [set_size, set_size]; omega
  have h14 : ((vs.setIfInBounds 3 (Value.ref b)).setIfInBounds 4 (Value.bool true))[1]? = some Value.none := set_other (by decide) (set_other (by decide) h1)
  have hcls4 : ((oe.mapFields (·.setIfInBounds 3 (.ref b))).mapFields (·.setIfInBounds 4 (.bool true))).cls = cls := by rw [Obj.cls_mapFields, Obj.cls_mapFields]; exact hcls
  have LT4 : PySem.W.Looks (model prog w) (refFrom b s₁.heap a) (typeOf (.ref a)) cls := fun A Q E s k q => wpAny_typeOf_ref (k _ _ ha4) (by rw [hcls4]; exact q)
  have hnt4 : ∀ {Q' : Bool → Shared → Prop}, Q' false { s₁ with heap := refFrom b s₁.heap a } → wpAny (model prog w) A (isType (.ref a)) Q' E { s₁ with heap := refFrom b s₁.heap a } := by
    intro Q' hq
    simp only [isType, loadHead]
    refine wpAny_bind (wpAny_loadPart ha4 ?_)
    rw [hd4]; exact wpAny_pure hq
  have hot4 : HotAt A x1 (refFrom b s₁.heap a) := by
    obtain ⟨q1, o, vs', q2, q3, q4⟩ := hot
    exact ⟨q1, o, vs', by rw [refFrom_other (Ne.symm hne)]; exact q2, q3, q4⟩
  have rest : wpAny (model prog w) A (do
      let b ← isType (.ref a)
      if b = true then do
        let e ← holding [.ref a] (raisedFor (.ref a) (.ref a))
        setFlight e none
        raiseNew e
      else do
        let e ← raisedInstance (.ref a)
        setFlight e none
        raiseNew e : Sem Flow) Q E { s₁ with heap := refFrom b s₁.heap a } := by
    refine wpAny_bind (hnt4 ?_)
    simp only [Bool.false_eq_true, if_false]
    unfold raisedInstance
    refine wpAny_bind (wpAny_bind (LT4.here (wpAny_bind (L3.here ?_))))
    rw [if_pos (beq_self_eq_true _)]
    refine wpAny_pure ?_
    unfold setFlight
    refine wpAny_bind (wpAny_bind (wpAny_field ha4 hd4 h14 ?_))
    rw [if_neg (by decide)]
    refine wpAny_pure ?_
    exact raiseNew_hot hot4 hne ha4 hd4 s2 hE
  refine wpAny_bind (wpAny_holding (hcs _ (wpAny_bind (wpAny_pure ?_))))
  dsimp only
  refine wpAny_bind (wpAny_holding ?_)
  unfold excFromValue isExcClass
  refine wpAny_bind (wpAny_bind (hnt ?_))
  simp only [Bool.false_eq_true, if_false]
  refine wpAny_pure ?_
  simp only [Bool.false_eq_true, if_false]
  refine wpAny_bind (LI.here ?_)
  simp only [if_true]
  refine wpAny_pure ?_
  rw [if_neg (show ¬ ((Value.ref b == Value.none) = true) from by simp)]
  refine wpAny_bind (wpAny_holding ?_)
  refine wpAny_bind (wpAny_bind (hntb ?_))
  simp only [Bool.false_eq_true, if_false]
  refine wpAny_pure ?_
  simp only [Bool.false_eq_true, if_false]
  refine wpAny_bind (LIb.here ?_)
  simp only [if_true]
  refine wpAny_pure ?_
  refine wpAny_bind (wpAny_setField ha hd s3 (wpAny_bind (wpAny_setField ha3 hd3 s4 ?_)))
  exact rest
/-- raise X(..) from n, n the caught error -/
def tRaiseF (K : PySem.W.Frag) (b : Addr) (cls : Value) (i : Nat) (W : WX) (t : L2.St → Hp → XK → Prop) : TS := fun _ σ H => σ[i]? = some (some (.ref b)) ∧ (∃ C, cls = .ref C ∧ PySem.W.subIn K (.ref C) (.type "BaseException") = some true) ∧ t σ H fun cls d H' => W cls d σ H'
theorem ps_raiseHF {X : Cx} {W : WX} {e : Expr} {t : L2.St → Hp → XK → Prop} {i : Nat} {n : Str} {b : Addr} {ob : Obj} {cls : Value} {d : Option Addr} {np pos : Pos} (hp : (b, ob) ∈ X.pn) (hz : Zc cls d ob) (hf : ∃ vs, ob.data = .fields vs) (hc : HotC X) (tk : L2.Takes X W) (he : PMk5 X e t)
    (hi : X.N[i]? = some n) (hl : X.env.kindOf n = some .local) (hdb : (n == ("__debug__" : Str)) = false := by decide) :
    PS X (.Raise (some e) (some (.Name n np)) pos) (tRaiseF X.K b cls i W t) := by
  refine ⟨fun pins s σ H D I h => ?_⟩
  obtain ⟨hσ, ⟨C, rfl, hsub⟩, h⟩ := h
  obtain ⟨p, ⟨hh, v1, e1, c1⟩, hpn⟩ := hc
  obtain ⟨vb, hvb⟩ := hf
  show wpAny _ _ (do standAt pos; raiseStmt X.env (some (do let v ← eval e X.env; standAt pos; pure v)) (some (do let v ← eval (.Name n np) X.env; standAt pos; pure v))) _ _ _
  refine wpAny_bind (wpAny_standAt (raise_made_hotF (x1 := p.1) (b := b) (wpAny_bind (wpAny_mono (he pins s σ H _ I h) (fun u s1 hu => wpAny_bind (wpAny_standAt (wpAny_pure ?_))) fun _ _ x => x))))
  obtain ⟨⟨a, oe, vs, sI, H', cls, d', rfl, J, k, hne, ha, hz', hd, h1, na, os, ag, r, q⟩, h5⟩ := hu
  have hi5 : 4 < vs.size := h5 a oe vs rfl ha hd
  have k4 : ∀ c u, sI.heap.get? c = some u → (refFrom b s1.heap a).get? c = some u := fun c u z => by
    have nab : a ≠ c := fun y => by
      rw [← y, hne] at z
      cases z
    rw [refFrom_other nab]
    exact k c u z
  obtain ⟨r1, _⟩ := r (model X.prog X.w) s1.heap (J.kIn.keeps k)
  obtain ⟨_, r2⟩ := r (model X.prog X.w) (refFrom b s1.heap a) (J.kIn.keeps k4)
  have P1 := (J.pin p (List.mem_append_left _ hpn)).1
  have P2 := k _ _ (J.pin (b, ob) (List.mem_append_left _ hp)).1
  have nap : p.1 ≠ a := fun z => by
    rw [z, hne] at P1
    cases P1
  obtain ⟨ha4, hd4⟩ := refFrom_at (b := b) ha hd
  have h12 : (((vs.setIfInBounds 3 (Value.ref b)).setIfInBounds 4 (Value.bool true)).setIfInBounds 2 (Value.ref p.1))[1]? = some Value.none := set_other (by decide) (set_other (by decide) (set_other (by decide) h1))
  have cause : ∀ Q' : Value → Shared → Prop, Q' (.ref b) s1 → wpAny (model X.prog X.w) X.A (do let v ← eval (.Name n np) X.env; standAt pos; pure v) Q' X.xe s1 := fun Q' q' => by
    obtain ⟨m, hn, hlk⟩ := id J.loc
    obtain ⟨u, ru, lu⟩ := hlk i n _ hi hσ (.inl hl)
    obtain rfl : u = Value.ref b := ru
    have hm : m n = some (.ref b) := by
      rcases lu with ⟨_, e⟩ | ⟨z, _⟩
      · exact e
      · rcases z with z | z
        · have z : X.env.scope.names.lookup n = some .cell := z
          rw [show X.env.scope.names.lookup n = some .local from hl] at z; cases z
        · have z : X.env.scope.names.lookup n = some .free := z
          rw [show X.env.scope.names.lookup n = some .local from hl] at z; cases z
    exact wpAny_bind (wpAny_Name (wpAny_loadName_local J.ok.kind hl (hn.keeps k) hm (wpAny_bind (wpAny_standAt (wpAny_pure q')))) hdb)
  refine ⟨a, oe, vs, cls, ob, vb, rfl, ha, hz'.1, hd, h1, hi5, nap, ⟨hh, p.2, v1, k _ _ P1, e1, c1⟩, cause, P2, hvb, by rw [hz.1]; exact PySem.W.looks_subIn (J.kIn.keeps k) hsub, r1, r2, tk _ _ (XE.new J (fun c u z => ?_) hne (Heap.get?_update_self _ ha4 (Obj.isFreed_of_fields (Obj.data_mapFields hd4 _)))
    ⟨by rw [Obj.cls_mapFields, Obj.cls_mapFields, Obj.cls_mapFields]; exact hz'.1, by rw [HandSPX.dict_mapFields, HandSPX.dict_mapFields, HandSPX.dict_mapFields]; exact hz'.2.1⟩ (Obj.data_mapFields hd4 _) h12 na os ag q)⟩
  have nac : a ≠ c := fun y => by
    rw [← y, hne] at z
    cases z
  show ((refFrom b s1.heap a).update a (Obj.mapFields (·.setIfInBounds 2 (.ref p.1)))).get? c = some u
  rw [Heap.get?_update_other _ _ nac]
  exact k4 c u z
/-- the caught error's field, where it is pinned -/
theorem pe_xfP {X : Cx} {a : Addr} {oe : Obj} {cls : Value} {d : Option Addr} {e : Expr} {te : TE} {pos : Pos} {n : Str} (hp : (a, oe) ∈ X.pn) (hz : Zc cls d oe) (hf : ∃ vs, oe.data = .fields vs) (he : PE X e te) (hb : attributeBase e n X.env (eval e X.env) = eval e X.env := by rfl) :
    PE X (.Attribute e n pos) (tXfX X.K a cls d n te) := by
  refine ⟨fun pins s σ H Q I h => ?_⟩
  refine attr_of hb (thn (he.run pins s σ H _ I h) fun u s1 hh => ?_)
  obtain ⟨x, H1, I1, rx, ex, C, ec, T, hno, dd, fs, v, ed, ea, l, q⟩ := hh
  subst ex
  obtain rfl : u = Value.ref a := rx
  subst ec
  subst ed
  obtain ⟨ha, _⟩ := I1.pin (a, oe) (List.mem_append_left _ hp)
  obtain ⟨vs, hd⟩ := hf
  have hx : ObjOk X.prog X.w H1 s1.heap dd (.xd fs) := I1.hok dd _ ea
  obtain ⟨mA, hns, hr⟩ := hx
  obtain ⟨od, ho, hl⟩ := lookIn_ns hns
  obtain ⟨u, hu, ru⟩ := RelO.some_of (v := v) (o := mA n) (by rw [← l]; exact hr n)
  have J : PySem.W.InstAt s1.heap a oe C (some od) := ⟨ha, hz.1, by unfold PySem.W.notCls; rw [hd] <;> rfl, by rw [hz.2]; exact ho⟩
  exact HandSPX.exc_get I1.kIn J T.ga T.gg T.exC (PySem.W.findObj_own T.hdC hno rfl (by rw [hl, hu])) (handed_of ru) ⟨v, H1, I1.tok _, ru, q⟩
/-! ### try: .. except x as n: a suite that raises -/
/-- the context of such a suite -/
abbrev suiteY (X : Cx) (a : Addr) (pn : List (Addr × Obj)) (xe : Value → Shared → Prop) : Cx := (suiteX X a pn).wish xe
section
variable {X : Cx} {pins : List (Addr × Obj)} {σ : L2.St} {H : Hp} {s : Shared} {i : Nat} {n : Str}
/-- the name n is gone: the state, where all else stays -/
theorem inv_gone {G : Heap} {v0 : Option Value} {m : Str → Option Value} (I : Inv X pins σ H s) (hN : X.N.Nodup) (hi : X.N[i]? = some n) (hlk : ∀ (j : Nat) (y : Str) (v : V), X.N[j]? = some y → σ[j]? = some (some v) → Vis X.env.scope y → ∃ u, RelV v u ∧ Look X.env s.heap m y u)
    (hn' : G.Ns X.env.locals (fun x => if x = n then v0 else m x)) (hs : Heap.SameBut X.env.locals s.heap G) : Inv X pins (σ.set i none) H { s with heap := G } := by
  have neL : ∀ b o, X.s_0.heap.get? b = some o → b ≠ X.env.locals := fun b o e => Nat.ne_of_lt (Nat.lt_of_lt_of_le (Heap.lt_size e) I.ok.above)
  refine ⟨I.ok, I.os, I.bare, ⟨fun b o e n hb hx => ?_, fun b o e n hb hx => ?_, I.base.free, fun b o e hx => ?_, I.base.tups, I.base.frzs, I.base.tbls⟩, ⟨_, hn', fun j y v' e1 e2 e3 => ?_⟩, fun y c e => ?_, I.free, I.freeC, fun p hp => ?_, fun b ob e => ?_, by simpa using I.len⟩
  · exact (hs.2 b (neL b o e)).trans (I.base.keep b o e n hb hx)
  · obtain ⟨sl, e1⟩ := I.base.slot b o e n hb hx
    exact ⟨sl, (hs.2 b (neL b o e)).trans e1⟩
  · obtain ⟨o', e1⟩ := I.base.there b o e hx
    exact ⟨o', (hs.2 b (neL b o e)).trans e1⟩
  · by_cases hj : j = i
    · subst hj
      by_cases hlt : j < σ.length
      · rw [List.getElem?_set_self hlt] at e2; cases e2
      · rw [List.getElem?_eq_none (by simpa using hlt)] at e2; cases e2
    · rw [List.getElem?_set_ne (Ne.symm hj)] at e2
      obtain ⟨u', r', q⟩ := hlk j y v' e1 e2 e3
      refine ⟨u', r', ?_⟩
      rcases q with ⟨k, e⟩ | ⟨k, c, e, z⟩
      · have ny : y ≠ n := fun e => hj (nodup_ix hN e1 (e ▸ hi))
        exact .inl ⟨k, (if_neg ny).trans e⟩
      · exact .inr ⟨k, c, e, z.sameBut hs (I.cne y c e)⟩
  · obtain ⟨w', z⟩ := I.cell y c e
    exact ⟨w', z.sameBut hs (I.cne y c e)⟩
  · obtain ⟨e, n, ne, nf, d⟩ := I.pin p hp
    exact ⟨(hs.2 p.1 ne).trans e, n, ne, nf, d⟩
  · refine (I.hok b ob e).stay (fun c w' hc q => (hs.2 c ?_).trans q) (fun _ q => q) fun _ _ q => q
    intro z
    subst z
    rcases hc with hc | hc
    · rw [← hc, I.free] at e; cases e
    · rw [I.free] at hc; cases hc
end
theorem funFrames_sameBut {h1 h2 B : Heap} {L : Addr} {o2 : Obj} (hs : Heap.SameBut L h1 h2) (e2 : h2.get? L = some o2) (hd : ∀ vs, o2.data ≠ .fields vs) : ∀ {l : List Env}, h1.FunFrames B l → h2.FunFrames B l
  | [], _ => trivial
  | env :: rest, hl => by
    obtain ⟨k, ⟨L', o, f1, f2, f3, f4⟩, r⟩ := hl
    refine ⟨k, ⟨L', ?_⟩, funFrames_sameBut hs e2 hd r⟩
    by_cases z : L' = L
    · subst z
      exact ⟨o2, f1, f2, e2, hd⟩
    · exact ⟨o, f1, f2, (hs.2 L' z).trans f3, f4⟩
theorem gone_raise {X : Cx} {W : WX} {i : Nat} {n : Str} {A : Around} {Ex Ey Ez : Value → Shared → Prop} {pos : Pos} {what : String} {u : Value} {s : Shared}
    (hs : X.stack = X.env :: X.outer) (hf : X.env.frame = some X.env.locals) (hN : X.N.Nodup) (hi : X.N[i]? = some n) (hl : X.env.kindOf n = some .local) (hA : A.frames = some (X.env :: X.outer)) (x : L2.XE X W u s)
    (K : ∀ s', L2.XE X (fun cls d σ H => ∃ σ0 : L2.St, σ = σ0.set i none ∧ W cls d σ0 H) u s' → Ex u s') :
    wpAny (model X.prog X.w) A (noteFrame u X.env) (fun _ s1 => wpAny (model X.prog X.w) A (do bindName X.env n .none; unbindBehindTheSuite X.env n pos) (fun _ s2 => wpAny (model X.prog X.w) A (passOn what u X.env : Sem Flow) (fun _ _ => False) Ex s2) Ey s1) Ez s := by
  obtain ⟨a, B, sI, pins, σ, H, cls, d, rfl, I, nb, up, sky, na, os, ag, w⟩ := x
  rw [hs] at sky
  have fin : ∀ h1, HandSPX.HeldZ B (X.env :: X.outer) a (Zc cls d) X.env.locals h1 → s.heap.UpToSlots h1 → wpAny (model X.prog X.w) A (do bindName X.env n .none; unbindBehindTheSuite X.env n pos) (fun _ s2 => wpAny (model X.prog X.w) A (passOn what (.ref a) X.env : Sem Flow) (fun _ _ => False) Ex s2) Ey { s with heap := h1 } := by
    intro h1 hh up1
    obtain ⟨m, hn, hlk⟩ := id I.loc
    obtain ⟨oL, es, ep, hoL, hdL, hkL, hmL⟩ := id hn
    have nfL : ∀ vs, oL.data ≠ .fields vs := fun vs z => by rw [hdL] at z; cases z
    obtain ⟨sl, e1⟩ := (up.trans up1) _ _ hoL nfL
    have hn1 : h1.Ns X.env.locals m := ⟨_, es, ep, e1, hdL, hkL, hmL⟩
    have hcls : (X.env.scope.kind == .class || (X.env.scope.kind == .module && X.env.locals != X.env.globals)) = false := by rw [I.ok.kind]; rfl
    refine wpAny_nameGoes_keeps (s := { s with heap := h1 }) hl hn1 hcls fun h2 v hn2 hs2 => ?_
    obtain ⟨o2, es2, ep2, ho2, hd2, r2⟩ := id hn2
    have nf2 : ∀ vs, o2.data ≠ .fields vs := fun vs z => by rw [hd2] at z; cases z
    have gs : Heap.SameBut X.env.locals sI.heap (sI.heap.update X.env.locals fun _ => o2) := Heap.SameBut.update ..
    have gL : (sI.heap.update X.env.locals fun _ => o2).get? X.env.locals = some o2 := Heap.get?_update_self (fun _ => o2) hoL (Obj.isFreed_of_dict hd2)
    have I2 := inv_gone I hN hi hlk (G := sI.heap.update X.env.locals fun _ => o2) (v0 := v) ⟨o2, es2, ep2, gL, hd2, r2⟩ gs
    obtain ⟨k1, k2, k3, oe, vs, T, oT, ts, he, hz, hd, hv1, hnT, hTe, hT, hdT, h3⟩ := hh
    have naL : a ≠ X.env.locals := fun z => by rw [z, e1] at he; injection he with he; rw [← he] at hd; exact nfL vs hd
    have nTL : T ≠ X.env.locals := fun z => by rw [z, e1] at hT; injection hT with hT; rw [← hT] at hdT; exact nfL ts hdT
    have BL : B.get? X.env.locals = none := by
      obtain ⟨_, ⟨L', o, f1, f2, _, _⟩, _⟩ := id k3
      rw [hf] at f1; injection f1 with f1; rw [f1]; exact f2
    have b1 : B.StaysIn h2 := fun b o e => (hs2.2 b fun z => by rw [z, BL] at e; cases e).trans (k1 b o e)
    have b3 := funFrames_sameBut hs2 ho2 nf2 k3
    have b4 : HandSPX.TracedZ h2 B a (Zc cls d) (rawInt X.env.locals) := ⟨oe, vs, T, oT, ts, (hs2.2 a naL).trans he, hz, hd, hv1, hnT, hTe, (hs2.2 T nTL).trans hT, hdT, h3⟩
    unfold PySem.passOn
    refine wpAny_bind (wpAny_field ((hs2.2 a naL).trans he) hd hv1 ?_)
    rw [if_neg (show ¬ ((Value.ref T == Value.none) = true) from by simp)]
    have nbG : ∀ b o, (sI.heap.update X.env.locals fun _ => o2).get? b = some o → b ∉ frs X.stack → B.get? b = some o := fun b o e hb => by
      refine nb b o ?_ hb
      rw [← gs.2 b fun z => hb (by rw [z, hs]; exact List.mem_filterMap.mpr ⟨X.env, List.mem_cons_self, hf⟩)]
      exact e
    have upG : ∀ h4, h2.UpToSlots h4 → (sI.heap.update X.env.locals fun _ => o2).UpToSlots h4 := fun h4 u4 b o e nfo => by
      by_cases z : b = X.env.locals
      · rw [z, gL] at e
        injection e with e
        subst e
        rw [z]
        exact u4 _ _ ho2 nf2
      · rw [gs.2 b z] at e
        obtain ⟨sl5, e5⟩ := (up.trans up1) b o e nfo
        obtain ⟨sl6, e6⟩ := u4 b _ ((hs2.2 b z).trans e5) nfo
        exact ⟨sl6, e6⟩
    have fin2 : wpAny (model X.prog X.w) A (setFlight (.ref a) X.env.frame) (fun _ s4 => wpAny (model X.prog X.w) A (throw (.ref a) : Sem Flow) (fun _ _ => False) Ex s4) Ex { s with heap := h2, toks := s.toks + 1 } := by
      rw [hf]
      refine HandSPX.setFlight_anyZ (s := { s with heap := h2, toks := s.toks + 1 }) b1 b3 b4 fun h4 c1 c2 c3 c4 => wpAny_throw (K _ ?_)
      exact ⟨a, B, { sI with heap := sI.heap.update X.env.locals fun _ => o2 }, pins, σ.set i none, H, cls, d, rfl, I2, nbG, upG h4 c4, .inr (.inr (by rw [hs]; exact ⟨c1, k2, c2, c3⟩)), na, os, ag, σ, rfl, w⟩
    first
      | exact wpAny_bind (wpAny_pure (wpAny_bind fin2))
      | exact wpAny_bind fin2
  rcases sky with ⟨hB, hn, hl', oe, vs, he, hz, hd, h1⟩ | fl | hh
  · exact HandSPX.look_newZ Zc.steady hA hl' hf he hB hn hd h1 hz fin
  · exact HandSPX.looks_onZ Zc.steady hA hf fl fin
  · exact HandSPX.againZ hf hh.2.2.2 (fin s.heap hh (Heap.UpToSlots.refl _))
def tTryR (K : PySem.W.Frag) (c : Value) (i : Nat) (ts : Addr → Value → Option Addr → TS) (Wout : WX) (tb : WX → TS) : TS := fun D σ H => tb (wAs K c i ts Wout D) D σ H
section
variable {X : Cx} {x n : Str} {c : Value} {i : Nat} {body suite : List Stmt} {b₀ : Stmt} {np pos pos' : Pos} {tb : WX → TS} {ts : Addr → Value → Option Addr → TS} {Wout : WX}
theorem ps_tryR (hs : X.stack = X.env :: X.outer) (hf : X.env.frame = some X.env.locals) (hN : X.N.Nodup) (hi : X.N[i]? = some n) (hln : X.env.kindOf n = some .local) (hc : Names X x c) (hpa : ∀ hd : Option Value, PassesOwnAt (model X.prog X.w) (X.A.mark hd) X.A X.env X.xe) (tk : L2.Takes X Wout)
    (hb : ∀ (W : WX) (pn : List (Addr × Obj)) (xe : Value → Shared → Prop), L2N.Takes (X.tr pn xe) W → PassesOwn (model X.prog X.w) X.A X.env xe → PSs (X.tr pn xe) body (tb W))
    (hsu : ∀ (a : Addr) (oe : Obj) (cls : Value) (d : Option Addr) (pn : List (Addr × Obj)) (xe : Value → Shared → Prop), L2N.Zn cls d oe → (∃ vs, oe.data = .fields vs) → L2.Takes (suiteY X a ((a, oe) :: pn) xe) (fun cls d σ H => Wout cls d (σ.set i none) H) → HotC (suiteY X a ((a, oe) :: pn) xe) →
      PSs (suiteY X a ((a, oe) :: pn) xe) (b₀ :: suite) (ts a cls d)) :
    PS X (.Try body [.ExceptHandler (some (.Name x np)) (some n) (b₀ :: suite) pos'] [] [] pos) (tTryR X.K c i ts Wout tb) := by
  refine ⟨fun pins s σ H D I h => ?_⟩
  have ok := I.ok
  have hfr : X.A.frames = some (X.env :: X.outer) := by rw [ok.frames, hs]
  have hloc : Loc X.env.scope n := .inl hln
  refine wpAny_Try_except ?_
  refine wpAny_mono ((hb (wAs X.K c i ts Wout D) (X.pn ++ pins) (fun e s₁ => wpAny (model X.prog X.w) X.A (noteFrame e X.env) (fun _ s₂ => wpAny (model X.prog X.w) X.A (setFlight e none) (fun _ s₃ =>
    wpAny (model X.prog X.w) X.A (handleBy e X.env [.ExceptHandler (some (.Name x np)) (some n) (b₀ :: suite) pos']) (SP X pins D) X.xe s₃) X.xe s₂) X.xe s₁) (fun u s' xx => ?_) PassesOwn.looking).run [] s σ H D (I.toTry _) h) (fun f s1 hsp => ?_) (fun e s1 he => he)
  · obtain ⟨a, B, sI, pins', σ', H', cls, d, rfl, J', nb, up, sky, na, os, ag, b, hb1, hyes, hno⟩ := xx
    have J : Inv X pins σ' H' sI := J'.ofTry ok
    have sky' : Sky B (X.env :: X.outer) a (L2N.Zn cls d) X.env.locals s'.heap := by rw [← hs]; exact sky
    show wpAny (model X.prog X.w) X.A (noteFrame (.ref a) X.env) _ _ _
    refine L2N.Sky.land L2N.Zn.steady hfr hf sky' fun h3 fl3 up3 => ?_
    have J3 : Inv X pins σ' H' { s' with heap := h3 } := J.landed nb fl3.1 (up.trans up3) os ag
    obtain ⟨oe3, vs3, he3, hz3, hd3⟩ := fl3.there
    have notFr : ∀ {h : Heap} {o : Obj} {vs : Array Value}, h.FunFrames B (X.env :: X.outer) → h.get? a = some o → o.data = .fields vs → a ∉ frs (X.env :: X.outer) := fun {h o vs} ff e dd hm => by
      obtain ⟨_, o', e', hnf⟩ := ff.mem hm
      rw [e] at e'; cases e'
      exact hnf _ dd
    have nfr := notFr fl3.2.2.1 he3 hd3
    have nL : a ≠ X.env.locals := fun z => nfr (List.mem_filterMap.mpr ⟨X.env, List.mem_cons_self, by rw [hf, z]⟩)
    have nF : a ∉ X.fs := fun hm => by
      obtain ⟨e, he, q⟩ := List.mem_filterMap.mp hm
      exact nfr (List.mem_filterMap.mpr ⟨e, List.mem_cons_of_mem _ he, q⟩)
    have S3 := J3.suite he3 hd3 na nL nF
    refine wpAny_handleBy_cons (codeAny_handlers_test ?_) (by intro q; cases q)
    have LT : PySem.W.Looks (model X.prog X.w) h3 (typeOf (.ref a)) cls := fun A Q E s k q => wpAny_typeOf_ref (k _ _ he3) (by rw [hz3.1]; exact q)
    have LM := PySem.W.exm_one (M := model X.prog X.w) (J3.kIn) LT hb1
    have test : ∀ {Q : Value → Shared → Prop} {E : Value → Shared → Prop}, Q c { s' with heap := h3 } → wpAny (model X.prog X.w) (X.A.mark (some (.ref a))) (eval (.Name x np) X.env) Q E { s' with heap := h3 } := fun {Q E} q => by
      obtain ⟨hg, hdbg, hm | ⟨hm, hv, hnn⟩⟩ := hc
      · exact ld_glob (X := X.suite a ((a, oe3) :: (X.pn ++ pins))) S3 hg hm q hdbg
      · exact ld_blt (X := X.suite a ((a, oe3) :: (X.pn ++ pins))) S3 hg hm hv q hnn hdbg
    refine test (LM.here ?_)
    cases b with
    | true =>
      refine codeAny_handlers_suite_as ?_
      refine HandSPX.lands_againZ fl3 fun h4 fl4 up4 => ?_
      have J4 : Inv X pins σ' H' { s' with heap := h4 } := J.landed nb fl4.1 ((up.trans up3).trans up4) os ag
      obtain ⟨oe4, vs4, he4, hz4, hd4⟩ := fl4.there
      have S4 := J4.suite he4 hd4 na nL nF
      refine store_ok (X := X.suite a ((a, oe4) :: (X.pn ++ pins))) (v := .ref a) S4 hN hi hloc rfl (fun s5 S5 => ?_) (.inr hln)
      have run : ∀ E' : Value → Shared → Prop, (∀ u s3, L2.XE (suiteY X a ((a, oe4) :: (X.pn ++ pins)) E') (fun cls d σ H => Wout cls d (σ.set i none) H) u s3 → E' u s3) → wpAny (model X.prog X.w) (X.A.mark (some (.ref a))) (execs (b₀ :: suite) X.env) (fun f s6 => ∃ xe, SP (suiteY X a ((a, oe4) :: (X.pn ++ pins)) xe) [] _ f s6) E' s5 := fun E' tkE =>
        wpAny_mono ((hsu a oe4 cls d (X.pn ++ pins) E' hz4 ⟨_, hd4⟩ tkE ⟨(a, oe4), ⟨rfl, vs4, hd4, hz4.2.2 vs4 hd4⟩, List.mem_cons_self⟩).run [] s5 _ H' _ ((suiteX_of S5).wish _) (hyes rfl a na)) (fun f s6 hsp => ⟨E', hsp⟩) (fun _ _ z => z)
      refine wpAny_mono (run _ fun u2 s2 x2 => ?tk) (fun f s6 hsp => ?_) (fun _ _ z => z)
      case tk =>
        refine gone_raise (X := suiteY X a ((a, oe4) :: (X.pn ++ pins)) _) hs hf hN hi hln hfr x2 fun s3 x3 => ?_
        obtain ⟨a2, B2, sI2, pn2, σ2, H2, cls2, d2, e2, I2, nb2, up2, sky2, na2, os2, ag2, σ0, rfl, w2⟩ := x3
        exact hpa (some (.ref a)) _ _ (tk _ _ ⟨a2, B2, sI2, pins, σ0.set i none, H2, cls2, d2, e2, unsuiteX (Inv.unwish I2) ok, nb2, up2, sky2, na2, os2, ag2, w2⟩)
      obtain ⟨xe, hsp⟩ := hsp
      have end_ : ∀ {xe : Value → Shared → Prop} {σ6 : L2.St} {H6 : Hp} {E6 : Value → Shared → Prop} {Q : Shared → Prop}, Inv (suiteY X a ((a, oe4) :: (X.pn ++ pins)) xe) [] σ6 H6 s6 → (∀ s7, Inv X pins (σ6.set i none) H6 s7 → Q s7) →
          wpAny (model X.prog X.w) X.A (do bindName X.env n .none; unbindBehindTheSuite X.env n pos') (fun _ s7 => Q s7) E6 s6 := fun {xe σ6 H6 E6 Q} S6 hq => gone_ok (unsuiteX (Inv.unwish S6) ok) hN hi hln hq
      cases f with
      | next =>
        obtain ⟨σ6, H6, S6, q6⟩ := hsp
        exact end_ S6 fun s7 J7 => ⟨_, _, J7, q6⟩
      | brk =>
        obtain ⟨σ6, H6, S6, q6⟩ := hsp
        exact end_ S6 fun s7 J7 => ⟨_, _, J7, q6⟩
      | cont =>
        obtain ⟨σ6, H6, S6, q6⟩ := hsp
        exact end_ S6 fun s7 J7 => ⟨_, _, J7, q6⟩
      | ret u =>
        obtain ⟨v6, σ6, H6, S6, r6, q6⟩ := hsp
        exact end_ S6 fun s7 J7 => ⟨_, _, _, J7, r6, q6⟩
    | false =>
      show wpAny _ X.A (handleBy (.ref a) X.env []) _ _ _
      refine wpAny_handleBy_nil ?_
      have fl3' := flyingZ_imp (fun o z => L2N.Zn.zc z) fl3
      obtain ⟨k1, k2, k3, oe, vs, T, oT, ts', he, hz, hd, h1, hr⟩ := id fl3'
      unfold PySem.passOn
      refine wpAny_bind (wpAny_field he hd h1 ?_)
      rw [if_neg (show ¬ ((Value.ref T == Value.none) = true) from by simp)]
      have fin : wpAny (model X.prog X.w) X.A (setFlight (.ref a) X.env.frame) (fun _ s4 => wpAny (model X.prog X.w) X.A (throw (.ref a) : Sem Flow) (SP X pins D) X.xe s4) X.xe { s' with heap := h3 } := by
        rw [hf]
        refine HandSPX.setFlight_upZ fl3' fun h4 hh4 up4 => wpAny_throw (tk _ _ ?_)
        exact ⟨a, B, sI, pins, σ', H', cls, d, rfl, J, nb, (up.trans up3).trans up4, .inr (.inr (by rw [hs]; exact hh4)), na, os, ag, hno rfl⟩
      first
        | exact wpAny_bind (wpAny_pure (wpAny_bind fin))
        | exact wpAny_bind fin
  · cases f with
    | next =>
      obtain ⟨σ', H', J', q⟩ := hsp
      exact wpAny_execs_nil ⟨σ', H', J'.ofTry ok, q⟩
    | brk =>
      obtain ⟨σ', H', J', q⟩ := hsp
      exact ⟨σ', H', J'.ofTry ok, q⟩
    | cont =>
      obtain ⟨σ', H', J', q⟩ := hsp
      exact ⟨σ', H', J'.ofTry ok, q⟩
    | ret u =>
      obtain ⟨v, σ', H', J', r, q⟩ := hsp
      exact ⟨v, σ', H', J'.ofTry ok, r, q⟩
end
/-! ### C(a, .., *y) -/
section
variable {X : Cx} {CX : CXT} {k : Nat} {f C : Addr} {sp : Sp} {E : L2.St → XK} {x : Str} {e : Expr} {es : List Expr} {t : TA} {p pos : Pos}
theorem pe_makeVS (M : Mk X.K C f) (F : FnR X.prog X.w X.K X.mg X.base CX k f sp) (hr : Room (k + 1) X.A) (hg : Gl X x) (hm : X.mg x = some (.ref C)) (hx : ∀ σ, PassesAt CX X σ (E σ))
    (ha : PA X (e :: es) t) (hdb : (x == ("__debug__" : Str)) = false := by decide) (he : starEach (e :: es) X.env = (false, eval e X.env) :: starEach es X.env := by rfl) (hst : (backTo pos (starEach es X.env)).any (·.1) = true := by rfl) :
    PE X (.Call (.Name x p) (e :: es) [] pos) (tMakeS C sp E t) := by
  refine ⟨fun pins s σ H Q I h => ?_⟩
  refine wpAny_Call_Name_kw (ld_glob I hg hm ?_ hdb)
  refine PySem.W.callWith_S2 (h₀ := X.base) I.ok.mod.kin M.kp (thn (ha.run pos pins s σ H _ I h) fun us s1 ⟨vs, H1, I1, r, q⟩ => ⟨I1.kIn, ?_⟩) he hst
  exact run_makeV M F hr (hx σ) I1 r q
end
theorem go_star {K : PySem.W.Frag} {te : TE} {t : TA} {σ : L2.St} {H : Hp} {Q : List V → Hp → Prop} (h : te σ H fun x H1 => ∃ p xs, x = V.ref p ∧ (SqT K H1 p xs ∨ SqL K H1 p xs) ∧ t σ H1 fun ys H2 => Q (xs ++ ys) H2) : StX.tStar K te t σ H Q := h
theorem go_tryR {K : PySem.W.Frag} {c : Value} {i : Nat} {tb : WX → TS} {ts : Addr → Value → Option Addr → TS} {Wout : WX} {D : Ends} {σ : L2.St} {H : Hp} (h : tb (wAs K c i ts Wout D) D σ H) : tTryR K c i ts Wout tb D σ H := h
theorem go_raiseF {K : PySem.W.Frag} {b C : Addr} {i : Nat} {W : WX} {t : L2.St → Hp → XK → Prop} {D : Ends} {σ : L2.St} {H : Hp} (hσ : σ[i]? = some (some (.ref b))) (hC : PySem.W.subIn K (.ref C) (.type "BaseException") = some true) (h : t σ H fun cls d H' => W cls d σ H') : tRaiseF K b (.ref C) i W t D σ H := ⟨hσ, ⟨C, rfl, hC⟩, h⟩
/-! ### where a try's body or suite must not be named -/
theorem pa_starK {X : Cx} {K : PySem.W.Frag} {e : Expr} {es : List Expr} {te : TE} {t : TA} {p : Pos} (h : X.K = K) (he : PE X e te) (hr : PA X es t) (hs : starEach (.Starred e p :: es) X.env = (true, eval e X.env) :: starEach es X.env) : PA X (.Starred e p :: es) (StX.tStar K te t) := h ▸ StX.pa_star he hr hs
theorem pe_xfPK {X : Cx} {K : PySem.W.Frag} {a : Addr} {oe : Obj} {cls : Value} {d : Option Addr} {e : Expr} {te : TE} {pos : Pos} {n : Str} (h : X.K = K) (hp : (a, oe) ∈ X.pn) (hz : Zc cls d oe) (hf : ∃ vs, oe.data = .fields vs) (he : PE X e te) (hb : attributeBase e n X.env (eval e X.env) = eval e X.env := by rfl) :
    PE X (.Attribute e n pos) (tXfX K a cls d n te) := h ▸ pe_xfP hp hz hf he hb
theorem ps_raiseHFK {X : Cx} {K : PySem.W.Frag} {W : WX} {e : Expr} {t : L2.St → Hp → XK → Prop} {i : Nat} {n : Str} {b : Addr} {ob : Obj} {cls : Value} {d : Option Addr} {np pos : Pos} (h : X.K = K) (hp : (b, ob) ∈ X.pn) (hz : Zc cls d ob) (hf : ∃ vs, ob.data = .fields vs) (hc : HotC X) (tk : L2.Takes X W) (he : PMk5 X e t)
    (hi : X.N[i]? = some n) (hl : X.env.kindOf n = some .local) (hdb : (n == ("__debug__" : Str)) = false := by decide) :
    PS X (.Raise (some e) (some (.Name n np)) pos) (tRaiseF K b cls i W t) := h ▸ ps_raiseHF hp hz hf hc tk he hi hl hdb
end Vc

/-! Xe: enumerate over a tuple; a test a op b op c op d (my own; ways of HandS.Iter's enumerate, PyProof.EnumMake, HandS.Call's chains). -/
namespace Vc
open PySem PySem.Spec PyProof.Rows L2
theorem meets_enumerate_newT (l : Addr) (items : Array Value) (n : Nat) (dct : Option Addr) (sl : Array (Option Value)) :
    Meets (Builtin.«enumerate.__new__» ⟨[.type "enumerate", .ref l], []⟩) (fun _ R s => s.heap.get? l = some { cls := .type "tuple", dict := dct, data := .seq items n, slots := sl } ∧
      R (.ok (.ret (.ref (s.heap.push { cls := .type "tuple_iterator", data := .fields #[.ref l, .int 0 0] }).objs.size)))
        { s with heap := (s.heap.push { cls := .type "tuple_iterator", data := .fields #[.ref l, .int 0 0] }).push { cls := .type "enumerate", data := .fields #[.none, .bool false, .ref s.heap.objs.size, rawInt 0, .none, .none] } }) :=
  .of_wp fun prog w A R s h => by
    obtain ⟨hp, g, d, tk, os⟩ := s; obtain ⟨hl, h⟩ := h
    have hsub := sub_enumerate
    have hL : Heap.IsTuple (Shared.heap ⟨hp, g, d, tk, os⟩) l items := ⟨_, hl, rfl, n, rfl⟩
    wp_walk using PySem.AutoSeq1.wpAny_loadPart' hl
    refine wpAny_stack_any fun st => wpAny_pure ?_
    split
    · rename_i c _ _ _ _ _
      cases (c == Value.type "enumerate")
      · wp_walk using PySem.AutoSeq1.wpAny_loadPart' hl, wpAny_pyIter_tuple hL
        exact ⟨_, rfl, h⟩
      · wp_walk using PySem.AutoSeq1.wpAny_loadPart' hl, wpAny_pyIter_tuple hL
        exact ⟨_, rfl, h⟩
    · wp_walk using PySem.AutoSeq1.wpAny_loadPart' hl, wpAny_pyIter_tuple hL
      exact ⟨_, rfl, h⟩
theorem call_enumerate_tuple {prog : Program} {w : World} {A : Around} {E : Value → Shared → Prop} {s : Shared} {l : Addr} {items : Array Value} {Q : Value → Shared → Prop} (hL : s.heap.IsTuple l items)
    (h : ∀ h', IsEnum h' (s.heap.objs.size + 1) s.heap.objs.size 0 .none → h'.IsTupleIter s.heap.objs.size l 0 → h'.objs.size = s.heap.objs.size + 2 →
      (∀ b o, s.heap.get? b = some o → h'.get? b = some o) → Q (.ref (s.heap.objs.size + 1)) { s with heap := h' }) :
    wpAny (model prog w) A (call (.type "enumerate") [.ref l]) Q E s := by
  obtain ⟨⟨c, dct, dt, sl⟩, hl, hc, n, hd⟩ := hL
  replace hc : c = .type "tuple" := hc
  replace hd : dt = .seq items n := hd
  subst hc hd
  refine callType_new F.called_enumerate (by decide) (F.typeCall_enumerate_1 _) (F.newCall_enumerate_1 _) (fun obj => F.args_object_init_2 obj _) F.entry_enumerate_new
    (meets_enumerate_newT l items n dct sl) ⟨hl, ?_⟩
  have hz : (s.heap.push { cls := .type "tuple_iterator", data := .fields #[.ref l, .int 0 0] }).objs.size = s.heap.objs.size + 1 := Heap.size_push ..
  show _ ∧ _
  rw [hz]
  have he : IsEnum ((s.heap.push { cls := .type "tuple_iterator", data := .fields #[.ref l, .int 0 0] }).push
      { cls := .type "enumerate", data := .fields #[.none, .bool false, .ref s.heap.objs.size, rawInt 0, .none, .none] }) (s.heap.objs.size + 1) s.heap.objs.size 0 .none := by
    have := Heap.get?_push_size (s.heap.push { cls := .type "tuple_iterator", data := .fields #[.ref l, .int 0 0] })
      (o := { cls := .type "enumerate", data := .fields #[.none, .bool false, .ref s.heap.objs.size, rawInt 0, .none, .none] }) rfl
    rw [hz] at this; exact this
  refine ⟨⟨_, he, rfl⟩, h _ he ⟨_, Heap.get?_push_of_some _ (Heap.get?_push_size _ rfl), rfl, rfl⟩ (by rw [Heap.size_push, hz]) fun b o x => Heap.get?_push_of_some _ (Heap.get?_push_of_some _ x)⟩
/-- the tuple at a, each item in a new pair -/
def IteT (K : PySem.W.Frag) (a : Addr) : It :=
  ⟨fun i H => ∃ (xs : List V) (x : V), SqT K H a xs ∧ xs[i]? = some x, fun i H v H' => ∃ T x, v = .ref T ∧ H T = none ∧ H' = upd H T (.tup [.int (i : Nat), x]) ∧ ∀ xs, SqT K H a xs → xs[i]? = some x, fun i H => ∃ xs : List V, SqT K H a xs ∧ xs.length ≤ i⟩
theorem turn_enumT {P : Program} {w : World} {K : PySem.W.Frag} {elts : List Expr} {kk : Nat} {tpos : Pos} (a e it : Addr) :
    Turn P w K (.Tuple elts kk tpos) (IteT K a) [e, it] e (fun i h => (∃ old, IsEnum h e it ((i : Nat) : Int) old) ∧ h.IsTupleIter it a i ∧ e ≠ it ∧ a ≠ it ∧ a ≠ e) where
  mem := by simp
  obj := fun i h st b hb => by
    obtain ⟨⟨old, he⟩, ⟨o, ho, hc, hd⟩, _⟩ := st
    have e' : b = e ∨ b = it := by simpa using hb
    rcases e' with z | z
    · rw [z]; exact ⟨_, he, fun v q => nomatch q⟩
    · rw [z]; exact ⟨o, ho, fun v q => by rw [hd] at q; cases q⟩
  keep := fun i h h' st k => let ⟨⟨old, he⟩, hi, hne⟩ := st; ⟨⟨old, k e (by simp) _ he⟩, hi.at fun o q => k it (by simp) o q, hne⟩
  item := by
    intro X hP hw hK hc i pins s σ H E I hf st hg
    subst hP hw hK
    obtain ⟨⟨old, he⟩, hit, hne, hai, hae⟩ := st
    obtain ⟨xs, x, hq, hx⟩ := hg
    obtain ⟨its, rv, p, hz⟩ := I.tuple hq
    obtain ⟨u, hu, ru⟩ := rv.get hx
    have hel : e < s.heap.objs.size := Heap.lt_size he
    have hil : it < s.heap.objs.size := by obtain ⟨_, q, _⟩ := hit; exact Heap.lt_size q
    have hlt : i < its.toArray.size := by
      have := (List.getElem?_eq_some_iff.mp hu).1
      simpa using this
    refine wpAny_pyNext_enum_itemD (Draws.tuple (A := X.A.in1) (show X.A.in1.handled = none from I.ok.hd hc) it a hai its.toArray) he ⟨hit, p⟩ hlt hne (by simp [hne, Ne.symm hae]) fun x' h' tk hP ho hst' hT hsz hk => ?_
    have hux : x' = u := by
      have h1 : its[i]? = some x' := by simpa using hP
      rw [hu] at h1
      exact (Option.some.inj h1).symm
    subst hux
    refine ⟨_, rfl, wpAny_letOwnedTupleGo_enum (s := { s with heap := h', toks := tk + 1 }) ho fun h'' he' sb => ?_⟩
    have hT2 : h''.get? s.heap.objs.size = some { cls := .type "tuple", data := .seq #[.int i tk, x'] } := (sb.2 _ (Nat.ne_of_gt hel)).trans hT
    have new : ObjOk X.prog X.w (upd H s.heap.objs.size (.tup [.int (i : Nat), x])) h'' s.heap.objs.size (.tup [.int (i : Nat), x]) :=
      ⟨by show 2 ≤ sizeLine; decide, [.int i tk, x'], .cons ⟨_, rfl⟩ (.cons ru .nil), ⟨_, hT2, rfl, _, rfl⟩⟩
    have I1 : Inv X pins σ (upd H s.heap.objs.size (.tup [.int (i : Nat), x])) { s with heap := h'', toks := tk + 1 } :=
      I.turnedNew (ch := [e, it]) (fun b ob hb q => (sb.2 b (fun z => hb (by simp [z]))).trans (hk b ob (fun z => hb (by simp [z])) (fun z => hb (by simp [z])) q)) hf (Nat.le_refl _) new
    refine ⟨.ref s.heap.objs.size, _, I1, rfl, ⟨_, x, rfl, I.hok.fresh (Nat.le_refl _), rfl, fun ys hy => by rw [I.tuple_inj hy hq]; exact hx⟩, ⟨⟨x', ?_⟩, hst'.1.at fun o q => (sb.2 it (Ne.symm hne)).trans q, hne, hai, hae⟩, fun b hb => ?_⟩
    · have e1 : ((i + 1 : Nat) : Int) = (i : Int) + 1 := by omega
      rw [e1]; exact he'
    · have hb' : b < s.heap.objs.size := by
        have e' : b = e ∨ b = it := by simpa using hb
        rcases e' with z | z
        · rw [z]; exact hel
        · rw [z]; exact hil
      rw [upd_ne (Nat.ne_of_lt hb')]
      exact (hf b hb).1
  done := by
    intro X hP hw hK hc i pins s σ H E I hf st hg
    subst hP hw hK
    obtain ⟨⟨old, he⟩, hit, hne, hai, hae⟩ := st
    obtain ⟨xs, hq, hx⟩ := hg
    obtain ⟨its, rv, p, hz⟩ := I.tuple hq
    obtain ⟨f0, f1, f2, f3, f4, f5⟩ := hf it (by simp)
    have hl := rv.length
    have D : Draws X.prog X.w X.A.in1 it [it, a] i (fun _ _ => False) (fun j h => j = i ∧ h.IsTupleIter it a i ∧ h.IsTuple a its.toArray) := ⟨fun _ _ st => let ⟨o, ho, _⟩ := st.2.1; ⟨o, ho⟩, fun _ _ _ st hk => ⟨st.1, st.2.1.at fun o e => hk it (by simp) o e, st.2.2.at fun o e => hk a (by simp) o e⟩,
      fun j s Q E hj st hQ => absurd (st.1 ▸ hj) (Nat.lt_irrefl _), fun s Q E st hE => wpAny_nextOf_tuple_end (show X.A.in1.handled = none from I.ok.hd hc) st.2.1 st.2.2 (by simp; omega) hE⟩
    exact wpAny_pyNext_enum_endD D he ⟨rfl, hit, p⟩ fun h' eb => ⟨rfl, I.turned (t' := s.toks) (fun b o hb q => eb b o hb q) f0 f1 f3 f4 f5⟩
  self := fun A i s Q E st h => let ⟨⟨_, he⟩, _⟩ := st; wpAny_pyIter_enum he h
def iEnumT (K : PySem.W.Frag) (ta : TA) : TI := fun σ H R => ta σ H fun vs H1 => ∃ a xs, vs = [.ref a] ∧ SqT K H1 a xs ∧ R (IteT K a) H1
theorem pi_enumT {X : Cx} {e : Expr} {ta : TA} {p pos tpos : Pos} {elts : List Expr} {kk : Nat} (hg : Gl X "enumerate") (hm : X.mg "enumerate" = none) (ha : PA X [e] ta) (hs : starEach [e] X.env = [(false, eval e X.env)] := by rfl) :
    PI X (.Tuple elts kk tpos) (.Call (.Name "enumerate" p) [e] [] pos) (iEnumT X.K ta) := by
  refine ⟨fun pins s σ H R I h => ?_⟩
  refine Call_ (ld_blt I hg hm boot_enumerate (PyProof.Rows.callWith_type1 (thn (ha.run pos pins s σ H _ I h) fun us s1 ⟨vs, H1, I1, r1, q1⟩ => ?_) hs rfl))
  obtain ⟨a, xs, ex, hq, q⟩ := q1
  subst ex
  cases r1 with
  | cons r rr =>
    cases rr
    cases r
    obtain ⟨its, rv, p', hz⟩ := I1.tuple hq
    have hal : a < s1.heap.objs.size := by obtain ⟨o, e1, _⟩ := id p'; exact Heap.lt_size e1
    refine call_enumerate_tuple p' fun h' he hit hsz hk => wpAny_pyIter_enum he ?_
    have I2 : Inv X pins σ H1 { s1 with heap := h' } := I1.kept (t' := s1.toks) hk
    refine ⟨s1.heap.objs.size + 1, [s1.heap.objs.size + 1, s1.heap.objs.size], _, _, H1, rfl, I2, turn_enumT a (s1.heap.objs.size + 1) s1.heap.objs.size, ⟨⟨.none, he⟩, hit, Nat.succ_ne_self _, Nat.ne_of_lt hal, Nat.ne_of_lt (Nat.lt_succ_of_lt hal)⟩, fun b hb => ?_, q⟩
    have e' : b = s1.heap.objs.size + 1 ∨ b = s1.heap.objs.size := by simpa using hb
    have hle : s1.heap.objs.size ≤ b := by
      rcases e' with z | z
      · rw [z]; exact Nat.le_add_right _ _
      · rw [z]; exact Nat.le_refl _
    exact I1.fpOk hle (I1.hok.fresh hle)
theorem go_iEnumT {K : PySem.W.Frag} {ta : TA} {σ : L2.St} {H : Hp} {R : It → Hp → Prop} (h : ta σ H fun vs H1 => ∃ a xs, vs = [.ref a] ∧ SqT K H1 a xs ∧ R (IteT K a) H1) : iEnumT K ta σ H R := h
/-- if a op b op c op d -/
def tChain3 (r r' r'' : R2) (ta tb tc td : TE) : TT := fun σ H Q => ta σ H fun x H1 => tb σ H1 fun y H2 => r x y H2 fun z H3 => ∃ k, z = .bl k ∧
  (if k = true then tc σ H3 fun w H4 => r' y w H4 fun z H5 => ∃ k, z = .bl k ∧ (if k = true then td σ H5 fun u H6 => r'' w u H6 fun z H7 => ∃ k, z = .bl k ∧ Q k H7 else Q false H5) else Q false H3)
theorem pt_chain3 {X : Cx} {a b c d : Expr} {ta tb tc td : TE} {pos : Pos} {op op' op'' : CmpOp} {r r' r'' : R2} (ho : OpR X (compareOp op) r) (ho' : OpR X (compareOp op') r') (ho'' : OpR X (compareOp op'') r'') (ha : PE X a ta) (hb : PE X b tb) (hc : PE X c tc) (hd : PE X d td)
    (hm : lastMarks [op, op', op''] [b, c, d] = false := by with_unfolding_all rfl) : PT X (.Compare a [op, op', op''] [b, c, d] pos) (tChain3 r r' r'' ta tb tc td) := by
  refine ⟨fun pins s σ H Q I h => ?_⟩
  refine isTrue_chain (thn (ha.run pins s σ H _ I h) fun v s1 ⟨x, H1, I1, r1, q1⟩ => test_link (thn (hb.run pins s1 σ H1 _ I1 q1) fun u s2 ⟨y, H2, I2, r2, q2⟩ =>
    thn (ho pins s2 σ H2 x y v u _ I2 r1 r2 q2) fun d s3 ⟨z, H3, I3, r3, k, e, q3⟩ => ?_)) hm
  subst e
  cases r3
  refine wpAny_truthy_bool ?_
  cases k with
  | false => exact ite_ff ⟨H3, I3, q3⟩
  | true =>
    refine ite_tt (test_link (thn (hc.run pins s3 σ H3 _ I3 q3) fun w' s4 ⟨z', H4, I4, r4, q4⟩ => thn (ho' pins s4 σ H4 y z' u w' _ I4 r2 r4 q4) fun d' s5 ⟨z2, H5, I5, r5, k2, e2, q5⟩ => ?_))
    subst e2
    cases r5
    refine wpAny_truthy_bool ?_
    cases k2 with
    | false => exact ite_ff ⟨H5, I5, q5⟩
    | true =>
      refine ite_tt (test_last (thn (hd.run pins s5 σ H5 _ I5 q5) fun w'' s6 ⟨z'', H6, I6, r6, q6⟩ => thn (ho'' pins s6 σ H6 z' z'' w' w'' _ I6 r4 r6 q6) fun d'' s7 ⟨z3, H7, I7, r7, k3, e3, q7⟩ => ?_))
      subst e3
      cases r7
      exact wpAny_truthy_bool ⟨H7, I7, q7⟩
theorem go_chain3 {r r' r'' : R2} {ta tb tc td : TE} {σ : L2.St} {H : Hp} {Q : Bool → Hp → Prop} (h : ta σ H fun x H1 => tb σ H1 fun y H2 => r x y H2 fun z H3 => ∃ k, z = .bl k ∧
  (if k = true then tc σ H3 fun w H4 => r' y w H4 fun z H5 => ∃ k, z = .bl k ∧ (if k = true then td σ H5 fun u H6 => r'' w u H6 fun z H7 => ∃ k, z = .bl k ∧ Q k H7 else Q false H5) else Q false H3)) : tChain3 r r' r'' ta tb tc td σ H Q := h
theorem go_par {i j : Nat} {ta : TA} {D : Ends} {σ : L2.St} {H : Hp} (h : ta σ H fun vs H1 => ∃ v w, vs = [v, w] ∧ D.nx ((σ.set i (some v)).set j (some w)) H1) : tPar i j ta D σ H := h
end Vc

/-! Xf: for x in o, [.. for x in o], o of an own class whose __iter__ says iter(self.f), f a list (my own; ways of HandS.Call's fn_of, HandS.IterVal). -/
namespace Vc
open PySem PySem.Spec PyProof.Rows L2
/-- a def's promise that may speak of the state it is called in -/
structure FnS (P : Program) (w : World) (K : PySem.W.Frag) (mg : Str → Option Value) (base : Heap) (k : Nat) (f : Addr) (fd : FuncData) (ps : List Str) (sp : Shared → Sp) : Prop where
  len : ∀ s vs H Q E, sp s vs H Q E → vs.length = ps.length
  run : ∀ (A : Around) (outer : List Env) (s : Shared) (H : Hp) (args : Args) (us : List Value) (vs : List V) (Q : VK) (E : XK), Room k A → Env0 P w K mg base A outer s H → BindsTo s fd args (ps.zip us) → Vals vs us → sp s vs H Q E →
    codeAny (model P w) A (.call (.ref f) args) (CR CX0 outer P w H s Q E) s
theorem Fun.okS {P : Program} {w : World} {K : PySem.W.Frag} {mg : Str → Option Value} {base : Heap} {x qual : Str} {st : Stmt} {f : Addr} {fd : FuncData} {N ps : List Str} {k : Nat} {sp : Shared → Sp} (F : Fun K x qual st f fd) (S : FnScope N ps (defScope st)) (len : ∀ s vs H Q E, sp s vs H Q E → vs.length = ps.length)
    (hbody : ∀ (cdv : Value) (A : Around) (outer : List Env) (s : Shared) (H : Hp) (vs : List V) (Q : VK) (E : XK), Room k (A.deeper (envOfC qual (defScope st) s.heap.objs.size f cdv)) → sp s vs H Q E →
      ∃ t, PSs (cxOf CX0 P w K mg base N qual (defScope st) f cdv A outer s H E).nox (defBody st) t ∧ t { nx := fun _ H' => Q .non H', rt := Q } (start N vs) H) : FnS P w K mg base (k + 1) f fd ps sp := by
  obtain ⟨oc, od, kV, doc, pm, an, cdv, ct, osl, rfl, lk, hcd⟩ := F.ex
  refine ⟨len, fun A outer s H args us vs Q E hr e0 hb r hsp => ?_⟩
  have hl := len _ _ _ _ _ hsp
  have KX : K.In s.heap := e0.mod.kin.keeps fun b o e => (e0.bs b o e).1
  have lim : s.heap.NoLimit := e0.mod.nolimit.keeps fun b o e => (e0.bs b o e).1
  have hkind : ∀ y ∈ ps.zip us, (defScope st).names.lookup y.1 = some .local ∨ ((defScope st).names.lookup y.1 = some .cell ∧ ((cellsFrom (s.heap.objs.size + 1) (defScope st).names []).lookup y.1).isSome = true) := fun ⟨n, v⟩ hy => by
    rcases S.par n (List.of_mem_zip hy).1 with q | q
    · exact .inl q
    · exact .inr ⟨q, PySem.W.cellsFrom_some _ _ _ (.inl q)⟩
  refine codeAny_call_function hr.depth (KX _ _ lk) rfl S.co S.gen rfl (PySem.W.codeRec_of KX hcd) (hb _ _ _ _ ?_)
  refine wpAny_newFunctionEnv_cells S.kind hkind fun env he s1 x => ?_
  subst he
  refine ⟨lim.keeps x.toInCall.keep, codeAny_func ?_⟩
  obtain ⟨t, ht0, hq⟩ := hbody cdv A outer s H vs Q E (hr.deeper _) hsp
  have ht := ht0.nox
  have I : Inv (cxOf CX0 P w K mg base N qual (defScope st) f cdv A outer s H E) [] (start N vs) H s1 := inv_start S hr.hd e0 hl r x
  refine wpAny_mono (ht.run [] s1 (start N vs) H _ I hq) (fun fl s' hs => ?_) fun e s' hs => hs
  have fin : ∀ {σ' : L2.St} {H' : Hp} {v : V} {u : Value}, Inv (cxOf CX0 P w K mg base N qual (defScope st) f cdv A outer s H E) [] σ' H' s' → RelV v u → Q v H' → CE outer P w H s Q u s' :=
    fun {σ' H' v u} J rv q => ⟨v, H', J.os, J.bare, J.base, J.hok, rv, q⟩
  cases fl with
  | ret u =>
    obtain ⟨v, σ', H', J, rv, q⟩ := hs
    exact fin J rv q
  | next =>
    obtain ⟨σ', H', J, q⟩ := hs
    exact fin (v := V.non) (u := Value.none) J rfl q
  | brk =>
    obtain ⟨_, _, _, q⟩ := hs
    exact False.elim q
  | cont =>
    obtain ⟨_, _, _, q⟩ := hs
    exact False.elim q
/-- __iter__ says iter(self.f), f a list -/
def spIter (K : PySem.W.Frag) (C : Addr) (F : Str) : Shared → Sp := fun s vs H Q _ => ∃ (a dx l : Addr) (fs : List (Str × V)) (zs : List V), vs = [.ref a] ∧ H a = some (.ins C dx fs) ∧ fs.lookup F = some (.ref l) ∧ SqL K H l zs ∧ ∀ it, H it = none → s.heap.objs.size ≤ it → Q (.ref it) (upd H it (ItO l it 0))
section
variable {X : Cx} {C g : Addr} {fd : FuncData} {ps : List Str} {n : Nat}
theorem runS {A : Around} {pins : List (Addr × Obj)} {σ : L2.St} {s : Shared} {H : Hp} {us : List Value} {vs : List V} {Q : VK} {EE : Value → Shared → Prop} {sp : Shared → Sp} (F : FnS X.prog X.w X.K X.mg X.base n g fd ps sp) (hr : Room n A) (hb : Binds X.K fd ps [])
    (I : Inv X pins σ H s) (env0 : Env0 X.prog X.w X.K X.mg X.base A X.stack s H) (r2 : Vals vs us) (q : sp s vs H Q E0) :
    wpAny (model X.prog X.w) A (call (.ref g) us) (fun u s' => ∃ z H', Inv X pins σ H' s' ∧ RelV z u ∧ Q z H') EE s := by
  have hl := F.len _ _ _ _ _ q
  have hb' := hb s us I.kIn (by rw [List.append_nil, ← r2.length]; exact hl)
  rw [List.append_nil] at hb'
  refine wpAny_call (codeAny_mono (F.run A X.stack s H ⟨us, []⟩ us vs _ E0 hr env0 hb' r2 q) fun r s' hq => ?_)
  cases r with
  | error e => exact hq.elim
  | ok fl =>
    cases fl with
    | ret w =>
      obtain ⟨z, H', I', rz, qz⟩ := I.after hq
      exact ⟨z, H', I', rz, qz⟩
    | next => exact False.elim hq
    | brk => exact False.elim hq
    | cont => exact False.elim hq
def iOwn (K : PySem.W.Frag) (C : Addr) (F : Str) (te : TE) : TI := fun σ H R => te σ H fun x H1 => ∃ (a dx l : Addr) (fs : List (Str × V)) (zs : List V), x = .ref a ∧ H1 a = some (.ins C dx fs) ∧ fs.lookup F = some (.ref l) ∧ SqL K H1 l zs ∧ R (Itl K l) H1
theorem pi_own {tg e : Expr} {te : TE} {F : Str} (he : PE X e te) (G : FnS X.prog X.w X.K X.mg X.base n g fd ps (spIter X.K C F)) (hr : Room n X.A) (m : SpM X.K C g "__iter__") (hb : Binds X.K fd ps []) : PI X tg e (iOwn X.K C F te) := by
  refine ⟨fun pins s σ H R I h => ?_⟩
  refine thn (he.run pins s σ H _ I h) fun u s1 ⟨y, H1, I1, ry, a, dx, l, fs, zs, ey, ha, hl, hq, q⟩ => ?_
  subst ey
  obtain rfl : u = Value.ref a := ry
  obtain ⟨mA, J, _⟩ := ins_get I1.hok ha
  obtain ⟨od, J, _⟩ := J.look
  obtain ⟨m0, hF⟩ := I1.fr
  refine PySem.W.owit_iter hF I1.ok.mod.kin J m.at_ m.fn ?_
  refine wpAny_mono (runS (vs := [.ref a]) (EE := fun _ _ => False) (Q := fun v H' => ∃ it, v = .ref it ∧ H1 it = none ∧ s1.heap.objs.size ≤ it ∧ H' = upd H1 it (ItO l it 0)) G hr hb I1 I1.env0 (.cons rfl .nil) ⟨a, dx, l, fs, zs, rfl, ha, hl, hq, fun it n1 n2 => ⟨it, rfl, n1, n2, rfl⟩⟩) (fun u s' hq' => ?_) (fun _ _ e => e.elim)
  obtain ⟨z, H', I', rz, it, rfl, n1, n2, rfl⟩ := hq'
  cases rz
  have hi : (upd H1 it (ItO l it 0)) it = some (ItO l it 0) := upd_same
  have eo := itO_get I' hi
  have hT : s'.TypeIs (.ref it) "list_iterator" := ⟨_, eo, rfl⟩
  unfold PySem.W.OwitIt
  refine wpAny_specialOf (name := Str.ofString "__next__") hT slot_listiter_next.lookup ?_
  have hi' := hi
  unfold ItO at hi'
  have dr : ItX.dropH (upd H1 it (ItO l it 0)) it = H1 := ItX.dropH_upd n1
  have I2 := ItX.inv_drop I' hi'
  have fp := ItX.inv_fp I' hi (Nat.le_trans I1.sz n2)
  have st : s'.heap.IsListIter it l 0 := ⟨_, eo, rfl, rfl⟩
  rw [show ItX.dropH (upd H1 it (ItO l it 0)) it = H1 from dr] at fp
  have I3 : Inv X pins σ H1 s' := dr ▸ I2
  exact ⟨it, [it], _, _, H1, rfl, I3, turn_list l it, st, fun b hb => by
    have e : b = it := by simpa using hb
    rw [e]; exact fp, q⟩
end
section
variable {X : Cx} {tg e : Expr} {wi wj : TI}
/-- two readings of what is walked -/
theorem pi_or (h1 : PI X tg e wi) (h2 : PI X tg e wj) : PI X tg e (fun σ H R => wi σ H R ∨ wj σ H R) :=
  ⟨fun pins s σ H R I h => h.elim (h1.run pins s σ H R I) (h2.run pins s σ H R I)⟩
end
theorem go_iOwn {K : PySem.W.Frag} {C : Addr} {F : Str} {te : TE} {σ : L2.St} {H : Hp} {R : It → Hp → Prop} (h : te σ H fun x H1 => ∃ (a dx l : Addr) (fs : List (Str × V)) (zs : List V), x = .ref a ∧ H1 a = some (.ins C dx fs) ∧ fs.lookup F = some (.ref l) ∧ SqL K H1 l zs ∧ R (Itl K l) H1) : iOwn K C F te σ H R := h
end Vc

/-! Xn: x != y by an own __eq__ (object's __ne__ asks it); xs.count(True) (my own). -/
namespace Vc
open PySem PySem.Spec PyProof.Rows L2
section
open PySem.W PySem.Calls
variable {prog : Program} {w : World} {A A₀ : Around} {E : Value → Shared → Prop} {s : Shared} {K : Frag} {x C L f : Addr} {h₀ : Heap} {m : Str → Option Value} {ox : Obj} {od : Option Obj} {name : Str} {b tb : Value}
theorem ifBoundB_K {M : Model} {id : String} {args : List Value} {Q : Option Value → Shared → Prop} (X : K.In s.heap) (I : InstAt s.heap x ox C od) (hs : findIn K (.ref C) name = some (some (.builtin id))) (hb : ∀ self, bindSpecial (.builtin id) self = pure (.builtin id, [self]))
    (h : wpAny M A (call (.builtin id) (.ref x :: args)) (fun v => Q (some v)) E s) : wpAny M A (callSpecialIfBound? (.ref x) name args) Q E s := by
  simp only [callSpecialIfBound?, bindSpecialIfBound?]
  refine wpAny_holding (wpAny_bind (wpAny_bind (wpAny_bind (I.type.here ((looks_findIn X hs).here ?_)))))
  simp only [hb]
  refine wpAny_bind (wpAny_askSetting (wpAny_ite ?_))
  have fin : wpAny M A (call (.builtin id) ([.ref x] ++ args) >>= fun v => pure (some v)) Q E s := wpAny_bind (wpAny_mono h (fun v s' h' => wpAny_pure h') fun _ _ h' => h')
  split
  · exact wpAny_bind (wpAny_pure (wpAny_pure fin))
  · exact wpAny_tryCatch (wpAny_bind (wpAny_pure (wpAny_pure fin)))
theorem neEntry {Q : Fin → Shared → Prop} (hu : A.units < cLine) (X : K.In s.heap) (I : InstAt s.heap x ox C od) (hs : findIn K (.ref C) "__eq__" = some (some (.ref f))) (hf : isFn K (.ref f) = true)
    (hcall : wpAny (model prog w) A (call (.ref f) [.ref x, b]) (fun v s' => ∃ c, v = .bool c ∧ Q (.done (.ret (.bool (!c)))) s') E s) :
    wpAny (model prog w) A (Builtin.«object.__ne__» ⟨[.ref x, b], []⟩) Q E s := by
  unfold Builtin.«object.__ne__»
  repeat (first
    | with_reducible refine wpAny_cRoomFor hu ?_
    | (refine wpAny_bind (m := callSpecialIfBound? (.ref x) (Str.ofString "__eq__") [b])
        (ifBound_K X I hs hf (wpAny_mono hcall (fun v s' hr => by
          obtain ⟨c, rfl, hq⟩ := hr
          repeat (first | exact hq | exact wpAny_pure hq | exact wpAny_truthy_bool hq | (refine wpAny_bind (m := truthy (.bool _)) (wpAny_truthy_bool ?_)) | wp_step)) fun _ _ e => e)))
    | wp_step)
theorem tryNe {Q : Option Value → Shared → Prop} (hu : A.units + 1 < cLine) (X : K.In s.heap) (I : InstAt s.heap x ox C od) (hn : findIn K (.ref C) "__ne__" = some (some (.builtin "object.__ne__"))) (ht : mroIn K C (.type "object") = some true)
    (hs : findIn K (.ref C) "__eq__" = some (some (.ref f))) (hf : isFn K (.ref f) = true)
    (hcall : wpAny (model prog w) A.in1 (call (.ref f) [.ref x, b]) (fun v s' => ∃ c, v = .bool c ∧ Q (some (.bool (!c))) s') E s) :
    wpAny (model prog w) A (tryCompare (.ref x) "__ne__" b) Q E s := by
  simp only [tryCompare]
  have hi : Looks (model prog w) s.heap (isInstance (.ref x) (.type "object")) true := I.type.andThen (looks_mroIn X ht)
  refine wpAny_bind (ifBoundB_K X I hn (fun self => PySem.F.cmp_object.ne.bind self) (wpAny_call (codeAny_call_builtin PySem.F.cmp_object.ne.plain PySem.F.cmpEntry_ne
    (check_slot PySem.F.cmpKind_ne PySem.F.cmpSplit_ne hi (PySem.F.cmpArgs_ne _ _) (neEntry (A := A.in1) hu X I hs hf (wpAny_mono hcall (fun v s' hv => ?_) fun _ _ e => e))))))
  obtain ⟨c, rfl, hq⟩ := hv
  first | exact ⟨c, rfl, wpAny_pure hq⟩ | exact ⟨c, rfl, wpAny_pure (wpAny_pure hq)⟩ | exact ⟨c, rfl, hq⟩
theorem ne_K {Q : Value → Shared → Prop} (hu : A.units + 1 < cLine) (F : Fr h₀ L s.heap m) (X₀ : K.In h₀) (I : InstAt s.heap x ox C od) (hb : Looks (model prog w) s.heap (typeOf b) tb) (hn : notFirst K C tb = true)
    (hne : findIn K (.ref C) "__ne__" = some (some (.builtin "object.__ne__"))) (ht : mroIn K C (.type "object") = some true) (hs : findIn K (.ref C) "__eq__" = some (some (.ref f))) (hf : isFn K (.ref f) = true)
    (h : wpAny (model prog w) A.in1 (call (.ref f) [.ref x, b]) (fun v s' => ∃ c, v = .bool c ∧ Q (.bool (!c)) s') E s) : wpAny (model prog w) A (richCompare .NotEq (.ref x) b) Q E s := by
  have X := X₀.keeps F.keep
  have one : wpAny (model prog w) A (tryCompare (.ref x) "__ne__" b) (fun r s' => ∃ v, r = some v ∧ Q v s') E s := by
    refine tryNe hu X I hne ht hs hf (wpAny_mono h (fun v s' hv => ?_) fun _ _ e => e)
    obtain ⟨c, rfl, hq⟩ := hv
    exact ⟨c, rfl, _, rfl, hq⟩
  unfold richCompare
  simp only [oneThing_ref]
  refine wpAny_holding (wpAny_bind (wpAny_cRoomFor (Nat.lt_of_succ_lt hu) ?_))
  rw [cmpInfo_NotEq]
  dsimp only
  refine wpAny_bind (I.type.here (wpAny_bind (hb.here ?_)))
  split
  · rename_i q
    have e : subIn K tb (.ref C) = some false := by
      rcases Bool.or_eq_true_iff.mp hn with e | e
      · rw [beq_iff_eq.mp e] at q; simp at q
      · exact beq_iff_eq.mp e
    refine wpAny_bind ((looks_subIn X e).here ?_)
    simp only [Bool.false_eq_true, if_false]
    refine wpAny_bind (wpAny_mono one (fun r s' z => ?_) fun _ _ e => e)
    obtain ⟨v, rfl, hq⟩ := z
    exact wpAny_pure hq
  · refine wpAny_bind (wpAny_pure ?_)
    simp only [Bool.false_eq_true, if_false]
    refine wpAny_bind (wpAny_mono one (fun r s' z => ?_) fun _ _ e => e)
    obtain ⟨v, rfl, hq⟩ := z
    exact wpAny_pure hq
end
structure NeM (K : PySem.W.Frag) (C g : Addr) : Prop where
  eq : EqM K C g
  ne : PySem.W.findIn K (.ref C) "__ne__" = some (some (.builtin "object.__ne__"))
  top : PySem.W.mroIn K C (.type "object") = some true
def rNeO (K : PySem.W.Frag) (C : Addr) (sp : Sp) : R2 := fun x y H Q => ∃ (a dx : Addr) (fs : List (Str × V)) (t : Value), x = .ref a ∧ H a = some (.ins C dx fs) ∧ TyX K H y t ∧ PySem.W.notFirst K C t = true ∧ sp [x, y] H (fun v H' => ∃ b, v = .bl b ∧ Q (.bl (!b)) H') E0
theorem op_neO {X : Cx} {C g : Addr} {fd : FuncData} {ps : List Str} {sp : Sp} {n : Nat} (F : FnOk X.prog X.w X.K X.mg X.base CX0 n g fd ps sp) (hr : Room (n + 1) X.A) (m : NeM X.K C g) (hb : Binds X.K fd ps []) : OpR X (compareOp .NotEq) (rNeO X.K C sp) := by
  intro pins s σ H x y v u Q I rx ry hq
  obtain ⟨a, dx, fs, t, rfl, ha, ty, nf, q⟩ := hq
  cases rx
  show wpAny (model X.prog X.w) X.A (richCompare .NotEq (.ref a) u) (EP X pins σ Q) X.xe s
  obtain ⟨mA, J, _⟩ := ins_get I.hok ha
  obtain ⟨od, J, _⟩ := J.look
  obtain ⟨_, Z, p, _⟩ := kit_of I ry ty
  obtain ⟨mm, hF⟩ := I.fr
  refine ne_K (tb := t) (by have := hr.un; omega) hF I.ok.mod.kin J (Z.ty _ _ I.kIn p) nf m.ne m.top m.eq.at_ m.eq.fn ?_
  have hl := F.len _ _ _ _ q
  have r2 : Vals [V.ref a, y] [Value.ref a, u] := .cons rfl (.cons ry .nil)
  have hb' := hb s [.ref a, u] I.kIn (by simpa using hl)
  rw [List.append_nil] at hb'
  refine wpAny_call (codeAny_mono (F.run X.A.in1 X.stack s H ⟨[.ref a, u], []⟩ [.ref a, u] [.ref a, y] _ E0 hr.in1 I.env0.in1 hb' r2 q) fun r s' hq => ?_)
  cases r with
  | error e => exact hq.elim
  | ok fl =>
    cases fl with
    | ret w =>
      obtain ⟨z, H', I', rz, b, ez, qz⟩ := I.after hq
      subst ez
      cases rz
      exact ⟨b, rfl, .bl (!b), H', I', rfl, qz⟩
    | next => exact False.elim hq
    | brk => exact False.elim hq
    | cont => exact False.elim hq
theorem go_neO {K : PySem.W.Frag} {C : Addr} {sp : Sp} {x : V} {y : V} {H : Hp} {Q : VK} {a dx : Addr} {fs : List (Str × V)} {t : Value} (e : x = .ref a) (ha : H a = some (.ins C dx fs)) (ty : TyX K H y t) (nf : PySem.W.notFirst K C t = true)
    (q : sp [x, y] H (fun v H' => ∃ b, v = .bl b ∧ Q (.bl (!b)) H') E0) : rNeO K C sp x y H Q := ⟨a, dx, fs, t, e, ha, ty, nf, q⟩
end Vc

/-! Xg: defs that are run where no repr is under way (so that repr of data is known), their calls, the end of a law over them (my own). -/
namespace Vc
open PySem PySem.Spec PyProof.Rows L2
structure FnG (P : Program) (w : World) (K : PySem.W.Frag) (mg : Str → Option Value) (base : Heap) (CX : CXT) (k : Nat) (f : Addr) (fd : FuncData) (ps : List Str) (sp : Sp) : Prop where
  len : ∀ vs H Q E, sp vs H Q E → vs.length = ps.length
  run : ∀ (A : Around) (outer : List Env) (s : Shared) (H : Hp) (args : Args) (us : List Value) (vs : List V) (Q : VK) (E : XK), A.guards = some [] → Room k A → Env0 P w K mg base A outer s H → BindsTo s fd args (ps.zip us) → Vals vs us → sp vs H Q E →
    codeAny (model P w) A (.call (.ref f) args) (CR CX outer P w H s Q E) s
theorem FnG.of {P : Program} {w : World} {K : PySem.W.Frag} {mg : Str → Option Value} {base : Heap} {CX : CXT} {k : Nat} {f : Addr} {fd : FuncData} {ps : List Str} {sp : Sp} (F : FnOk P w K mg base CX k f fd ps sp) : FnG P w K mg base CX k f fd ps sp :=
  ⟨F.len, fun A outer s H args us vs Q E _ hr => F.run A outer s H args us vs Q E hr⟩
/-- the rule for such a def -/
theorem Fun.okG {P : Program} {w : World} {K : PySem.W.Frag} {mg : Str → Option Value} {base : Heap} {x qual : Str} {st : Stmt} {f : Addr} {fd : FuncData} {N ps : List Str} {k : Nat} {sp : Sp} (F : Fun K x qual st f fd) (S : FnScope N ps (defScope st)) (len : ∀ vs H Q E, sp vs H Q E → vs.length = ps.length)
    (hbody : ∀ (cdv : Value) (A : Around) (outer : List Env) (s : Shared) (H : Hp) (vs : List V) (Q : VK) (E : XK), (A.deeper (envOfC qual (defScope st) s.heap.objs.size f cdv)).guards = some [] → Room k (A.deeper (envOfC qual (defScope st) s.heap.objs.size f cdv)) → sp vs H Q E →
      ∃ t, PSs (cxOf CX0 P w K mg base N qual (defScope st) f cdv A outer s H E).nox (defBody st) t ∧ t { nx := fun _ H' => Q .non H', rt := Q } (L2.start N vs) H) : FnG P w K mg base CX0 (k + 1) f fd ps sp := by
  obtain ⟨oc, od, kV, doc, pm, an, cdv, ct, osl, rfl, lk, hcd⟩ := F.ex
  refine ⟨len, fun A outer s H args us vs Q E hg hr e0 hb r hsp => ?_⟩
  refine LamX.run_ofS lk hcd S hr e0 hb r (len _ _ _ _ hsp) fun hr' => ?_
  obtain ⟨t, h, q⟩ := hbody cdv A outer s H vs Q E hg hr' hsp
  exact ⟨t, h.nox, q⟩
section
variable {X : Cx} {k : Nat} {f : Addr} {fd : FuncData} {ps : List Str} {sp : Sp} {x : Str} {q pos : Pos} {e : Expr} {es : List Expr} {t : TA}
theorem runG {pins : List (Addr × Obj)} {σ : L2.St} {H : Hp} {s : Shared} {us : List Value} {vs : List V} {Q : VK} (F : FnG X.prog X.w X.K X.mg X.base CX0 k f fd ps sp) (hgd : X.A.guards = some []) (hr : Room k X.A) (hb : Binds X.K fd ps []) (I : Inv X pins σ H s) (r : Vals vs us) (q : sp vs H Q E0) :
    wpAny (model X.prog X.w) X.A (call (.ref f) us) (EP X pins σ Q) X.xe s := by
  have hl : us.length = ps.length := by rw [← r.length]; exact F.len _ _ _ _ q
  have b := hb s us I.kIn (by rw [List.append_nil]; exact hl)
  rw [List.append_nil] at b
  refine wpAny_call (codeAny_mono (F.run X.A X.stack s H ⟨us, []⟩ us vs Q E0 hgd hr I.env0 b r q) fun r s' hq => ?_)
  rcases r with e | fl
  · exact hq.elim
  · cases fl with
    | ret u => exact I.after hq
    | next => exact False.elim hq
    | brk => exact False.elim hq
    | cont => exact False.elim hq
/-- f(e, ..) -/
theorem pe_callG (F : FnG X.prog X.w X.K X.mg X.base CX0 k f fd ps sp) (hgd : X.A.guards = some []) (hr : Room k X.A) (hg : Gl X x) (hm : X.mg x = some (.ref f)) (hk : PySem.W.keepIn X.K (.ref f) = true) (hb : Binds X.K fd ps [])
    (ha : PA X (e :: es) t) (hdb : (x == ("__debug__" : Str)) = false := by decide) (he : starEach (e :: es) X.env = (false, eval e X.env) :: starEach es X.env := by rfl) (hpl : (backTo pos (starEach es X.env)).any (·.1) = false := by rfl) :
    PE X (.Call (.Name x q) (e :: es) [] pos) (tCall sp [] E0 t) := by
  refine ⟨fun pins s σ H Q I h => ?_⟩
  refine wpAny_Call_Name_kw (ld_glob I hg hm ?_ hdb)
  refine PySem.W.callWith_K (h₀ := X.base) I.ok.mod.kin hk (thn (ha.run pos pins s σ H _ I h) fun us s1 ⟨vs, H1, I1, r, q⟩ => ⟨I1.kIn, ?_⟩) he hpl
  exact runG F hgd hr hb I1 r (by have q : sp (vs ++ []) H1 Q E0 := q; rwa [List.append_nil] at q)
theorem pe_callG0 (F : FnG X.prog X.w X.K X.mg X.base CX0 k f fd ps sp) (hgd : X.A.guards = some []) (hr : Room k X.A) (hg : Gl X x) (hm : X.mg x = some (.ref f)) (hk : PySem.W.keepIn X.K (.ref f) = true) (hb : Binds X.K fd ps [])
    (hdb : (x == ("__debug__" : Str)) = false := by decide) : PE X (.Call (.Name x q) [] [] pos) (tCall sp [] E0 tNil) := by
  refine ⟨fun pins s σ H Q I h => ?_⟩
  refine wpAny_Call_Name_kw (ld_glob I hg hm ?_ hdb)
  exact PySem.W.callWith_K0 I.kIn hk (runG (us := []) F hgd hr hb I .nil h)
/-! ### repr of data -/
/-- small data: what it shows fits -/
structure Fits (d : PyData) : Prop where
  sh : d.showable = true
  nd : d.hasDict = false
  dp : d.depth ≤ 60
  sz : d.shown.length ≤ sizeLine
def rRepr (K : PySem.W.Frag) : List V → Hp → VK → Prop := fun xs H Q => ∃ v d, xs = [v] ∧ Dp K H v d ∧ Fits d ∧ Q (.str d.shown) H
theorem call_reprD (hgd : X.A.guards = some []) (hu : X.A.units + 64 < cLine) : CallR X (.builtin "repr") (rRepr X.K) := by
  intro pins s σ H xs us Q I r h
  obtain ⟨v, d, rfl, hd, ⟨sh, nd, dp, sz⟩, q⟩ := h
  obtain ⟨u, rfl, ru⟩ := vals1 r
  have fin : ∀ h' u tk, (∀ b o, s.heap.get? b = some o → h'.get? b = some o) → EP X pins σ Q (.str d.shown u) { s with heap := h', toks := tk } := fun h' u tk k => ⟨.str d.shown, H, I.kept k, ⟨u, rfl⟩, q⟩
  cases hd with
  | non =>
    cases ru
    rw [PyData.shown_none] at fin
    exact PySem.P.repr_of_none (fin s.heap _ _ fun _ _ e => e)
  | bl b =>
    cases ru
    rw [PyData.shown_bool] at fin
    exact PySem.P.repr_of_bool (fin s.heap _ _ fun _ _ e => e)
  | int i =>
    obtain ⟨t, rfl⟩ := ru
    rw [PyData.shown_int] at fin
    refine PySem.P.repr_of_int ?_ (fin s.heap _ _ fun _ _ e => e)
    simpa [PyData.showable] using sh
  | str z =>
    obtain ⟨t, rfl⟩ := ru
    rw [PyData.shown_str] at fin sz
    exact PySem.P.repr_of_str (fin s.heap _ _ fun _ _ e => e) sz
  | @lst a xs ds ha hds =>
    cases ru
    obtain ⟨as, rd⟩ := Dp.reads I (.list ds) (.ref a) (.ref a) (.lst ha hds) rfl
    exact repr_of_reads' rd sh (fun z => by rw [nd] at z; cases z) hgd (by omega) (fun _ _ e => e) fin sz
  | @tup a xs ds ha hds =>
    cases ru
    obtain ⟨as, rd⟩ := Dp.reads I (.tuple ds) (.ref a) (.ref a) (.tup ha hds) rfl
    exact repr_of_reads' rd sh (fun z => by rw [nd] at z; cases z) hgd (by omega) (fun _ _ e => e) fin sz
theorem room64 {k : Nat} {A : Around} (r : Room k A) : A.units + 64 < cLine := by have := r.un; omega
end
section
variable {K : PySem.W.Frag} {H : Hp} {Q : VK}
theorem go_repr {v : V} {d : PyData} (hd : Dp K H v d) (f : Fits d) (h : Q (.str d.shown) H) : rRepr K [v] H Q := ⟨v, d, rfl, hd, f, h⟩
end
/-! ### the end of a law whose def is an FnG -/
section
variable {P : Program} {w : World} {K : PySem.W.Frag} {mg mb : Str → Option Value} {k : Nat} {fa a : Addr} {fd : FuncData} {x : Str} {sp : Sp} {s₁ : Shared} {vs : List Value} {ns : List Int}
/-- at most the script's object is known, and it is locked -/
def Lone (H : Hp) (a : Addr) : Prop := ∀ b u, H b = some u → b = a ∧ ∃ o ys, u = .frz o (.lst ys)
theorem lone_call {H : Hp} (KX : K.In s₁.heap) (hns : s₁.heap.Ns mainGlobals mg) (hb : s₁.heap.Ns builtinsNs mb) (hbb : ∀ y : Str, y ≠ "__name__" → mb y = bootBuiltins y) (hlim : s₁.heap.NoLimit) (hg : s₁.gens = #[])
    (ha : s₁.heap.get? a = some { cls := .type "list", data := .seq vs.toArray }) (hr : Room k callerA) (F : ∀ base : Heap, K.In base → base.Ns mainGlobals mg → FnG P w K mg base CX0 k fa fd [x] sp) (hbind : ∀ (s : Shared) (u : Value), BindsTo s fd ⟨[u], []⟩ [(x, u)])
    (L : Lone H a) (hok : HOk P w H s₁.heap) (nk : H a ≠ none → K.lookup a = none) (hsp : sp [.ref a] H (fun v _ => v = .bl true) E0) :
    codeAny (model P w) callerA (.call (.ref fa) ⟨[.ref a], []⟩) (fun r s' => r = .ok (.ret (.bool true)) ∧ OldK s₁.heap s'.heap ∧ s'.os = s₁.os ∧ AllBare s'.gens) s₁ := by
  -- what is not the script's object is not tracked
  have un : ∀ {b : Addr}, b ≠ a → H b = none := fun {b} n => by
    cases e : H b with
    | none => rfl
    | some u => exact (n (L b u e).1).elim
  have dict_un : ∀ {b : Addr} {o : Obj} {es : Array DictEntry} {ep : Nat}, s₁.heap.get? b = some o → o.data = .dict es ep → H b = none := fun {b o es ep} e d => by
    refine un fun z => ?_
    rw [z, ha] at e
    injection e with e
    rw [← e] at d
    cases d
  have ns_keep : ∀ {b : Addr} {m : Str → Option Value}, s₁.heap.Ns b m → (hidT s₁.heap H).Ns b m := fun {b m} h => by
    obtain ⟨o, es, ep, e, d, r⟩ := h
    exact ⟨o, es, ep, hidT_get e (dict_un e d), d, r⟩
  have k_in : K.In (hidT s₁.heap H) := fun b o e => hidT_get (KX b o e) <| by
    by_cases z : b = a
    · cases q : H b with
      | none => rfl
      | some u =>
        have := nk (by rw [← z, q]; exact Option.some_ne_none u)
        rw [← z, e] at this
        cases this
    · exact un z
  have env : Env0 P w K mg (hidT s₁.heap H) callerA [] s₁ H := by
    obtain ⟨mc, c1, c2⟩ := hlim
    exact { frames := rfl, mod := ⟨k_in, ns_keep hns, ⟨mb, ns_keep hb, hbb⟩, mc, ns_keep c1, c2⟩, bs := fun _ _ e => of_hidT e, bsz := Nat.le_of_eq (hidT_size _ _), funs := trivial, frf := fun _ z => (nomatch (show _ ∈ ([] : List Addr) from z)), hok := hok, bare := .of_eq hg }
  have go := (F _ k_in (ns_keep hns)).run callerA [] s₁ H ⟨[.ref a], []⟩ [.ref a] [.ref a] (fun v _ => v = .bl true) E0 rfl hr env (hbind s₁ (.ref a)) (.cons rfl .nil) hsp
  refine codeAny_mono go fun r s' hq => ?_
  rcases r with e | fl
  · exact False.elim hq
  cases fl with
  | next => exact False.elim hq
  | brk => exact False.elim hq
  | cont => exact False.elim hq
  | ret u =>
    obtain ⟨v, H', os, bare, u2, hok', rv, ev⟩ := hq
    have ev : v = .bl true := ev
    rw [ev] at rv
    cases rv
    refine ⟨rfl, OldK.of_keep fun b o e => ?_, os, bare⟩
    cases q : H b with
    | none => exact u2.keep b o e q (fun z => nomatch (show b ∈ ([] : List Addr) from z)) (fun z => nomatch (show b ∈ ([] : List Addr) from z))
    | some v2 =>
      obtain ⟨_, ob, ys, ez⟩ := L b v2 q
      rw [ez] at q
      have o1 := (hok b _ q).1
      have o2 := (hok' b _ (u2.frzs b ob _ q)).1
      rw [e] at o1
      injection o1 with o1
      rw [o1]; exact o2
theorem law_callG (KX : K.In s₁.heap) (hns : s₁.heap.Ns mainGlobals mg) (hb : s₁.heap.Ns builtinsNs mb) (hbb : ∀ y : Str, y ≠ "__name__" → mb y = bootBuiltins y) (hlim : s₁.heap.NoLimit) (hg : s₁.gens = #[])
    (ha : s₁.heap.get? a = some { cls := .type "list", data := .seq vs.toArray }) (hi : IntsAre vs ns) (hl : ns.length ≤ sizeLine) (hr : Room k callerA) (F : ∀ base : Heap, K.In base → base.Ns mainGlobals mg → FnG P w K mg base CX0 k fa fd [x] sp) (hbind : ∀ (s : Shared) (u : Value), BindsTo s fd ⟨[u], []⟩ [(x, u)])
    (hsp : ∀ H : Hp, SqL K H a (ns.map V.int) → sp [.ref a] H (fun v _ => v = .bl true) E0) :
    codeAny (model P w) callerA (.call (.ref fa) ⟨[.ref a], []⟩) (fun r s' => r = .ok (.ret (.bool true)) ∧ OldK s₁.heap s'.heap ∧ s'.os = s₁.os ∧ AllBare s'.gens) s₁ := by
  have rv := vals_ints hi
  have len : vs.length = ns.length := hi.length
  cases hk : K.lookup a with
  | some o =>
    have e := KX a o hk
    rw [ha] at e
    injection e with e
    subst e
    exact lone_call (H := fun _ => none) KX hns hb hbb hlim hg ha hr F hbind (fun b u z => nomatch z) (fun b u z => nomatch z) (fun z => (z rfl).elim) (hsp _ (.inr ⟨_, vs.toArray, _, hk, rfl, rfl, rfl, by rw [List.size_toArray, len]; exact hl, by simpa using rv⟩))
  | none =>
    generalize ho : ({ cls := .type "list", data := .seq vs.toArray } : Obj) = ob at ha
    generalize hH : (fun b => if b = a then some (HO.frz ob (.lst (ns.map V.int))) else none : Hp) = H
    have at_a : H a = some (.frz ob (.lst (ns.map V.int))) := by rw [← hH]; exact if_pos rfl
    have only : ∀ b u, H b = some u → b = a ∧ u = .frz ob (.lst (ns.map V.int)) := fun b u e => by
      rw [← hH] at e
      by_cases z : b = a
      · have e : (if b = a then some (HO.frz ob (.lst (ns.map V.int))) else none) = some u := e
        rw [if_pos z] at e
        exact ⟨z, (Option.some.inj e).symm⟩
      · have e : (if b = a then some (HO.frz ob (.lst (ns.map V.int))) else none) = some u := e
        rw [if_neg z] at e
        cases e
    refine lone_call (H := H) KX hns hb hbb hlim hg (by rw [ha, ho]) hr F hbind (fun b u e => ⟨(only b u e).1, ob, _, (only b u e).2⟩) (fun b u e => ?_) (fun _ => hk) (hsp H (.inl (.inr ⟨ob, at_a⟩)))
    obtain ⟨z, eu⟩ := only b u e
    rw [z, eu]
    exact ⟨ha, by rw [List.length_map]; exact hl, vs, 0, rv, by rw [ha, ← ho]⟩
end
theorem walk_ofG {l : PySem.W.OpenLaw} {n k : Nat} {q : Program} {loose : List Str} {XP : (Str → Option Value) → Heap → Prop} {YP : World → Heap → Prop} {d : DefRec} {K : Params → PySem.W.Frag} {sp : World → Sp} {x : Str}
    (hn : l.most = some n) (hn2 : n ≤ sizeLine) (hdf : d.params.defaults = []) (hr : Room k callerA) (hY : ∀ (w : World) (h : Heap), YP w h → (K w.params).In h)
    (F : ∀ (w : World) (mg : Str → Option Value) (fa : Addr) (h : Heap), (K w.params).In h → h.Ns mainGlobals mg → mg d.name = some (.ref fa) →
      ∃ fd : FuncData, (∀ (s : Shared) (u : Value), BindsTo s fd ⟨[u], []⟩ [(x, u)]) ∧ ∀ base : Heap, (K w.params).In base → base.Ns mainGlobals mg → FnG l.prog w (K w.params) mg base CX0 k fa fd [x] (sp w))
    (hsp : ∀ (w : World) (H : Hp) (a : Addr) (ns : List Int), ns.length ≤ n → SqL (K w.params) H a (ns.map V.int) → sp w [.ref a] H (fun v _ => v = .bl true) E0) :
    PySem.W.WalkO q loose XP YP l.row.toRowW d [] (fun f vs => PySem.call f vs) := by
  refine Att.attach_call hn hdf fun w s₀ s₁ mg mb fa o pm cd doc a vs ns G Y ho hd hcd hmg hobj hints hlen hg => ?_
  obtain ⟨fd, hb, hF⟩ := F w mg fa _ (hY w _ Y) G.T.g hmg
  exact law_callG (hY w _ Y) G.T.g G.T.b G.T.builtins G.T.nolimit hg hobj hints (Nat.le_trans hlen hn2) hr hF hb fun H hS => hsp w H a ns hlen hS
end Vc

/-! Xrp: how long the repr of data is (my own). -/
namespace Vc
open PySem PySem.Spec PyProof.Rows L2
/-- a text of at most n plain signs -/
structure SOk (z : Str) (n : Nat) : Prop where
  len : z.length ≤ n
  sg : ∀ c ∈ z.cps.toList, c < 16 ^ 8
theorem SOk.mono {z : Str} {n m : Nat} (h : SOk z n) (l : n ≤ m) : SOk z m := ⟨Nat.le_trans h.len l, h.sg⟩
theorem sapp_len (a b : Str) : (a ++ b).length = a.length + b.length := strLen_append a b
theorem SOk.app {a b : Str} {n m : Nat} (h : SOk a n) (k : SOk b m) : SOk (a ++ b) (n + m) := by
  refine ⟨by rw [sapp_len]; exact Nat.add_le_add h.len k.len, fun c hc => ?_⟩
  have hc : c ∈ (a.cps ++ b.cps).toList := hc
  rw [Array.toList_append] at hc
  rcases List.mem_append.mp hc with hc | hc
  · exact h.sg c hc
  · exact k.sg c hc
theorem int_sg (i : Int) : ∀ c ∈ (Str.ofString (toString i)).cps.toList, c < 16 ^ 8 := fun c hc => by
  by_cases h : c < 16 ^ 8
  · exact h
  · have n := PyProof.Rows.shown_int_free' (k := c) ⟨by omega, by omega⟩ i
    rw [PyData.shown_int] at n
    exact absurd hc n
theorem int_sok {i : Int} {k : Nat} (hk : 0 < k) (h : i.natAbs < 10 ^ k) : SOk (Str.ofString (toString i)) (k + 1) := by
  refine ⟨?_, int_sg i⟩
  rw [PySem.ofString_length]
  exact int_text_length_le10 hk h
/-- data whose repr has at most w signs -/
structure Fw (d : PyData) (w k : Nat) : Prop where
  sh : d.showable = true
  nd : d.hasDict = false
  dp : d.depth ≤ k
  sz : d.shown.length ≤ w
theorem Fw.mono {d : PyData} {w k w' k' : Nat} (h : Fw d w k) (l : w ≤ w') (m : k ≤ k') : Fw d w' k' := ⟨h.sh, h.nd, Nat.le_trans h.dp m, Nat.le_trans h.sz l⟩
theorem Fw.fits {d : PyData} {w k : Nat} (h : Fw d w k) (l : w ≤ 1000000 := by decide) (m : k ≤ 60 := by decide) : Fits d := ⟨h.sh, h.nd, Nat.le_trans h.dp m, Nat.le_trans h.sz (by rw [sizeLine_eq]; omega)⟩
theorem fw_non {w k : Nat} (l : 4 ≤ w := by decide) : Fw .none w k := ⟨rfl, rfl, Nat.zero_le _, by rw [PyData.shown_none]; exact Nat.le_trans (by decide) l⟩
theorem fw_bl {w k : Nat} (b : Bool) (l : 5 ≤ w := by decide) : Fw (.bool b) w k := ⟨rfl, rfl, Nat.zero_le _, by rw [PyData.shown_bool]; exact Nat.le_trans (by cases b <;> decide) l⟩
theorem log10 {n k : Nat} (h : n < 10 ^ k) (l : k ≤ 480) : n.log2 < 1920 := by
  have : n < 2 ^ 1920 := Nat.lt_of_lt_of_le h (Nat.le_trans (Nat.pow_le_pow_right (by decide) l) (by decide +kernel))
  by_cases z : n = 0
  · rw [z]; decide
  · exact (Nat.log2_lt z).mpr this
theorem fw_int {i : Int} {w k : Nat} (j : Nat) (h : i.natAbs < 10 ^ j) (j0 : 0 < j := by decide) (j1 : j ≤ 480 := by decide) (l : j + 1 ≤ w := by decide) : Fw (.int i) w k :=
  ⟨by simp only [PyData.showable]; exact decide_eq_true (log10 h j1), rfl, Nat.zero_le _, by rw [PyData.shown_int]; exact Nat.le_trans (int_sok j0 h).len l⟩
theorem fw_str {z : Str} {n w k : Nat} (h : SOk z n) (l : 10 * n + 2 ≤ w := by decide) : Fw (.str z) w k :=
  ⟨rfl, rfl, Nat.zero_le _, by rw [PyData.shown_str]; have := PySem.StrLaws.reprText_len z h.sg; have := h.len; omega⟩
theorem fw_all {w k : Nat} : ∀ {ds : List PyData}, (∀ x ∈ ds, Fw x w k) → PyData.showableAll ds = true ∧ PyData.hasDictAll ds = false ∧ PyData.depthAll ds ≤ k ∧ piled (PyData.shownAll ds) ≤ ds.length * (w + 2)
  | [], _ => ⟨rfl, rfl, Nat.zero_le _, by show piled [] ≤ _; rw [piled_nil]; exact Nat.zero_le _⟩
  | d :: r, h => by
    obtain ⟨a, b, c, e⟩ := fw_all (fun x hx => h x (List.mem_cons_of_mem _ hx))
    have hd := h d List.mem_cons_self
    refine ⟨by simp only [PyData.showableAll, hd.sh, a, Bool.and_self], by simp only [PyData.hasDictAll, hd.nd, b, Bool.or_self], by simp only [PyData.depthAll]; exact Nat.max_le.mpr ⟨hd.dp, c⟩, ?_⟩
    show piled (d.shown :: PyData.shownAll r) ≤ (r.length + 1) * (w + 2)
    rw [piled_cons, Nat.add_mul]
    have := hd.sz
    omega
theorem listText_le (ts : List Str) : (listText ts).length ≤ piled ts + 4 := by
  cases ts with
  | nil => decide
  | cons t r =>
    show ((textFrom 1 ("[" ++ "" ++ t) r) ++ "]" : Str).length ≤ _
    rw [sapp_len, textFrom_length_pos r 1 _ (by decide), piled_cons, sapp_len, sapp_len]
    show 1 + 0 + t.length + piled r + 1 ≤ _
    omega
theorem tupleText_le (ts : List Str) : (tupleText ts).length ≤ piled ts + 4 := by
  unfold tupleText
  rw [sapp_len, sapp_len]
  have l1 : (Str.ofString (if (ts.length == 1) = true then ",)" else ")")).length ≤ 2 := by split <;> decide
  have l2 : (Str.ofString "(").length = 1 := rfl
  cases ts with
  | nil => decide
  | cons t r =>
    have := join_length_add (t :: r) (by simp)
    omega
theorem fw_lst {ds : List PyData} {w k W : Nat} (h : ∀ x ∈ ds, Fw x w k) (l : ds.length * (w + 2) + 4 ≤ W) : Fw (.list ds) W (k + 1) := by
  obtain ⟨a, b, c, e⟩ := fw_all h
  exact ⟨by simp only [PyData.showable]; exact a, by simp only [PyData.hasDict]; exact b, by simp only [PyData.depth]; omega, by simp only [PyData.shown]; have := listText_le (PyData.shownAll ds); omega⟩
theorem fw_tup {ds : List PyData} {w k W : Nat} (h : ∀ x ∈ ds, Fw x w k) (l : ds.length * (w + 2) + 4 ≤ W) : Fw (.tuple ds) W (k + 1) := by
  obtain ⟨a, b, c, e⟩ := fw_all h
  exact ⟨by simp only [PyData.showable]; exact a, by simp only [PyData.hasDict]; exact b, by simp only [PyData.depth]; omega, by simp only [PyData.shown]; have := tupleText_le (PyData.shownAll ds); omega⟩
theorem fw_nil {w k : Nat} : ∀ x ∈ ([] : List PyData), Fw x w k := fun _ h => nomatch h
theorem fw_cons {w k : Nat} {d : PyData} {r : List PyData} (h : Fw d w k) (t : ∀ x ∈ r, Fw x w k) : ∀ x ∈ d :: r, Fw x w k := fun x hx => by
  rcases List.mem_cons.mp hx with rfl | hx
  · exact h
  · exact t x hx
end Vc

/-! Xla: lambdas handed to a def that calls them where errors are caught (the way of HandS.Lambda; what may be raised is told at the caller's slots), edges that let the tables of code objects grow, the end of a law whose defs make lambdas (my own). -/
namespace Vc
open PySem PySem.Spec PyProof.Rows L2
/-! ### edges that let tables grow -/
structure EdX (S : List Addr) (H H' : Hp) : Prop where
  keep : ∀ a o, a ∉ S → (∀ ps, o ≠ .tbl ps) → H a = some o → H' a = some o
  tup : ∀ a xs, H a = some (.tup xs) → H' a = some (.tup xs)
  frz : ∀ a o u, H a = some (.frz o u) → H' a = some (.frz o u)
/-- nothing is known there, or a table -/
def Nw (H : Hp) (a : Addr) : Prop := H a = none ∨ ∃ ps, H a = some (.tbl ps)
section
variable {S T : List Addr} {H H1 H2 : Hp} {a p : Addr} {o : HO}
theorem Nw.none (h : H a = none) : Nw H a := .inl h
theorem Nw.ne (h : Nw H p) (e : H a = some o) (n : ∀ ps, o ≠ .tbl ps := by intro _ z; cases z) : a ≠ p := fun z => by
  rw [z] at e
  rcases h with h | ⟨ps, h⟩
  · rw [h] at e; cases e
  · rw [h] at e; exact n ps (Option.some.inj e).symm
theorem EdX.of (e : Ed S H H1) : EdX S H H1 := ⟨fun a o n _ h => e.keep a o n h, e.tup, e.frz⟩
theorem EdX.refl : EdX S H H := ⟨fun _ _ _ _ h => h, fun _ _ h => h, fun _ _ _ h => h⟩
theorem EdX.lam (e : LamX.ExtN H H1) : EdX [] H H1 := ⟨fun a o _ n h => e a o h n, fun a xs h => e a _ h (fun _ z => nomatch z), fun a o u h => e a _ h (fun _ z => nomatch z)⟩
theorem EdX.new (e : EdX S H H1) (h : Nw H1 p) : p ∈ S ∨ Nw H p := by
  cases q : H p with
  | none => exact .inr (.inl q)
  | some o =>
    by_cases t : ∃ ps, o = .tbl ps
    · obtain ⟨ps, rfl⟩ := t
      exact .inr (.inr ⟨ps, q⟩)
    · by_cases m : p ∈ S
      · exact .inl m
      · exact (h.ne (e.keep p o m (fun ps z => t ⟨ps, z⟩) q) (fun ps z => t ⟨ps, z⟩) rfl).elim
theorem EdX.new0 (e : EdX [] H H1) (h : Nw H1 p) : Nw H p := (e.new h).elim (fun z => nomatch z) id
theorem EdX.trans (x : EdX S H H1) (y : EdX T H1 H2) (hs : ∀ x ∈ T, x ∈ S ∨ Nw H x) : EdX S H H2 :=
  ⟨fun b u n t h => y.keep b u (fun z => (hs b z).elim n fun w => w.ne h t rfl) t (x.keep b u n t h), fun b xs h => y.tup b xs (x.tup b xs h), fun b v u h => y.frz b v u (x.frz b v u h)⟩
theorem EdX.ex (x : EdX S H H1) (y : EdX [] H1 H2) : EdX S H H2 := x.trans y fun _ z => nomatch z
theorem EdX.one (x : EdX S H H1) (y : EdX [p] H1 H2) (h : p ∈ S ∨ Nw H p) : EdX S H H2 := x.trans y fun b z => by rw [List.mem_singleton.mp z]; exact h
theorem EdX.mono (x : EdX S H H1) (hs : ∀ b ∈ S, b ∈ T) : EdX T H H1 := ⟨fun b u n => x.keep b u fun z => n (hs b z), x.tup, x.frz⟩
theorem EdX.at0 (e : EdX [] H H1) (h : H a = some o) (n : ∀ ps, o ≠ .tbl ps := by intro _ z; cases z) : H1 a = some o := e.keep a o (fun z => nomatch z) n h
theorem EdX.at1 (e : EdX [p] H H1) (m : a ≠ p) (h : H a = some o) (n : ∀ ps, o ≠ .tbl ps := by intro _ z; cases z) : H1 a = some o := e.keep a o (fun z => m (List.mem_singleton.mp z)) n h
theorem EdX.rdt {xs : List V} (e : EdX S H H1) (h : Rd H a (.tup xs)) : Rd H1 a (.tup xs) := h.elim (fun h => .inl (e.tup _ _ h)) fun ⟨o, h⟩ => .inr ⟨o, e.frz _ _ _ h⟩
theorem EdX.sqt {K : PySem.W.Frag} {xs : List V} (e : EdX S H H1) (h : SqT K H a xs) : SqT K H1 a xs := h.elim (fun h => .inl (e.rdt h)) .inr
theorem EdX.sql {K : PySem.W.Frag} {xs : List V} (e : EdX S H H1) (n : a ∉ S) (h : SqL K H a xs) : SqL K H1 a xs := by
  rcases h with (h | ⟨o, h⟩) | h
  · exact .inl (.inl (e.keep _ _ n (fun _ z => nomatch z) h))
  · exact .inl (.inr ⟨o, e.frz _ _ _ h⟩)
  · exact .inr h
end
mutual
theorem Dp.edx {K : PySem.W.Frag} {S : List Addr} {H H' : Hp} (e : EdX S H H') (hS : ∀ a ∈ S, ∀ xs, H a ≠ some (.lst xs)) : ∀ (d : PyData) (v : V), Dp K H v d → Dp K H' v d
  | .none, _, h => by cases h; exact .non
  | .bool b, _, h => by cases h; exact .bl b
  | .int i, _, h => by cases h; exact .int i
  | .str x, _, h => by cases h; exact .str x
  | .list ds, _, h => by
    cases h with
    | lst ha hd =>
      refine .lst ?_ (Dp.edxAll e hS ds _ hd)
      rcases ha with (q | ⟨ob, q⟩) | q
      · exact .inl (.inl (e.keep _ _ (fun z => hS _ z _ q) (fun _ z => nomatch z) q))
      · exact .inl (.inr ⟨ob, e.frz _ _ _ q⟩)
      · exact .inr q
  | .tuple ds, _, h => by
    cases h with
    | tup ha hd => exact .tup (e.sqt ha) (Dp.edxAll e hS ds _ hd)
theorem Dp.edxAll {K : PySem.W.Frag} {S : List Addr} {H H' : Hp} (e : EdX S H H') (hS : ∀ a ∈ S, ∀ xs, H a ≠ some (.lst xs)) : ∀ (ds : List PyData) (vs : List V), DpAll K H vs ds → DpAll K H' vs ds
  | [], _, h => by cases h; exact .nil
  | d :: ds, _, h => by
    cases h with
    | cons h1 h2 => exact .cons (Dp.edx e hS d _ h1) (Dp.edxAll e hS ds _ h2)
end
theorem Dp.edx0 {K : PySem.W.Frag} {H H' : Hp} {d : PyData} {v : V} (e : EdX [] H H') (h : Dp K H v d) : Dp K H' v d := Dp.edx e (fun _ z => nomatch z) d v h
/-- the tables stand where neither they nor code objects are changed -/
theorem tabs_ed {T : List (Addr × Str)} {S : List Addr} {H H' : Hp} (t : LamX.Tabs T H) (e : Ed S H H') (hS : ∀ b ∈ S, Nw H b ∧ (∀ ps, H b ≠ some (.tbl ps)) ∨ ∃ o, H b = some o ∧ (∀ ps, o ≠ .tbl ps) ∧ ∀ c q, o ≠ LamX.CodeO c q) : LamX.Tabs T H' := fun p hp => by
  obtain ⟨ps, h1, h2, h3⟩ := t p hp
  have keep : ∀ {b : Addr} {o : HO}, H b = some o → ((∃ qs, o = .tbl qs) ∨ ∃ c q, o = LamX.CodeO c q) → H' b = some o := fun {b o} h k => by
    refine e.keep b o (fun z => ?_) h
    rcases hS b z with ⟨w, n⟩ | ⟨u, q, n1, n2⟩
    · rcases w with w | ⟨qs, w⟩
      · rw [w] at h; cases h
      · exact n qs w
    · rw [h] at q
      obtain rfl := Option.some.inj q
      rcases k with ⟨qs, k⟩ | ⟨c, r, k⟩
      · exact n1 qs k
      · exact n2 c r k
  refine ⟨ps, keep h1 (.inl ⟨ps, rfl⟩), h2, fun pos cv hc => ?_⟩
  obtain ⟨c, e1, e2⟩ := h3 pos cv hc
  exact ⟨c, e1, keep e2 (.inr ⟨c, _, rfl⟩)⟩
theorem tabs_ed0 {T : List (Addr × Str)} {H H' : Hp} (t : LamX.Tabs T H) (e : Ed [] H H') : LamX.Tabs T H' := tabs_ed t e fun _ z => nomatch z
theorem code_kind {c : Addr} {q : Str} : LamX.CodeO c q = HO.ext fun h => ∃ (oc : Obj) (vs : Array Value) (t : Tok), h.get? c = some oc ∧ oc.data = .fields vs ∧ vs[1]? = some (.str q t) := rfl
theorem tabs_lst {T : List (Addr × Str)} {H H' : Hp} {b : Addr} {xs : List V} (t : LamX.Tabs T H) (e : Ed [b] H H') (hb : H b = some (.lst xs)) : LamX.Tabs T H' := tabs_ed t e fun a z => by
  rw [List.mem_singleton.mp z]
  exact .inr ⟨_, hb, (fun _ z => nomatch z), (fun c q z => by rw [code_kind] at z; cases z)⟩
/-! ### a lambda that is called in a try -/
section
variable {X : Cx} {pins : List (Addr × Obj)} {σ : L2.St} {H : Hp} {s : Shared}
/-- the context of the def at g that got the lambda -/
abbrev gcx (X : Cx) (Ng : List Str) (x : Str) (sg : Scope) (g : Addr) (cdg : Value) (s : Shared) (H : Hp) : Cx := cxOf C8.CX0 X.prog X.w X.K X.mg X.base Ng x sg g cdg X.A X.stack s H C8.E0
theorem pe_actS {Ng : List Str} {qg : Str} {sg : Scope} {g f c' : Addr} {cdg pm ctv : Value} {params : Arguments} {body : Expr} {scope : Scope} {k i : Nat} {a : Str} {pn : List (Addr × Obj)} {xe : Value → Shared → Prop} {W : WX} {t : XK → TE} {p1 p2 : Pos}
    (I : Inv X pins σ H s) (L : LamX.LamS X.env.scope scope)
    (hf : s.heap.get? f = some (PySem.W.kla_obj "<lambda>" (X.env.qual ++ "<lambda>") params body scope (cloFrom X.env.cells scope.names []) pm c' ctv)) (hfn : H f = none) (hfr : f ∉ frs X.stack)
    (bi : bindArgs (PySem.W.kla_fn "<lambda>" (X.env.qual ++ "<lambda>") params body scope (cloFrom X.env.cells scope.names []) pm (.ref c') ctv) ⟨[], []⟩ = pure [])
    (tk : Takes ((gcx X Ng qg sg g cdg s H).tr pn xe) W) (hr : Room (k + 1) (X.A.deeper (envOfC qg sg s.heap.objs.size g cdg)))
    (hbody : ∀ (A : Around) (outer : List Env) (s : Shared) (H : Hp) (E : XK), Room k (A.deeper (LamX.lamEnv X scope s.heap.objs.size f c')) → PE (LamX.lamCx X A outer s H E scope f c') body (t E))
    (hN : Ng[i]? = some a) (hv : Vis sg a) (hd : (a == ("__debug__" : Str)) = false := by decide) (hcd : (a == ("__classdict__" : Str)) = false := by decide) :
    PE ((gcx X Ng qg sg g cdg s H).tr pn xe) (.Call (.Name a p1) [] [] p2) (fun σZ HZ Q => σZ[i]? = some (some (.ref f)) ∧ HZ c' = some (LamX.CodeO c' (X.env.qual ++ "<lambda>")) ∧ t (WE W σZ) σ HZ Q) := by
  refine ⟨fun pz sz σz Hz Q Iz h => ?_⟩
  obtain ⟨hs, hc, ht⟩ := h
  refine wpAny_Call_Name_kw (thn ((pe_var (pos := p1) (i := i) hN hv hd hcd).run pz sz σz Hz (fun v H1 => v = .ref f ∧ H1 = Hz) Iz ⟨.ref f, hs, rfl, rfl⟩) fun u s1 ⟨v, H1, I1, r1, ev, eH⟩ => ?_)
  subst ev
  rw [eH] at I1
  obtain rfl : u = Value.ref f := r1
  have of1 := I1.base.keep f _ hf hfn hfr (fun z => nomatch (show f ∈ ([] : List Addr) from z))
  refine PySem.W.callWith_F0 ⟨_, _, _, _, of1⟩ ?_
  have un : Un (frs X.stack) [] H Hz s.heap s1.heap := I1.base
  obtain ⟨⟨oc, vs, tt, hoc, hdc, hvc⟩, _, _⟩ := I1.hok c' _ hc
  have rc : codeAny (model X.prog X.w) (X.A.deeper (envOfC qg sg s.heap.objs.size g cdg)) (.call (.ref f) ⟨[], []⟩) (CR (L2.CX X.prog X.w) (envOfC qg sg s.heap.objs.size g cdg :: X.stack) X.prog X.w Hz s1 Q (WE W σz)) s1 := by
    refine PySem.W.kla_callFunE hr.depth of1 rfl L.co L.gen rfl ⟨c', oc, vs, tt, rfl, hoc, hdc, hvc⟩ ?_
    rw [bi]
    refine wpAny_pure (wpAny_newFunctionEnv (fun y hy => (L.own y hy).2) (fun y hy => absurd hy (by simp)) (fun h₁ hns hsb => ⟨I1.nolimit.fresh _ hsb, ?_⟩) L.kind)
    have kp : ∀ b o, s1.heap.get? b = some o → h₁.get? b = some o := fun b o e => hsb.extBut b o (Nat.ne_of_lt (Heap.lt_size e)) (Heap.get?_push_of_some _ e)
    have J := LamX.lam_start2 (A := X.A.deeper (envOfC qg sg s.heap.objs.size g cdg)) (outer := envOfC qg sg s.heap.objs.size g cdg :: X.stack) (E := WE W σz) (f := f) (c' := c') (tk := s1.toks + ([] : List (Str × Value)).length) I L I1.env0 hr.hd un hns kp
    refine PySem.W.kla_codeExpr (wpAny_mono ((hbody _ _ s1 Hz _ (hr.deeper _)).run [] _ _ Hz Q J ht) (fun v s' ⟨w', H', J', rv, q⟩ => ?_) fun e s' hq => hq)
    exact ⟨w', H', J'.os, J'.bare, J'.base, J'.hok, rv, q⟩
  refine wpAny_call (codeAny_mono rc fun r s' hq => ?_)
  rcases r with e | fl
  · exact passAt tk σz pz Hz s1 e s' I1 hq
  · cases fl with
    | ret u => exact I1.after hq
    | next => exact False.elim hq
    | brk => exact False.elim hq
    | cont => exact False.elim hq
end
/-- the def that calls what it got, where errors are caught; TT: what it makes of the lambda's reading -/
def GivesS (j : Nat) (X : Cx) (Ng : List Str) (x : Str) (sg : Scope) (g : Addr) (cdg : Value) (bg : List Stmt) (a : Str) (q : Str) (TT : (XK → Hp → VK → Prop) → Hp → VK → Prop) : Prop :=
  ∀ (f c' : Addr) (s : Shared) (H : Hp) (Q : VK) (tl : XK → Hp → VK → Prop), Room j (X.A.deeper (envOfC x sg s.heap.objs.size g cdg)) →
    (∀ (W : WX) (pn : List (Addr × Obj)) (xe : Value → Shared → Prop) (p1 p2 : Pos), Takes ((gcx X Ng x sg g cdg s H).tr pn xe) W →
      PE ((gcx X Ng x sg g cdg s H).tr pn xe) (.Call (.Name a p1) [] [] p2) (fun σZ HZ Q => σZ[0]? = some (some (.ref f)) ∧ HZ c' = some (LamX.CodeO c' q) ∧ tl (WE W σZ) HZ Q)) →
    H c' = some (LamX.CodeO c' q) → TT tl H Q → ∃ t, PSs (gcx X Ng x sg g cdg s H).nox bg t ∧ t { nx := fun _ H' => Q .non H', rt := Q } (L2.start Ng [.ref f]) H
section
variable {X : Cx}
/-- x(lambda: body) -/
theorem pe_lamS {T : List (Addr × Str)} {TT : (XK → Hp → VK → Prop) → Hp → VK → Prop} {x a : Str} {g c P : Addr} {k j : Nat} {st : Stmt} {fd : FuncData} {Ng : List Str} {params : Arguments} {body : Expr} {scope : Scope} {t : XK → TE} {p lpos pos : Pos}
    (F : Fun X.K x x st g fd) (hg : Gl X x) (hm : X.mg x = some (.ref g)) (hb : Binds X.K fd [a] []) (Sg : FnScope Ng [a] (defScope st)) (hNg : Ng[0]? = some a) (hva : Vis (defScope st) a)
    (hG : ∀ cdg, GivesS j X Ng x (defScope st) g cdg (defBody st) a (X.env.qual ++ "<lambda>") TT)
    (TB : LamX.TabB X.base X.mg c P) (hcode : X.env.code = .ref c) (hmT : (P, X.env.qual ++ "<lambda>") ∈ T) (hu : ∀ p ∈ T, p.1 = P → p.2 = X.env.qual ++ "<lambda>") (hr : Room (j + 1) X.A) (hk : k + 1 ≤ j) (L : LamX.LamS X.env.scope scope) (hdef : defaultsOf params X.env = ([], []))
    (bi : ∀ (q : Str) (cl : List (Str × Addr)) (pm cv ctv : Value), bindArgs (PySem.W.kla_fn "<lambda>" q params body scope cl pm cv ctv) ⟨[], []⟩ = pure [])
    (hbody : ∀ (A : Around) (outer : List Env) (s : Shared) (H : Hp) (E : XK) (f c' : Addr), Room k (A.deeper (LamX.lamEnv X scope s.heap.objs.size f c')) → PE (LamX.lamCx X A outer s H E scope f c') body (t E))
    (hdb : (x == ("__debug__" : Str)) = false := by decide) (hd : (a == ("__debug__" : Str)) = false := by decide) (hcd : (a == ("__classdict__" : Str)) = false := by decide) :
    PE X (.Call (.Name x p) [.Lambda params body scope lpos] [] pos) (LamX.tLam T TT t) := by
  refine ⟨fun pins s σ H Q I h => ?_⟩
  obtain ⟨hT, h⟩ := h
  obtain ⟨oc, od, kV, doc, pm0, an, cdv, ct, osl, rfl, lk, hcg⟩ := F.ex
  refine wpAny_Call_Name_kw (ld_glob I hg hm ?_ hdb)
  refine PySem.W.callWith_K (h₀ := X.base) I.ok.mod.kin F.kp ?_ (by rfl) (by rfl)
  show wpAny _ _ (spliced ((false, eval (.Lambda params body scope lpos) X.env) :: backTo pos (starEach [] X.env))) _ _ s
  refine Calls.spliced_cons (LamX.lam_make2 I TB hcode hmT hu hT hdef (L.has I.ok) fun f c' pm' ctv H1 s' I1 eN T1 hf hfn hfr hco => ?_)
  refine Calls.spliced_nil ⟨I1.kIn, ?_⟩
  have rc : codeAny (model X.prog X.w) X.A (.call (.ref g) ⟨[.ref f], []⟩) (CR C8.CX0 X.stack X.prog X.w H1 s' Q C8.E0) s' := by
    refine LamX.run_ofS (N := Ng) (ps := [a]) (us := [.ref f]) (vs := [.ref f]) lk hcg Sg hr I1.env0 (hb s' [.ref f] I1.kIn rfl) (.cons rfl .nil) rfl fun hr' => ?_
    obtain ⟨t', ht', hq'⟩ := hG cdv f c' s' H1 Q (fun E H' Q' => t E σ H' Q') hr' (fun W pn xe p1 p2 tk => pe_actS (k := k) (i := 0) I1 L hf hfn hfr (bi _ _ _ _ _) tk (hr'.mono hk) (fun A outer s H E hr2 => hbody A outer s H E f c' hr2) hNg hva hd hcd) hco (h H1 eN T1)
    exact ⟨t', ht'.nox, hq'⟩
  refine wpAny_call (codeAny_mono rc fun r s2 hq => ?_)
  rcases r with e | fl
  · exact (show False from hq).elim
  · cases fl with
    | ret u => exact I1.after hq
    | next => exact False.elim hq
    | brk => exact False.elim hq
    | cont => exact False.elim hq
end
theorem go_lam {T : List (Addr × Str)} {TT : (XK → Hp → VK → Prop) → Hp → VK → Prop} {t : XK → TE} {σ : L2.St} {H : Hp} {Q : VK} (h : LamX.Tabs T H) (k : ∀ H1, EdX [] H H1 → LamX.Tabs T H1 → TT (fun E H' Q' => t E σ H' Q') H1 Q) : LamX.tLam T TT t σ H Q :=
  ⟨h, fun H1 e t => k H1 (EdX.lam e) t⟩
theorem vals_refs : ∀ {as : List Addr} {us : List Value}, Vals (as.map V.ref) us → us = as.map Value.ref
  | [], _, h => by cases h; rfl
  | a :: r, _, h => by
    cases h with
    | cons h t =>
      have h : _ = Value.ref a := h
      rw [h, vals_refs t]; rfl
theorem kit_none {K : PySem.W.Frag} {D : Addr} : ∀ {as : List Addr}, (∀ c ∈ as, PySem.W.kitOne K (.ref D) (.ref c) = some false) → PySem.W.kitAny K (.ref D) (as.map Value.ref) = some false
  | [], _ => rfl
  | a :: r, h => by
    show PySem.W.kitAny K (.ref D) (Value.ref a :: r.map Value.ref) = some false
    unfold PySem.W.kitAny
    rw [h a List.mem_cons_self]
    exact kit_none fun c hc => h c (List.mem_cons_of_mem _ hc)
/-- isinstance(e, (C1, C2, ..)): of none of them -/
theorem go_isNo {K : PySem.W.Frag} {a D p : Addr} {fs : List (Str × V)} {as : List Addr} {H : Hp} {Q : VK} (hE : ErrAt H a D fs) (C : ExcC K D) (hp : H p = some (.tup (as.map V.ref))) (hk : ∀ c ∈ as, PySem.W.kitOne K (.ref D) (.ref c) = some false) (q : Q (.bl false) H) : rIsTT K [.ref a, .ref p] H Q :=
  ⟨a, D, p, fs, _, _, false, hE, C, rfl, hp, fun _ r => vals_refs r, kit_none hk, q⟩
/-- e.f, the written part named (in a suite that may raise the reading may not name the suite's own place) -/
theorem pe_fldK {X : Cx} {K : PySem.W.Frag} (h : X.K = K) {e : Expr} {f : Str} {pos : Pos} {ta : TE} (he : PE X e ta) (hb : attributeBase e f X.env (eval e X.env) = eval e X.env) : PE X (.Attribute e f pos) (tFld K ta f) := h ▸ pe_fld he hb
theorem go_DGet2 {td ty tx : TE} {σ : L2.St} {H : Hp} {Q : VK} (h : td σ H fun x H1 => ∃ a, x = .ref a ∧ IsD H1 a ∧ ty σ H1 fun y H2 => tx σ H2 fun z H3 => ∃ o, DGet H3 a y o ∧ Q (o.getD z) H3) : tDGet2 td ty tx σ H Q := h
/-- d.get(k, x) -/
theorem go_dget2 {d : Addr} {kvs : List (Key × V)} {k : Key} {z : V} {H : Hp} {Q : VK} (h : H d = some (.dK kvs)) (q : Q ((valV kvs k).getD z) H) : ∃ o, DGet H d (kV k) o ∧ Q (o.getD z) H := ⟨_, .k h, q⟩
/-! ### a def that makes lambdas -/
/-- the code object of the def at f is at c -/
def CodeOf (K : PySem.W.Frag) (f c : Addr) : Prop := ∀ (o : Obj) (fd : FuncData), K.lookup f = some o → o.data = .func fd → fd.code = .ref c
/-- the def at f makes lambdas of the name q, told in a table of T -/
structure LamAt (K : PySem.W.Frag) (mg : Str → Option Value) (base : Heap) (T : List (Addr × Str)) (f : Addr) (q : Str) (c P : Addr) : Prop where
  co : CodeOf K f c
  tb : LamX.TabB base mg c P
  me : (P, q) ∈ T
  un : ∀ p ∈ T, p.1 = P → p.2 = q
section
variable {P : Program} {w : World} {K : PySem.W.Frag} {mg : Str → Option Value} {base : Heap} {x qual : Str} {st : Stmt} {f c : Addr} {fd : FuncData} {N ps : List Str} {k : Nat} {sp : Sp}
theorem Fun.okGL (F : Fun K x qual st f fd) (hc : CodeOf K f c) (S : FnScope N ps (defScope st)) (len : ∀ vs H Q E, sp vs H Q E → vs.length = ps.length)
    (hbody : ∀ (A : Around) (outer : List Env) (s : Shared) (H : Hp) (vs : List V) (Q : VK) (E : XK), (A.deeper (envOfC qual (defScope st) s.heap.objs.size f (.ref c))).guards = some [] → Room k (A.deeper (envOfC qual (defScope st) s.heap.objs.size f (.ref c))) → sp vs H Q E →
      ∃ t, PSs (cxOf CX0 P w K mg base N qual (defScope st) f (.ref c) A outer s H E).nox (defBody st) t ∧ t { nx := fun _ H' => Q .non H', rt := Q } (L2.start N vs) H) : FnG P w K mg base CX0 (k + 1) f fd ps sp := by
  obtain ⟨oc, od, kV, doc, pm, an, cdv, ct, osl, rfl, lk, hcd⟩ := F.ex
  obtain rfl : cdv = .ref c := hc _ _ lk rfl
  refine ⟨len, fun A outer s H args us vs Q E hg hr e0 hb r hsp => ?_⟩
  refine LamX.run_ofS lk hcd S hr e0 hb r (len _ _ _ _ hsp) fun hr' => ?_
  obtain ⟨t, h, q⟩ := hbody A outer s H vs Q E hg hr' hsp
  exact ⟨t, h.nox, q⟩
theorem Fun.okL (F : Fun K x qual st f fd) (hc : CodeOf K f c) (S : FnScope N ps (defScope st)) (len : ∀ vs H Q E, sp vs H Q E → vs.length = ps.length)
    (hbody : ∀ (A : Around) (outer : List Env) (s : Shared) (H : Hp) (vs : List V) (Q : VK) (E : XK), Room k (A.deeper (envOfC qual (defScope st) s.heap.objs.size f (.ref c))) → sp vs H Q E →
      ∃ t, PSs (cxOf CX0 P w K mg base N qual (defScope st) f (.ref c) A outer s H E).nox (defBody st) t ∧ t { nx := fun _ H' => Q .non H', rt := Q } (L2.start N vs) H) : FnOk P w K mg base CX0 (k + 1) f fd ps sp := by
  obtain ⟨oc, od, kV, doc, pm, an, cdv, ct, osl, rfl, lk, hcd⟩ := F.ex
  obtain rfl : cdv = .ref c := hc _ _ lk rfl
  refine ⟨len, fun A outer s H args us vs Q E hr e0 hb r hsp => ?_⟩
  refine LamX.run_ofS lk hcd S hr e0 hb r (len _ _ _ _ hsp) fun hr' => ?_
  obtain ⟨t, h, q⟩ := hbody A outer s H vs Q E hr' hsp
  exact ⟨t, h.nox, q⟩
end
end Vc

/-! Xte: the end of a law whose def is an FnG and whose defs make lambdas: the tables of their code objects are known from the start (my own). -/
namespace Vc
open PySem PySem.Spec PyProof.Rows L2
/-- the def at f has its code at c, whose table is at P -/
def lamB (K : PySem.W.Frag) (f c P : Addr) : Bool :=
  (match K.lookup f with | some o => (match o.data with | .func fd => (match fd.code with | .ref c' => c' == c | _ => false) | _ => false) | none => false) && (PySem.W.codeHdIn K c P && (K.lookup P).isNone)
theorem lamB_ok {K : PySem.W.Frag} {f c P : Addr} (h : lamB K f c P = true) : (∃ (o : Obj) (fd : FuncData), K.lookup f = some o ∧ o.data = .func fd ∧ fd.code = .ref c) ∧ PySem.W.codeHdIn K c P = true ∧ K.lookup P = none := by
  unfold lamB at h
  rw [Bool.and_eq_true, Bool.and_eq_true] at h
  obtain ⟨h1, h2, h3⟩ := h
  refine ⟨?_, h2, Option.isNone_iff_eq_none.mp h3⟩
  cases e : K.lookup f with
  | none => rw [e] at h1; cases h1
  | some o =>
    rw [e] at h1
    cases d : o.data with
    | func fd =>
      simp only [d] at h1
      cases q : fd.code with
      | ref c' =>
        simp only [q] at h1
        exact ⟨o, fd, rfl, d, by rw [q, beq_iff_eq.mp h1]⟩
      | _ => simp only [q] at h1; cases h1
    | _ => simp only [d] at h1; cases h1
theorem lamB_co {K : PySem.W.Frag} {f c P : Addr} (h : lamB K f c P = true) : CodeOf K f c := fun o fd l d => by
  obtain ⟨o', fd', l', d', e⟩ := (lamB_ok h).1
  rw [l] at l'
  obtain rfl := Option.some.inj l'
  rw [d] at d'
  obtain rfl := Data.func.inj d'
  exact e
/-- an empty table -/
def Tab0 (h : Heap) (P : Addr) : Prop := h.get? P = some { cls := .none, data := .fields #[] }
/-- a maker's table is empty behind the start -/
theorem tab0_of {q : Program} {loose : List Str} {mean : ExcName → Option Value} {mg mb : Str → Option Value} {h : Heap} {K : PySem.W.Frag} {n : Str} {f c P : Addr} (T : Top q loose mean mg mb h) (X : K.In h) (hr : ((recsOf q).any fun e => e.name == n) = true) (hm : mg n = some (.ref f)) (hl : lamB K f c P = true) : Tab0 h P ∧ PySem.W.CodeHd h c P ∧ K.lookup P = none := by
  obtain ⟨⟨o, fd, l, d, e⟩, hc, nP⟩ := lamB_ok hl
  have C := PySem.W.codeHd_of_K X hc
  refine ⟨?_, C, nP⟩
  obtain ⟨r, hr1, hr2⟩ := List.any_eq_true.mp hr
  obtain ⟨a, o1, fd1, c1, P1, t1, t2, t3, t4, _, ⟨u, vs, u1, _, u3, u4⟩, t6⟩ := T.tab r hr1
  rw [beq_iff_eq.mp hr2, hm] at t1
  injection t1 with t1
  injection t1 with t1
  subst t1
  rw [X _ _ l] at t2
  obtain rfl := Option.some.inj t2
  rw [d] at t3
  obtain rfl := Data.func.inj t3
  rw [e] at t4
  injection t4 with t4
  subst t4
  obtain ⟨v, ws, _, _, _, _, _, _, _, v1, _, v3, v4, _⟩ := C
  rw [u1] at v1
  obtain rfl := Option.some.inj v1
  rw [u3] at v3
  obtain rfl := Data.fields.inj v3
  rw [u4] at v4
  injection v4 with v4
  injection v4 with v4
  rw [← v4]; exact t6
section
variable {P : Program} {w : World} {K : PySem.W.Frag} {mg mb : Str → Option Value} {k : Nat} {fa a : Addr} {fd : FuncData} {x : Str} {sp : Sp} {s₁ : Shared} {vs : List Value} {ns : List Int} {cs : List (Addr × Addr)}
/-- the script's object, locked, or an empty table -/
def Few (H : Hp) (a : Addr) (cs : List (Addr × Addr)) : Prop := ∀ b u, H b = some u → (b = a ∧ ∃ o ys, u = .frz o (.lst ys)) ∨ ((∃ p ∈ cs, p.2 = b) ∧ u = .tbl #[])
theorem few_call {H : Hp} (KX : K.In s₁.heap) (hns : s₁.heap.Ns mainGlobals mg) (hb : s₁.heap.Ns builtinsNs mb) (hbb : ∀ y : Str, y ≠ "__name__" → mb y = bootBuiltins y) (hlim : s₁.heap.NoLimit) (hg : s₁.gens = #[])
    (hbm : ∃ (bm : Addr) (ob : Obj), mg "__builtins__" = some (.ref bm) ∧ bm ≠ builtinsNs ∧ s₁.heap.get? bm = some ob ∧ ob.cls = .type "module" ∧ ob.dict = some builtinsNs ∧ ob.data = .plain)
    (hT : ∀ p ∈ cs, Tab0 s₁.heap p.2) (nT : ∀ p ∈ cs, K.lookup p.2 = none) (hC : ∀ p ∈ cs, PySem.W.CodeHd s₁.heap p.1 p.2)
    (ha : s₁.heap.get? a = some { cls := .type "list", data := .seq vs.toArray }) (hr : Room k callerA) (F : ∀ base : Heap, K.In base → base.Ns mainGlobals mg → (∀ p ∈ cs, LamX.TabB base mg p.1 p.2) → FnG P w K mg base CX0 k fa fd [x] sp) (hbind : ∀ (s : Shared) (u : Value), BindsTo s fd ⟨[u], []⟩ [(x, u)])
    (L : Few H a cs) (hok : HOk P w H s₁.heap) (nk : H a ≠ none → K.lookup a = none) (hsp : sp [.ref a] H (fun v _ => v = .bl true) E0) :
    codeAny (model P w) callerA (.call (.ref fa) ⟨[.ref a], []⟩) (fun r s' => r = .ok (.ret (.bool true)) ∧ OldK s₁.heap s'.heap ∧ s'.os = s₁.os ∧ AllBare s'.gens) s₁ := by
  -- an object that is neither the script's nor a table is not tracked
  have un : ∀ {b : Addr} {o : Obj}, s₁.heap.get? b = some o → (b = a → False) → o.data ≠ .fields #[] → H b = none := fun {b o} e n1 n2 => by
    cases q : H b with
    | none => rfl
    | some u =>
      rcases L b u q with ⟨z, _⟩ | ⟨⟨p, hp, z⟩, _⟩
      · exact (n1 z).elim
      · have := hT p hp
        rw [z] at this
        rw [show s₁.heap.get? b = some _ from this] at e
        rw [← Option.some.inj e] at n2
        exact (n2 rfl).elim
  have notA : ∀ {b : Addr} {o : Obj}, s₁.heap.get? b = some o → (∀ xs n, o.data ≠ .seq xs n) → b = a → False := fun {b o} e n z => by
    rw [z, ha] at e
    rw [← Option.some.inj e] at n
    exact n _ _ rfl
  have keep : ∀ {b : Addr} {o : Obj}, s₁.heap.get? b = some o → (∀ xs n, o.data ≠ .seq xs n) → o.data ≠ .fields #[] → (hidT s₁.heap H).get? b = some o := fun e n1 n2 => hidT_get e (un e (notA e n1) n2)
  have ns_keep : ∀ {b : Addr} {m : Str → Option Value}, s₁.heap.Ns b m → (hidT s₁.heap H).Ns b m := fun {b m} h => by
    obtain ⟨o, es, ep, e, d, r⟩ := h
    exact ⟨o, es, ep, keep e (fun _ _ z => by rw [d] at z; cases z) (fun z => by rw [d] at z; cases z), d, r⟩
  have k_in : K.In (hidT s₁.heap H) := fun b o e => hidT_get (KX b o e) <| by
    cases q : H b with
    | none => rfl
    | some u =>
      rcases L b u q with ⟨z, _⟩ | ⟨⟨p, hp, z⟩, _⟩
      · have := nk (by rw [← z, q]; exact Option.some_ne_none u)
        rw [← z, e] at this
        cases this
      · have := nT p hp
        rw [z, e] at this
        cases this
  have env : Env0 P w K mg (hidT s₁.heap H) callerA [] s₁ H := by
    obtain ⟨mc, c1, c2⟩ := hlim
    exact { frames := rfl, mod := ⟨k_in, ns_keep hns, ⟨mb, ns_keep hb, hbb⟩, mc, ns_keep c1, c2⟩, bs := fun _ _ e => of_hidT e, bsz := Nat.le_of_eq (hidT_size _ _), funs := trivial, frf := fun _ z => (nomatch (show _ ∈ ([] : List Addr) from z)), hok := hok, bare := .of_eq hg }
  have TB : ∀ p ∈ cs, LamX.TabB (hidT s₁.heap H) mg p.1 p.2 := fun p hp => by
    have t0 := hT p hp
    refine ⟨?_, ?_, ?_⟩
    · obtain ⟨o, us, c1, c2, c3, c4, c5, c6, c7, e1, r1, r2, r3, r⟩ := hC p hp
      refine ⟨o, us, c1, c2, c3, c4, c5, c6, c7, keep e1 (fun _ _ z => by rw [r2] at z; cases z) (fun z => ?_), r1, r2, r3, r⟩
      rw [r2] at z
      rw [Data.fields.inj z] at r3
      cases r3
    · obtain ⟨bm, ob, b1, b2, b3, b4, b5, b6⟩ := hbm
      refine ⟨bm, ob, b1, b2, fun z => ?_, fun z => ?_, keep b3 (fun _ _ z => by rw [b6] at z; cases z) (fun z => by rw [b6] at z; cases z), b4, b5, b6⟩
      · obtain ⟨o, es, ep, e, d, _⟩ := hns
        rw [← z, b3] at e
        rw [← Option.some.inj e, b6] at d
        cases d
      · rw [z, show s₁.heap.get? p.2 = some _ from t0] at b3
        rw [← Option.some.inj b3] at b6
        cases b6
    · intro z
      obtain ⟨o, es, ep, e, d, _⟩ := hns
      rw [z, show s₁.heap.get? p.2 = some _ from t0] at e
      rw [← Option.some.inj e] at d
      cases d
  have go := (F _ k_in (ns_keep hns) TB).run callerA [] s₁ H ⟨[.ref a], []⟩ [.ref a] [.ref a] (fun v _ => v = .bl true) E0 rfl hr env (hbind s₁ (.ref a)) (.cons rfl .nil) hsp
  refine codeAny_mono go fun r s' hq => ?_
  rcases r with e | fl
  · exact False.elim hq
  cases fl with
  | next => exact False.elim hq
  | brk => exact False.elim hq
  | cont => exact False.elim hq
  | ret u =>
    obtain ⟨v, H', os, bare, u2, hok', rv, ev⟩ := hq
    have ev : v = .bl true := ev
    rw [ev] at rv
    cases rv
    have old : ∀ b o, s₁.heap.get? b = some o → asItWas s₁.heap s'.heap b o ∧ ∃ o', s'.heap.get? b = some o' := fun b o e => by
      cases q : H b with
      | none =>
        have := u2.keep b o e q (fun z => nomatch (show b ∈ ([] : List Addr) from z)) (fun z => nomatch (show b ∈ ([] : List Addr) from z))
        exact ⟨.inl this, _, this⟩
      | some v2 =>
        rcases L b v2 q with ⟨_, ob, ys, ez⟩ | ⟨⟨p, hp, ez⟩, et⟩
        · rw [ez] at q
          have o1 := (hok b _ q).1
          have o2 := (hok' b _ (u2.frzs b ob _ q)).1
          rw [e] at o1
          rw [← Option.some.inj o1] at o2
          exact ⟨.inl o2, _, o2⟩
        · rw [et] at q
          obtain ⟨more, hm⟩ := u2.tbls b #[] q
          have g := hok' b _ hm
          have g : s'.heap.get? b = some { cls := .none, data := .fields (#[] ++ more) } := g
          have t0 := hT p hp
          have tc := ((hC p hp).tab t0).isCodeTable
          rw [ez] at t0 tc
          rw [show s₁.heap.get? b = some _ from t0] at e
          rw [← Option.some.inj e]
          exact ⟨.inr (.inl ⟨tc, rfl, #[], more, rfl, g⟩), _, g⟩
    exact ⟨rfl, ⟨fun b o e => (old b o e).1, fun b o e => (old b o e).2⟩, os, bare⟩
theorem law_callGT (KX : K.In s₁.heap) (hns : s₁.heap.Ns mainGlobals mg) (hb : s₁.heap.Ns builtinsNs mb) (hbb : ∀ y : Str, y ≠ "__name__" → mb y = bootBuiltins y) (hlim : s₁.heap.NoLimit) (hg : s₁.gens = #[])
    (hbm : ∃ (bm : Addr) (ob : Obj), mg "__builtins__" = some (.ref bm) ∧ bm ≠ builtinsNs ∧ s₁.heap.get? bm = some ob ∧ ob.cls = .type "module" ∧ ob.dict = some builtinsNs ∧ ob.data = .plain)
    (hT : ∀ p ∈ cs, Tab0 s₁.heap p.2) (nT : ∀ p ∈ cs, K.lookup p.2 = none) (hC : ∀ p ∈ cs, PySem.W.CodeHd s₁.heap p.1 p.2)
    (ha : s₁.heap.get? a = some { cls := .type "list", data := .seq vs.toArray }) (hi : IntsAre vs ns) (hl : ns.length ≤ sizeLine) (hr : Room k callerA) (F : ∀ base : Heap, K.In base → base.Ns mainGlobals mg → (∀ p ∈ cs, LamX.TabB base mg p.1 p.2) → FnG P w K mg base CX0 k fa fd [x] sp) (hbind : ∀ (s : Shared) (u : Value), BindsTo s fd ⟨[u], []⟩ [(x, u)])
    (hsp : ∀ H : Hp, (∀ p ∈ cs, H p.2 = some (.tbl #[])) → SqL K H a (ns.map V.int) → sp [.ref a] H (fun v _ => v = .bl true) E0) :
    codeAny (model P w) callerA (.call (.ref fa) ⟨[.ref a], []⟩) (fun r s' => r = .ok (.ret (.bool true)) ∧ OldK s₁.heap s'.heap ∧ s'.os = s₁.os ∧ AllBare s'.gens) s₁ := by
  have rv := vals_ints hi
  have len : vs.length = ns.length := hi.length
  have aT : ∀ p ∈ cs, p.2 ≠ a := fun p hp z => by
    have := hT p hp
    rw [z] at this
    rw [show s₁.heap.get? a = some _ from this] at ha
    cases ha
  -- the heap of the tables alone
  generalize hH0 : (fun b => if ∃ p ∈ cs, p.2 = b then some (.tbl #[]) else none : Hp) = H0
  have t0 : ∀ p ∈ cs, H0 p.2 = some (.tbl #[]) := fun p hp => by rw [← hH0]; exact if_pos ⟨p, hp, rfl⟩
  have only0 : ∀ b u, H0 b = some u → (∃ p ∈ cs, p.2 = b) ∧ u = .tbl #[] := fun b u e => by
    rw [← hH0] at e
    by_cases z : ∃ p ∈ cs, p.2 = b
    · have e : (if ∃ p ∈ cs, p.2 = b then some (HO.tbl #[]) else none) = some u := e
      rw [if_pos z] at e
      exact ⟨z, (Option.some.inj e).symm⟩
    · have e : (if ∃ p ∈ cs, p.2 = b then some (HO.tbl #[]) else none) = some u := e
      rw [if_neg z] at e
      cases e
  have a0 : H0 a = none := by
    cases q : H0 a with
    | none => rfl
    | some u =>
      obtain ⟨⟨p, hp, z⟩, _⟩ := only0 a u q
      exact (aT p hp z).elim
  have okT : ∀ b u, H0 b = some u → ObjOk P w H0 s₁.heap b u := fun b u e => by
    obtain ⟨⟨p, hp, z⟩, eu⟩ := only0 b u e
    rw [eu, ← z]
    exact hT p hp
  cases hk : K.lookup a with
  | some o =>
    have e := KX a o hk
    rw [ha] at e
    injection e with e
    subst e
    exact few_call (H := H0) KX hns hb hbb hlim hg hbm hT nT hC ha hr F hbind (fun b u e => .inr (only0 b u e)) okT (fun z => (z a0).elim) (hsp H0 t0 (.inr ⟨_, vs.toArray, _, hk, rfl, rfl, rfl, by rw [List.size_toArray, len]; exact hl, by simpa using rv⟩))
  | none =>
    generalize ho : ({ cls := .type "list", data := .seq vs.toArray } : Obj) = ob at ha
    generalize hH : upd H0 a (.frz ob (.lst (ns.map V.int))) = H
    have at_a : H a = some (.frz ob (.lst (ns.map V.int))) := by rw [← hH]; exact upd_same
    have off : ∀ b, b ≠ a → H b = H0 b := fun b n => by rw [← hH]; exact upd_ne n
    refine few_call (H := H) KX hns hb hbb hlim hg hbm hT nT hC (by rw [ha, ho]) hr F hbind (fun b u e => ?_) (fun b u e => ?_) (fun _ => hk) (hsp H (fun p hp => by rw [off _ (aT p hp)]; exact t0 p hp) (.inl (.inr ⟨ob, at_a⟩)))
    · by_cases z : b = a
      · rw [z, at_a] at e
        exact .inl ⟨z, ob, _, (Option.some.inj e).symm⟩
      · rw [off b z] at e
        exact .inr (only0 b u e)
    · by_cases z : b = a
      · rw [z, at_a] at e
        rw [z, ← Option.some.inj e]
        exact ⟨ha, by rw [List.length_map]; exact hl, vs, 0, rv, by rw [ha, ← ho]⟩
      · rw [off b z] at e
        obtain ⟨⟨p, hp, zp⟩, eu⟩ := only0 b u e
        rw [eu, ← zp]
        exact hT p hp
end
theorem walk_ofGT {l : PySem.W.OpenLaw} {n k : Nat} {q : Program} {loose : List Str} {XP : (Str → Option Value) → Heap → Prop} {YP : World → Heap → Prop} {d : DefRec} {K : Params → PySem.W.Frag} {sp : World → Sp} {x : Str} {cs : List (Addr × Addr)}
    (hn : l.most = some n) (hn2 : n ≤ sizeLine) (hdf : d.params.defaults = []) (hr : Room k callerA) (hY : ∀ (w : World) (h : Heap), YP w h → (K w.params).In h)
    (F : ∀ (w : World) (mg : Str → Option Value) (fa : Addr) (h : Heap), (K w.params).In h → h.Ns mainGlobals mg → mg d.name = some (.ref fa) →
      (∀ p ∈ cs, ∃ (y : Str) (f : Addr), ((recsOf q).any fun e => e.name == y) = true ∧ mg y = some (.ref f) ∧ lamB (K w.params) f p.1 p.2 = true) ∧
      ∃ fd : FuncData, (∀ (s : Shared) (u : Value), BindsTo s fd ⟨[u], []⟩ [(x, u)]) ∧ ∀ base : Heap, (K w.params).In base → base.Ns mainGlobals mg → (∀ p ∈ cs, LamX.TabB base mg p.1 p.2) → FnG l.prog w (K w.params) mg base CX0 k fa fd [x] (sp w))
    (hsp : ∀ (w : World) (H : Hp) (a : Addr) (ns : List Int), ns.length ≤ n → (∀ p ∈ cs, H p.2 = some (.tbl #[])) → SqL (K w.params) H a (ns.map V.int) → sp w [.ref a] H (fun v _ => v = .bl true) E0) :
    PySem.W.WalkO q loose XP YP l.row.toRowW d [] (fun f vs => PySem.call f vs) := by
  refine Att.attach_call hn hdf fun w s₀ s₁ mg mb fa o pm cd doc a vs ns G Y ho hd hcd hmg hobj hints hlen hg => ?_
  obtain ⟨hcs, fd, hb, hF⟩ := F w mg fa _ (hY w _ Y) G.T.g hmg
  have tb : ∀ p ∈ cs, Tab0 s₁.heap p.2 ∧ PySem.W.CodeHd s₁.heap p.1 p.2 ∧ (K w.params).lookup p.2 = none := fun p hp => by
    obtain ⟨y, f, h1, h2, h3⟩ := hcs p hp
    exact tab0_of G.T (hY w _ Y) h1 h2 h3
  exact law_callGT (hY w _ Y) G.T.g G.T.b G.T.builtins G.T.nolimit hg G.T.bmain (fun p hp => (tb p hp).1) (fun p hp => (tb p hp).2.2) (fun p hp => (tb p hp).2.1) hobj hints (Nat.le_trans hlen hn2) hr hF hb fun H hT hS => hsp w H a ns hlen hT hS
/-- the tables of the start -/
theorem tabs0 {cs : List (Addr × Addr)} {T : List (Addr × Str)} {H : Hp} (h : ∀ p ∈ cs, H p.2 = some (.tbl #[])) (hT : ∀ t ∈ T, ∃ p ∈ cs, p.2 = t.1) : LamX.Tabs T H := fun t ht => by
  obtain ⟨p, hp, e⟩ := hT t ht
  exact ⟨#[], by rw [← e]; exact h p hp, trivial, fun pos cv hc => (nomatch hc)⟩
/-- two makers' tables -/
theorem un2 {P1 P2 : Addr} {q1 q2 : Str} (ne : P1 ≠ P2) : (∀ p ∈ [(P1, q1), (P2, q2)], p.1 = P1 → p.2 = q1) ∧ ∀ p ∈ [(P1, q1), (P2, q2)], p.1 = P2 → p.2 = q2 := by
  refine ⟨fun p hp z => ?_, fun p hp z => ?_⟩
  · rcases List.mem_cons.mp hp with h | h
    · rw [h]
    · rw [List.mem_singleton.mp h] at z
      exact (ne z.symm).elim
  · rcases List.mem_cons.mp hp with h | h
    · rw [h] at z
      exact (ne z).elim
    · rw [List.mem_singleton.mp h]
/-- three makers' tables -/
theorem un3 {P1 P2 P3 : Addr} {q1 q2 q3 : Str} (n1 : P1 ≠ P2) (n2 : P1 ≠ P3) (n3 : P2 ≠ P3) : (∀ p ∈ [(P1, q1), (P2, q2), (P3, q3)], p.1 = P1 → p.2 = q1) ∧ (∀ p ∈ [(P1, q1), (P2, q2), (P3, q3)], p.1 = P2 → p.2 = q2) ∧ ∀ p ∈ [(P1, q1), (P2, q2), (P3, q3)], p.1 = P3 → p.2 = q3 := by
  refine ⟨fun p hp z => ?_, fun p hp z => ?_, fun p hp z => ?_⟩ <;> simp only [List.mem_cons, List.not_mem_nil, or_false] at hp <;> rcases hp with h | h | h <;> rw [h] at z ⊢
  · exact (n1 z.symm).elim
  · exact (n2 z.symm).elim
  · exact (n1 z).elim
  · exact (n3 z.symm).elim
  · exact (n2 z).elim
  · exact (n3 z).elim
end Vc

/-! Xa: x + y by an own __add__; p[::-1] of a pair (my own). -/
namespace Vc
open PySem PySem.Spec PyProof.Rows L2
section
variable {X : Cx} {C g : Addr} {fd : FuncData} {ps : List Str} {sp : Sp} {n : Nat}
/-- x + y by x's own __add__, y of the same class -/
def rAddO (K : PySem.W.Frag) (C : Addr) (sp : Sp) : R2 := fun x y H Q => ∃ (a dx : Addr) (fs : List (Str × V)), x = .ref a ∧ H a = some (.ins C dx fs) ∧ TyX K H y (.ref C) ∧ sp [x, y] H (fun v H' => ∃ b, v = .ref b ∧ Q (.ref b) H') E0
theorem op_addO (F : FnOk X.prog X.w X.K X.mg X.base CX0 n g fd ps sp) (hr : Room n X.A) (m : SpM X.K C g "__add__") (sf : PySem.W.selfFirst X.K C = true) (hb : Binds X.K fd ps []) : OpR X (binaryOp .Add) (rAddO X.K C sp) := by
  intro pins s σ H x y v u Q I rx ry h
  obtain ⟨a, dx, fs, rfl, ha, ty, q⟩ := h
  cases rx
  obtain ⟨mA, J, _⟩ := ins_get I.hok ha
  obtain ⟨od, J, _⟩ := J.look
  obtain ⟨_, Z, p, _⟩ := kit_of I ry ty
  obtain ⟨mm, hF⟩ := I.fr
  refine PySem.W.binop_K (op := .Add) hF I.ok.mod.kin J (Z.ty _ _ I.kIn p) sf m.at_ m.fn ?_
  refine wpAny_mono (runO (vs := [.ref a, y]) F hr hb I I.env0 (.cons rfl (.cons ry .nil)) q) (fun w' s' hq => ?_) (fun _ _ e => e)
  obtain ⟨z, H', I', rz, b, rfl, qz⟩ := hq
  cases rz
  exact ⟨.ref b, H', I', rfl, qz⟩
theorem go_addO {K : PySem.W.Frag} {H : Hp} {Q : VK} {a dx : Addr} {fs : List (Str × V)} {y : V} (ha : H a = some (.ins C dx fs)) (ty : TyX K H y (.ref C)) (q : sp [.ref a, y] H (fun v H' => ∃ b, v = .ref b ∧ Q (.ref b) H') E0) : rAddO K C sp (.ref a) y H Q := ⟨a, dx, fs, rfl, ha, ty, q⟩
end
section
variable {prog : Program} {w : World} {A : Around} {E : Value → Shared → Prop} {s : Shared}
theorem sliceApplied_rev {sl : Addr} {vl vu vs : Value} {Q : Int × Int × Nat → Shared → Prop} (hs : s.heap.IsSliceOf sl vl vu vs) (pl : IsPart vl none) (pu : IsPart vu none) (p : IsPart vs (some (-1)))
    (h : Q (1, -1, 2) s) : wpAny (model prog w) A (Builtin.Slice.sliceApplied (.ref sl) (pure (2 : Int))) Q E s := by
  obtain ⟨os, hos, hcs, hds⟩ := id hs
  unfold Builtin.Slice.sliceApplied Builtin.Slice.sliceFields
  refine wpAny_bind (wpAny_bind (wpAny_field hos hds (x := vl) rfl (wpAny_bind (wpAny_field hos hds (x := vu) rfl (wpAny_bind (wpAny_field hos hds (x := vs) rfl (wpAny_pure ?_)))))))
  refine wpAny_bind (HT.slicePart_ p ?_)
  show wpAny _ _ (if ((-1 : Int) == 0) = true then _ else _) _ _ s
  rw [if_neg (by decide)]
  refine wpAny_bind (HT.slicePart_ pl (wpAny_bind (HT.slicePart_ pu (wpAny_bind (wpAny_pure ?_)))))
  exact wpAny_pure h
theorem getItem_pair_rev {t sl : Addr} {a b : Value} {vl vu vs : Value} {Q : Value → Shared → Prop} (ht : IsTup s.heap t #[a, b]) (hs : s.heap.IsSliceOf sl vl vu vs) (pl : IsPart vl none) (pu : IsPart vu none) (p : IsPart vs (some (-1)))
    (h : Q (.ref s.heap.objs.size) { s with heap := s.heap.push { cls := .type "tuple", data := .seq #[b, a] } }) : wpAny (model prog w) A (getItem (.ref t) (.ref sl)) Q E s := by
  have htake : sizeOk (.seq #[b, a]) := by
    show 2 ≤ sizeLine
    decide
  obtain ⟨os, hos, hcs, hds⟩ := id hs
  have hTs : s.TypeIs (.ref sl) "slice" := ⟨os, hos, hcs⟩
  unfold getItem
  try with_reducible refine wpAny_holding ?_
  first | refine wpAny_bind (wpAny_pure ?_) | skip
  refine wpAny_bind (wpAny_sequenceKey ht.typeIs (by decide) ?_)
  refine wpAny_bind (wpAny_callSpecial?_slot (name := Str.ofString "__getitem__") ht.typeIs PyProof.Rows.slot_tuple_getitem
    (wpAny_call_entry PyProof.Rows.slot_tuple_getitem ht.typeIs PyProof.Rows.entry_tuple_getitem ?_ (PyProof.Rows.args_tuple_getitem _ _)))
  show wpAny _ _ (Builtin.Tuple.tupleItemsOf (.ref t) >>= _) _ _ s
  refine wpAny_bind (PyProof.Rows.tupleItemsOf_ ht ?_)
  refine wpAny_bind (wpAny_typeOf hTs ?_)
  rw [if_pos (by decide)]
  refine wpAny_bind (sliceApplied_rev hs pl pu p ?_)
  show wpAny _ _ (if ((1 : Int) == 0 && (-1 : Int) == 1 && 2 == (#[a, b] : Array Value).size) = true then _ else _) _ _ s
  rw [if_neg (by show ¬ ((1 : Int) == 0 && (-1 : Int) == 1 && 2 == 2) = true; decide)]
  have pick : ((List.range 2).filterMap fun (m : Nat) => (#[a, b] : Array Value)[((1 : Int) + (m : Int) * (-1)).toNat]?).toArray = #[b, a] := rfl
  rw [pick]
  first
    | exact wpAny_bind (m := Builtin.Tuple.tupleExact _) (wpAny_newObj_type (wpAny_pure ⟨_, rfl, wpAny_pure h⟩) htake)
    | exact wpAny_bind (m := Builtin.Tuple.tupleExact _) (wpAny_newObj_type (wpAny_bind (wpAny_pure (wpAny_pure ⟨_, rfl, wpAny_pure h⟩))) htake)
    | exact wpAny_bind (wpAny_bind (m := Builtin.Tuple.tupleExact _) (wpAny_newObj_type (wpAny_pure (wpAny_pure ⟨_, rfl, wpAny_pure h⟩)) htake))
    | exact wpAny_bind (wpAny_bind (m := Builtin.Tuple.tupleExact _) (wpAny_newObj_type (wpAny_pure ⟨_, rfl, wpAny_pure h⟩) htake))
end
/-- p[::-1], p a pair -/
def tRev2 (K : PySem.W.Frag) (te : TE) : TE := fun σ H Q => te σ H fun x H1 => ∃ a u v, x = .ref a ∧ SqT K H1 a [u, v] ∧ ∀ p, H1 p = none → Q (.ref p) (upd H1 p (.tup [v, u]))
theorem pe_rev2 {X : Cx} {e : Expr} {te : TE} {k : Nat} {p1 p2 p3 pos : Pos} (he : PE X e te) : PE X (.Subscript e (.Slice none none (some (.UnaryOp .USub (.Constant (.int 1) k p1) p2)) p3) pos) (tRev2 X.K te) := by
  refine ⟨fun pins s σ H Q I h => ?_⟩
  refine Subscript_ (thn (he.run pins s σ H _ I h) fun v s1 ⟨x, H1, I1, r1, q1⟩ => ?_)
  obtain ⟨a, y, z, ex, hx, q⟩ := q1
  subst ex
  cases r1
  have hst : PO X (some (.UnaryOp .USub (.Constant (.int 1) k p1) p2)) (tPart (tUn (rU fun i => .int (-i)) (tC (.int 1)))) := po_some (pe_un un_neg pe_int)
  refine wpAny_Slice (thn (po_none.run pins s1 σ H1 (fun o H2 => o = none ∧ H2 = H1) I1 ⟨rfl, rfl⟩) fun vl s2 ⟨l, H2, I2, pl, el, e2⟩ => ?_)
  subst el e2
  refine thn (po_none.run pins s2 σ H2 (fun o H3 => o = none ∧ H3 = H2) I2 ⟨rfl, rfl⟩) fun vu s3 ⟨u, H3, I3, pu, eu, e3⟩ => ?_
  subst eu e3
  refine thn (hst.run pins s3 σ H3 (fun o H4 => o = some (-1) ∧ H4 = H3) I3 ⟨1, rfl, -1, rfl, rfl, rfl⟩) fun vs s4 ⟨o, H4, I4, ps, eo, e4⟩ => ?_
  subst eo e4
  have I5 : Inv X pins σ H4 { s4 with heap := s4.heap.push { cls := .type "slice", data := .fields #[vl, vu, vs] } } := I4.kept (t' := s4.toks) fun b ob q => Heap.get?_push_of_some _ q
  obtain ⟨its, r, ht, hz⟩ := I5.tuple hx
  cases r with
  | cons ry r =>
    cases r with
    | cons rz r =>
      cases r
      show wpAny (model X.prog X.w) X.A (subscriptTail e (.Slice none none (some (.UnaryOp .USub (.Constant (.int 1) k p1) p2)) p3) (.ref a) (.ref s4.heap.objs.size)) (EP X pins σ Q) X.xe { s4 with heap := s4.heap.push { cls := .type "slice", data := .fields #[vl, vu, vs] } }
      refine tail_any (ops := [.ref a, .ref s4.heap.objs.size]) ht.typeIs (PyProof.Rows.slot_tuple_getitem.lookup) ?_ (by with_unfolding_all rfl)
      refine getItem_pair_rev ht (Heap.IsSliceOf.new _ vl vu vs) pl pu ps ?_
      refine ⟨.ref _, _, I5.laid (t' := s4.toks) (o := .tup [z, y]) (fun b ob q => Heap.get?_push_of_some _ q) (Nat.le_refl _) ?_, rfl, q _ (I5.hok.fresh (Nat.le_refl _))⟩
      exact ⟨by show 2 ≤ sizeLine; decide, _, .cons rz (.cons ry .nil), IsTup.new _ _⟩
theorem go_rev2 {K : PySem.W.Frag} {te : TE} {σ : L2.St} {H : Hp} {Q : VK} (h : te σ H fun x H1 => ∃ a u v, x = .ref a ∧ SqT K H1 a [u, v] ∧ ∀ p, H1 p = none → Q (.ref p) (upd H1 p (.tup [v, u]))) : tRev2 K te σ H Q := h
end Vc

/-! Xad: x + y of two own classes, of a built-in and an own one by __radd__; what is raised passes (my own). -/
namespace Vc
open PySem PySem.Spec PyProof.Rows L2
open PySem.W in
/-- x + y, x of C, y of D: x's own method is asked first, for D is no subclass of C -/
theorem binop_two {prog : Program} {w : World} {A : Around} {E : Value → Shared → Prop} {s : Shared} {K : Frag} {x C D L f : Addr} {h₀ : Heap} {m : Str → Option Value} {ox : Obj} {od : Option Obj} {op : Operator} {b : Value} {rc rd : Option Value} {Q : Value → Shared → Prop}
    (F : Fr h₀ L s.heap m) (X₀ : K.In h₀) (I : InstAt s.heap x ox C od) (hb : Looks (model prog w) s.heap (typeOf b) (.ref D)) (hc : selfFirst K C = true)
    (hs : findIn K (.ref C) (PySem.dunder op.info.2) = some (some (.ref f))) (hf : isFn K (.ref f) = true) (hr : findIn K (.ref C) (dunderR op.info.2) = some rc) (hp : rc = none ∨ ∃ g : Addr, rc = some (.ref g))
    (hcd : selfFirst K D = true) (hds : ∃ g : Addr, findIn K (.ref D) (PySem.dunder op.info.2) = some (some (.ref g))) (hdr : findIn K (.ref D) (dunderR op.info.2) = some rd) (hdp : rd = none ∨ ∃ g : Addr, rd = some (.ref g)) (ne : C ≠ D) (hsub : subIn K (.ref D) (.ref C) = some false)
    (h : wpAny (model prog w) A (call (.ref f) [.ref x, b]) (PySem.W.CmpBack Q) E s) : wpAny (model prog w) A (binaryOp op (.ref x) b) Q E s := by
  have X := X₀.keeps F.keep
  obtain ⟨g, hds⟩ := hds
  obtain ⟨cd, rest, hcd1, hm⟩ := ksp_first hc
  obtain ⟨cd2, rest2, hcd2, hm2⟩ := ksp_first hcd
  rcases hi : op.info with ⟨sym, nm'⟩
  rw [hi] at hs hr hds hdr
  dsimp only at hs hr hds hdr
  have one := ksp_try X I hs hf h
  obtain ⟨hh, gg, dd, tt, os⟩ := s
  have L1 : Looks (model prog w) hh (typeOf (.ref x)) (.ref C) := I.type
  have L2 : Looks (model prog w) hh (typeOf b) (.ref D) := hb
  have L3 : Looks (model prog w) hh (fillsNumberSlot (.ref C) nm') true := fills_K X hcd1 hm hs
  have L4 : Looks (model prog w) hh (fillsNumberSlot (.ref D) nm') true := fills_K X hcd2 hm2 hds
  have L5 : Looks (model prog w) hh (isSubtype (.ref D) (.ref C)) false := looks_subIn X hsub
  have L6 : Looks (model prog w) hh (numberSlotInPython (.ref C) nm') true := ksp_inPy X hs hr hp
  have L7 : Looks (model prog w) hh (numberSlotInPython (.ref D) nm') true := ksp_inPy X hds hdr hdp
  have hne : (Value.ref C == Value.ref D) = false := Bool.eq_false_iff.mpr fun q => ne (by have := beq_iff_eq.mp q; cases this; rfl)
  simp only [binaryOp, hi]
  refine wpAny_holding (wpAny_bind ?_)
  unfold binaryOp1
  refine wpAny_bind (L1.at (wpAny_bind (L2.at (wpAny_bind (L3.at ?_)))))
  simp only [hne, Bool.false_eq_true, if_false]
  ksp_lk
  refine wpAny_mono one (fun r s' hr' => ?_) fun _ _ e => e
  obtain ⟨v, rfl, hq⟩ := hr'
  ksp_lk
  exact hq
open PySem.W in
/-- x + y, x of a built-in type without a number slot, y of D: y's reflected method -/
theorem binop_refl {prog : Program} {w : World} {A : Around} {E : Value → Shared → Prop} {s : Shared} {K : Frag} {y D L f : Addr} {T : String} {h₀ : Heap} {m : Str → Option Value} {oy : Obj} {od : Option Obj} {op : Operator} {a : Value} {fo ro : Option Value} {Q : Value → Shared → Prop}
    (F : Fr h₀ L s.heap m) (X₀ : K.In h₀) (I : InstAt s.heap y oy D od) (ha : Looks (model prog w) s.heap (typeOf a) (.type T))
    (h1 : findIn K (.type T) (PySem.dunder op.info.2) = some fo) (h2 : findIn K (.type T) (dunderR op.info.2) = some ro) (no : ((fo.isSome && !isSeqSlot fo) || (ro.isSome && !isSeqSlot ro)) = false)
    (hcd : selfFirst K D = true) (hds : ∃ g : Addr, findIn K (.ref D) (PySem.dunder op.info.2) = some (some (.ref g))) (hs : findIn K (.ref D) (dunderR op.info.2) = some (some (.ref f))) (hf : isFn K (.ref f) = true)
    (h : wpAny (model prog w) A (call (.ref f) [.ref y, a]) (PySem.W.CmpBack Q) E s) : wpAny (model prog w) A (binaryOp op a (.ref y)) Q E s := by
  have X := X₀.keeps F.keep
  obtain ⟨g, hds⟩ := hds
  obtain ⟨cd2, rest2, hcd2, hm2⟩ := ksp_first hcd
  rcases hi : op.info with ⟨sym, nm'⟩
  rw [hi] at hs hds h1 h2
  dsimp only at hs hds h1 h2
  have one := ksp_try X I hs hf h
  obtain ⟨hh, gg, dd, tt, os⟩ := s
  have L1 : Looks (model prog w) hh (typeOf a) (.type T) := ha
  have L2 : Looks (model prog w) hh (typeOf (.ref y)) (.ref D) := I.type
  have L3 : Looks (model prog w) hh (fillsNumberSlot (.type T) nm') false := no ▸ ksp_fillsT X h1 h2
  have L4 : Looks (model prog w) hh (fillsNumberSlot (.ref D) nm') true := fills_K X hcd2 hm2 hds
  have hne : (Value.type T == Value.ref D) = false := Bool.eq_false_iff.mpr fun q => by cases beq_iff_eq.mp q
  simp only [binaryOp, hi]
  refine wpAny_holding (wpAny_bind ?_)
  unfold binaryOp1
  refine wpAny_bind (L1.at (wpAny_bind (L2.at (wpAny_bind (L3.at ?_)))))
  simp only [hne, Bool.false_eq_true, if_false]
  ksp_lk
  refine wpAny_mono one (fun r s' hr' => ?_) fun _ _ e => e
  obtain ⟨v, rfl, hq⟩ := hr'
  ksp_lk
  exact hq
/-- none or a def -/
def fnN (v : Option (Option Value)) : Bool := match v with | some none => true | some (some (.ref _)) => true | _ => false
theorem fnN_ok {v : Option (Option Value)} (h : fnN v = true) : ∃ r : Option Value, v = some r ∧ (r = none ∨ ∃ g : Addr, r = some (.ref g)) := by
  match v, h with
  | some none, _ => exact ⟨_, rfl, .inl rfl⟩
  | some (some (.ref g)), _ => exact ⟨_, rfl, .inr ⟨g, rfl⟩⟩
def fnR (v : Option (Option Value)) : Bool := match v with | some (some (.ref _)) => true | _ => false
theorem fnR_ok {v : Option (Option Value)} (h : fnR v = true) : ∃ g : Addr, v = some (some (.ref g)) := by
  match v, h with
  | some (some (.ref g)), _ => exact ⟨g, rfl⟩
/-- C + D goes to C's own method -/
def twoB (K : PySem.W.Frag) (C D : Addr) : Bool := PySem.W.selfFirst K C && (fnN (PySem.W.findIn K (.ref C) "__radd__") && (PySem.W.selfFirst K D && (fnR (PySem.W.findIn K (.ref D) "__add__") && (fnN (PySem.W.findIn K (.ref D) "__radd__") && (C != D && PySem.W.subIn K (.ref D) (.ref C) == some false)))))
/-- list + D goes to D's reflected method -/
def reflB (K : PySem.W.Frag) (D : Addr) : Bool := (match PySem.W.findIn K (.type "list") "__add__", PySem.W.findIn K (.type "list") "__radd__" with | some fo, some ro => !((fo.isSome && !isSeqSlot fo) || (ro.isSome && !isSeqSlot ro)) | _, _ => false) && (PySem.W.selfFirst K D && fnR (PySem.W.findIn K (.ref D) "__add__"))
section
variable {X : Cx} {C D g : Addr} {fd : FuncData} {ps : List Str} {sp : Sp} {n : Nat} {CX : CXT} {E : L2.St → XK} {a b : Expr} {ta tb : TE} {pos : Pos}
def tAddS (K : PySem.W.Frag) (C D : Addr) (sp : Sp) (E : L2.St → XK) (ta tb : TE) : TE := fun σ H Q => ta σ H fun x H1 => tb σ H1 fun y H2 => ∃ (a dx : Addr) (fs : List (Str × V)), x = .ref a ∧ H2 a = some (.ins C dx fs) ∧ TyX K H2 y (.ref D) ∧ sp [.ref a, y] H2 (fun v H' => ∃ b, v = .ref b ∧ Q (.ref b) H') (E σ)
theorem ep_ref {pins : List (Addr × Obj)} {σ : L2.St} {Q : VK} {v : Value} {s : Shared} (h : EP X pins σ (fun v H' => ∃ b, v = .ref b ∧ Q (.ref b) H') v s) : PySem.W.CmpBack (EP X pins σ Q) v s := by
  obtain ⟨z, H', I', rz, b, rfl, q⟩ := h
  cases rz
  exact ⟨.ref b, H', I', rfl, q⟩
/-- x + y by x's own __add__, y of another own class -/
theorem pe_addS (B : twoB X.K C D = true) (m : SpM X.K C g "__add__") (F : FnOk X.prog X.w X.K X.mg X.base CX n g fd ps sp) (hr : Room n X.A) (hb : Binds X.K fd ps []) (hx : ∀ σ, PassesAt CX X σ (E σ)) (ha : PE X a ta) (hb0 : PE X b tb) :
    PE X (.BinOp a .Add b pos) (tAddS X.K C D sp E ta tb) := by
  unfold twoB at B
  simp only [Bool.and_eq_true] at B
  obtain ⟨b1, b2, b3, b4, b5, b6, b7⟩ := B
  obtain ⟨rc, e2, p2⟩ := fnN_ok b2
  obtain ⟨g4, e4⟩ := fnR_ok b4
  obtain ⟨rd, e5, p5⟩ := fnN_ok b5
  refine ⟨fun pins s σ H Q I h => ?_⟩
  refine wpAny_BinOp (binT (R := fun x y H2 => ∃ (a dx : Addr) (fs : List (Str × V)), x = .ref a ∧ H2 a = some (.ins C dx fs) ∧ TyX X.K H2 y (.ref D) ∧ sp [.ref a, y] H2 (fun v H' => ∃ b, v = .ref b ∧ Q (.ref b) H') (E σ)) ha hb0 I h fun v u s2 x y H2 I2 rx ry q => ?_)
  obtain ⟨p, dx, fs, rfl, hp, ty, q⟩ := q
  cases rx
  obtain ⟨mA, J, _⟩ := ins_get I2.hok hp
  obtain ⟨od, J, _⟩ := J.look
  obtain ⟨_, Z, pp, _⟩ := kit_of I2 ry ty
  obtain ⟨mm, hF⟩ := I2.fr
  exact binop_two (op := .Add) hF I2.ok.mod.kin J (Z.ty _ _ I2.kIn pp) b1 m.at_ m.fn e2 p2 b3 ⟨g4, e4⟩ e5 p5 (by simpa using b6) (beq_iff_eq.mp b7) (wpAny_mono (runOS (vs := [.ref p, y]) F hr hb (hx σ) I2 I2.env0 (.cons rfl (.cons ry .nil)) q) (fun w' s' hq => ep_ref hq) (fun _ _ e => e))
/-- x + y, x a list, by y's own __radd__ -/
def tRaddS (K : PySem.W.Frag) (D : Addr) (sp : Sp) (E : L2.St → XK) (ta tb : TE) : TE := fun σ H Q => ta σ H fun x H1 => tb σ H1 fun y H2 => ∃ (a dx : Addr) (fs : List (Str × V)), y = .ref a ∧ H2 a = some (.ins D dx fs) ∧ TyX K H2 x (.type "list") ∧ sp [.ref a, x] H2 (fun v H' => ∃ b, v = .ref b ∧ Q (.ref b) H') (E σ)
theorem pe_raddS (B : reflB X.K D = true) (m : SpM X.K D g "__radd__") (F : FnOk X.prog X.w X.K X.mg X.base CX n g fd ps sp) (hr : Room n X.A) (hb : Binds X.K fd ps []) (hx : ∀ σ, PassesAt CX X σ (E σ)) (ha : PE X a ta) (hb0 : PE X b tb) :
    PE X (.BinOp a .Add b pos) (tRaddS X.K D sp E ta tb) := by
  unfold reflB at B
  rw [Bool.and_eq_true, Bool.and_eq_true] at B
  obtain ⟨b1, b2, b3⟩ := B
  obtain ⟨g4, e4⟩ := fnR_ok b3
  obtain ⟨fo, ro, e1, e2, no⟩ : ∃ fo ro, PySem.W.findIn X.K (.type "list") "__add__" = some fo ∧ PySem.W.findIn X.K (.type "list") "__radd__" = some ro ∧ ((fo.isSome && !isSeqSlot fo) || (ro.isSome && !isSeqSlot ro)) = false := by
    cases h1 : PySem.W.findIn X.K (.type "list") "__add__" with
    | none => rw [h1] at b1; cases b1
    | some fo =>
      cases h2 : PySem.W.findIn X.K (.type "list") "__radd__" with
      | none => rw [h1, h2] at b1; cases b1
      | some ro =>
        rw [h1, h2] at b1
        exact ⟨fo, ro, rfl, rfl, by
          have b1 : (!((fo.isSome && !isSeqSlot fo) || (ro.isSome && !isSeqSlot ro))) = true := b1
          revert b1
          generalize ((fo.isSome && !isSeqSlot fo) || (ro.isSome && !isSeqSlot ro)) = z
          cases z <;> simp⟩
  refine ⟨fun pins s σ H Q I h => ?_⟩
  refine wpAny_BinOp (binT (R := fun x y H2 => ∃ (a dx : Addr) (fs : List (Str × V)), y = .ref a ∧ H2 a = some (.ins D dx fs) ∧ TyX X.K H2 x (.type "list") ∧ sp [.ref a, x] H2 (fun v H' => ∃ b, v = .ref b ∧ Q (.ref b) H') (E σ)) ha hb0 I h fun v u s2 x y H2 I2 rx ry q => ?_)
  obtain ⟨p, dx, fs, rfl, hp, ty, q⟩ := q
  cases ry
  obtain ⟨mA, J, _⟩ := ins_get I2.hok hp
  obtain ⟨od, J, _⟩ := J.look
  obtain ⟨_, Z, pp, _⟩ := kit_of I2 rx ty
  obtain ⟨mm, hF⟩ := I2.fr
  exact binop_refl (op := .Add) hF I2.ok.mod.kin J (Z.ty _ _ I2.kIn pp) e1 e2 no b2 ⟨g4, e4⟩ m.at_ m.fn (wpAny_mono (runOS (vs := [.ref p, x]) F hr hb (hx σ) I2 I2.env0 (.cons rfl (.cons rx .nil)) q) (fun w' s' hq => ep_ref hq) (fun _ _ e => e))
end
open PySem.W in
theorem fillsI_none {M : Model} {K : Frag} {C : Addr} {h : Heap} {cd : ClassData} (X : K.In h) (hc : clsIn K C = some cd) (hm : cd.mro = [.ref C, .type "object"]) (hs : findIn K (.ref C) "__iadd__" = some none) (ho : findIn K (.type "object") "__iadd__" = some none) : Looks M h (fillsInplaceSlot (.ref C) "add" true) false := by
  intro A Q E s k q
  have Lm : Looks M h (mroOf (.ref C)) cd.mro := (looks_clsIn X hc).andThen (f := fun cd => pure cd.mro) .now
  have Lm' := Lm.keeps k
  obtain ⟨hh, g, d, tt, os⟩ := s
  have X' : K.In hh := X.keeps k
  have L1 : Looks M hh (typeLookup (.ref C) "__iadd__") none := looks_findIn X' hs
  have L2 : Looks M hh (typeLookup (.type "object") "__iadd__") none := looks_findIn X' ho
  have L1' : Looks M hh (typeLookup (.ref C) (dunderI "add")) none := L1
  have L2' : Looks M hh (typeLookup (.type "object") (dunderI "add")) none := L2
  unfold fillsInplaceSlot
  refine wpAny_bind (Lm'.at ?_)
  rw [hm, List.anyM_cons]
  refine wpAny_bind ?_
  repeat lk
  exact q
open PySem.W in
/-- x += y where x's class has no __iadd__: x + y, y of the same class -/
theorem inplace_fall {prog : Program} {w : World} {A : Around} {E : Value → Shared → Prop} {s : Shared} {K : Frag} {x C L f : Addr} {h₀ : Heap} {m : Str → Option Value} {ox : Obj} {od : Option Obj} {b : Value} {cd : ClassData} {Q : Value → Shared → Prop}
    (F : Fr h₀ L s.heap m) (X₀ : K.In h₀) (I : InstAt s.heap x ox C od) (hb : Looks (model prog w) s.heap (typeOf b) (.ref C)) (hcd : clsIn K C = some cd) (hm : cd.mro = [.ref C, .type "object"])
    (hi : findIn K (.ref C) "__iadd__" = some none) (ho : findIn K (.type "object") "__iadd__" = some none) (hs : findIn K (.ref C) "__add__" = some (some (.ref f))) (hf : isFn K (.ref f) = true)
    (h : wpAny (model prog w) A (call (.ref f) [.ref x, b]) (PySem.W.CmpBack Q) E s) : wpAny (model prog w) A (inplaceOp .Add (.ref x) b) Q E s := by
  have X := X₀.keeps F.keep
  have one := ksp_try X I hs hf h
  obtain ⟨hh, gg, dd, tt, os⟩ := s
  have L1 : Looks (model prog w) hh (typeOf (.ref x)) (.ref C) := I.type
  have L2 : Looks (model prog w) hh (typeOf b) (.ref C) := hb
  have L3 : Looks (model prog w) hh (fillsInplaceSlot (.ref C) "add" true) false := fillsI_none X hcd hm hi ho
  have L4 : Looks (model prog w) hh (fillsNumberSlot (.ref C) "add") true := fills_K X hcd hm hs
  have one : wpAny (model prog w) A (tryMethod (.ref x) (PySem.dunder "add") b) (fun r s' => ∃ v, r = some v ∧ Q v s') E ⟨hh, gg, dd, tt, os⟩ := one
  unfold inplaceOp
  refine wpAny_holding ?_
  refine wpAny_bind (L1.at ?_)
  refine wpAny_bind (L3.at ?_)
  simp only [Bool.false_eq_true, if_false]
  refine wpAny_bind (m := binaryOp1 "add" (.ref x) b) ?_
  unfold binaryOp1
  refine wpAny_bind (L1.at (wpAny_bind (L2.at (wpAny_bind (L4.at ?_)))))
  simp only [beq_self_eq_true, if_true]
  ksp_lk
  refine wpAny_mono one (fun r s' hr' => ?_) fun _ _ e => e
  obtain ⟨v, rfl, hq⟩ := hr'
  ksp_lk
  exact hq
/-- x += y stays x + y: the class has no __iadd__ -/
def fallB (K : PySem.W.Frag) (C : Addr) : Bool := (match PySem.W.clsIn K C with | some cd => cd.mro == [.ref C, .type "object"] | none => false) && (PySem.W.findIn K (.ref C) "__iadd__" == some none && PySem.W.findIn K (.type "object") "__iadd__" == some none)
section
variable {X : Cx} {C g : Addr} {fd : FuncData} {ps : List Str} {sp : Sp} {n : Nat} {CX : CXT} {E : XK}
/-- x += y by x's own __iadd__ -/
def rIaddO (C : Addr) (sp : Sp) (E : XK) : TIp := fun x y H Q => ∃ (a dx : Addr) (fs : List (Str × V)), x = .ref a ∧ H a = some (.ins C dx fs) ∧ sp [.ref a, y] H (fun v H' => ∃ b, v = .ref b ∧ Q (.ref b) H') E
theorem pip_iaddO (sf : PySem.W.selfFirst X.K C = true) (m : SpM X.K C g "__iadd__") (F : FnOk X.prog X.w X.K X.mg X.base CX n g fd ps sp) (hr : Room n X.A) (hb : Binds X.K fd ps []) (hx : ∀ σ, PassesAt CX X σ E) : PIp X .Add (rIaddO C sp E) := by
  intro pins s σ H x y v u Q I rx ry h
  obtain ⟨p, dx, fs, rfl, hp, q⟩ := h
  cases rx
  obtain ⟨mA, J, _⟩ := ins_get I.hok hp
  obtain ⟨od, J, _⟩ := J.look
  obtain ⟨mm, hF⟩ := I.fr
  exact PySem.W.ksp_inplace (op := .Add) hF I.ok.mod.kin J sf m.at_ m.fn (wpAny_mono (runOS (vs := [.ref p, y]) F hr hb (hx σ) I I.env0 (.cons rfl (.cons ry .nil)) q) (fun w' s' hq => ep_ref hq) (fun _ _ e => e))
/-- x += y by x's own __add__ -/
def rIaddF (K : PySem.W.Frag) (C : Addr) (sp : Sp) (E : XK) : TIp := fun x y H Q => ∃ (a dx : Addr) (fs : List (Str × V)), x = .ref a ∧ H a = some (.ins C dx fs) ∧ TyX K H y (.ref C) ∧ sp [.ref a, y] H (fun v H' => ∃ b, v = .ref b ∧ Q (.ref b) H') E
theorem pip_iaddF (B : fallB X.K C = true) (m : SpM X.K C g "__add__") (F : FnOk X.prog X.w X.K X.mg X.base CX n g fd ps sp) (hr : Room n X.A) (hb : Binds X.K fd ps []) (hx : ∀ σ, PassesAt CX X σ E) : PIp X .Add (rIaddF X.K C sp E) := by
  unfold fallB at B
  simp only [Bool.and_eq_true] at B
  obtain ⟨b1, b2, b3⟩ := B
  obtain ⟨cd, hcd, hm⟩ : ∃ cd, PySem.W.clsIn X.K C = some cd ∧ cd.mro = [.ref C, .type "object"] := by
    cases h1 : PySem.W.clsIn X.K C with
    | none => rw [h1] at b1; cases b1
    | some cd => rw [h1] at b1; exact ⟨cd, rfl, beq_iff_eq.mp b1⟩
  intro pins s σ H x y v u Q I rx ry h
  obtain ⟨p, dx, fs, rfl, hp, ty, q⟩ := h
  cases rx
  obtain ⟨mA, J, _⟩ := ins_get I.hok hp
  obtain ⟨od, J, _⟩ := J.look
  obtain ⟨_, Z, pp, _⟩ := kit_of I ry ty
  obtain ⟨mm, hF⟩ := I.fr
  exact inplace_fall hF I.ok.mod.kin J (Z.ty _ _ I.kIn pp) hcd hm (beq_iff_eq.mp b2) (beq_iff_eq.mp b3) m.at_ m.fn (wpAny_mono (runOS (vs := [.ref p, y]) F hr hb (hx σ) I I.env0 (.cons rfl (.cons ry .nil)) q) (fun w' s' hq => ep_ref hq) (fun _ _ e => e))
/-- x[i] = v by x's own __setitem__ -/
def rSetO (C : Addr) (sp : Sp) (E : XK) : TSet := fun o i v H Q => ∃ (a dx : Addr) (fs : List (Str × V)), o = .ref a ∧ H a = some (.ins C dx fs) ∧ sp [.ref a, i, v] H (fun _ H' => Q H') E
theorem set_own (nq : PySem.W.noSeq X.K C = true) (m : SpM X.K C g "__setitem__") (F : FnOk X.prog X.w X.K X.mg X.base CX n g fd ps sp) (hr : Room n X.A) (hb : Binds X.K fd ps []) (hx : ∀ σ, PassesAt CX X σ E) : PSet X (rSetO C sp E) := by
  intro pins s σ H o i v ov iv u Q I ro ri rv h
  obtain ⟨p, dx, fs, rfl, hp, q⟩ := h
  cases ro
  obtain ⟨mA, J, _⟩ := ins_get I.hok hp
  obtain ⟨od, J, _⟩ := J.look
  obtain ⟨mm, hF⟩ := I.fr
  refine PySem.W.ksp_setItem hF I.ok.mod.kin J nq m.at_ m.fn (wpAny_mono (runOS (vs := [.ref p, i, v]) F hr hb (hx σ) I I.env0 (.cons rfl (.cons ri (.cons rv .nil))) q) (fun w' s' hq => ?_) (fun _ _ e => e))
  obtain ⟨z, H', I', _, qz⟩ := hq
  exact ⟨H', I', qz⟩
end
theorem passC0 {X : Cx} : ∀ σ, PassesAt CX0 X σ E0 := fun _ _ _ _ _ _ _ h => h.elim
theorem passCL {X : Cx} : ∀ σ, PassesAt (L2.CX X.prog X.w) X σ E0 := passSL
end Vc

/-! Xdk: for k in o, o of an own class whose __iter__ says iter(self.f), f a dict that is locked meanwhile (my own; the way of Xf). -/
namespace Vc
open PySem PySem.Spec PyProof.Rows L2
/-- an iterator over the keys of d, at its start -/
def keyIt (d : Addr) (n ep : Nat) : Obj := { cls := .type "dict_keyiterator", data := .fields #[.ref d, .int 0 0, .int n 0, .int ep 0] }
def KitO (d it : Addr) (o : Obj) : HO := .ext fun h => ∃ es ep, o.data = .dict es ep ∧ h.get? it = some (keyIt d es.size ep)
theorem kitO_ok {P : Program} {w : World} {H : Hp} {h : Heap} {d it : Addr} {o : Obj} {es : Array DictEntry} {ep : Nat} (hd : o.data = .dict es ep) (e : h.get? it = some (keyIt d es.size ep)) : ObjOk P w H h it (KitO d it o) :=
  ⟨⟨es, ep, hd, e⟩, ⟨_, e⟩, fun h1 h2 ⟨a, b, c, q⟩ k => ⟨a, b, c, k _ q⟩⟩
section
variable {prog : Program} {w : World} {A : Around} {E : Value → Shared → Prop} {s : Shared} {d : Addr} {o : Obj} {es : Array DictEntry} {ep : Nat}
theorem call_iterK {Q : Value → Shared → Prop} (hd : (d == sysModules) = false) (ho : s.heap.get? d = some o) (hc : o.ExactDict) (hdat : o.data = .dict es ep) (h : Q (.ref s.heap.objs.size) { s with heap := s.heap.push (keyIt d es.size ep) }) : wpAny (model prog w) A (call (.builtin "iter") [.ref d]) Q E s := by
  refine Calls.call_function_entry (by decide +kernel) (by decide +kernel) PySem.W.kdk_entry_iter (PySem.W.kdk_args_iter _) ?_
  unfold Builtin.«iter»
  refine wpAny_bind (m := someArgs "iter" 1 2 _) (wpAny_of_eq (a := [Value.ref d]) (by first | rfl | kernel_rfl!) ?_)
  show wpAny _ _ (pyIter (.ref d) >>= _) _ _ _
  refine wpAny_bind (iter_keys hd ho hc hdat ?_)
  exact wpAny_pure ⟨_, rfl, h⟩
end
section
variable {X : Cx} {C g : Addr} {fd : FuncData} {ps : List Str} {n : Nat}
/-- iter(d), d a locked dict -/
def rIterK (n : Nat) : List V → Hp → VK → Prop := fun xs H Q => ∃ (d : Addr) (o : Obj) (kvs : List (Key × V)), xs = [.ref d] ∧ H d = some (.frz o (.dK kvs)) ∧ ∀ it, H it = none → n ≤ it → Q (.ref it) (upd H it (KitO d it o))
theorem callr_iterK : CallR X (.builtin "iter") (rIterK X.s_0.heap.objs.size) := by
  intro pins s σ H xs us Q I r h
  obtain ⟨d, o, kvs, rfl, hd, q⟩ := h
  obtain rfl := Vals.ref1 r
  obtain ⟨hs, hgd, hx, es, ep, vs, hdt, hsz, kv, hm⟩ := I.frzK hd
  refine call_iterK hs hgd hx hdt ?_
  exact ⟨.ref s.heap.objs.size, _, I.laid (t' := s.toks) (fun b u e => Heap.get?_push_of_some _ e) (Nat.le_refl _) (kitO_ok hdt (Heap.get?_push_size _ rfl)), rfl, q _ (I.hok.fresh (Nat.le_refl _)) I.sz⟩
/-- __iter__ says iter(self.f), f a dict -/
def spIterK (C : Addr) (F : Str) : Shared → Sp := fun s vs H Q _ => ∃ (a dx d : Addr) (o : Obj) (fs : List (Str × V)) (kvs : List (Key × V)), vs = [.ref a] ∧ H a = some (.ins C dx fs) ∧ fs.lookup F = some (.ref d) ∧ H d = some (.frz o (.dK kvs)) ∧ ∀ it, H it = none → s.heap.objs.size ≤ it → Q (.ref it) (upd H it (KitO d it o))
def iOwnK (C : Addr) (F : Str) (te : TE) : TI := fun σ H R => te σ H fun x H1 => ∃ (a dx d : Addr) (o : Obj) (fs : List (Str × V)) (kvs : List (Key × V)), x = .ref a ∧ H1 a = some (.ins C dx fs) ∧ fs.lookup F = some (.ref d) ∧ H1 d = some (.frz o (.dK kvs)) ∧ R (Itk d o kvs) H1
theorem pi_ownK {tg e : Expr} {te : TE} {F : Str} (he : PE X e te) (G : FnS X.prog X.w X.K X.mg X.base n g fd ps (spIterK C F)) (hr : Room n X.A) (m : SpM X.K C g "__iter__") (hb : Binds X.K fd ps []) : PI X tg e (iOwnK C F te) := by
  refine ⟨fun pins s σ H R I h => ?_⟩
  refine thn (he.run pins s σ H _ I h) fun u s1 ⟨y, H1, I1, ry, a, dx, d, o, fs, kvs, ey, ha, hl, hd, q⟩ => ?_
  subst ey
  obtain rfl : u = Value.ref a := ry
  obtain ⟨mA, J, _⟩ := ins_get I1.hok ha
  obtain ⟨od, J, _⟩ := J.look
  obtain ⟨m0, hF⟩ := I1.fr
  refine PySem.W.owit_iter hF I1.ok.mod.kin J m.at_ m.fn ?_
  refine wpAny_mono (runS (vs := [.ref a]) (EE := fun _ _ => False) (Q := fun v H' => ∃ it, v = .ref it ∧ H1 it = none ∧ s1.heap.objs.size ≤ it ∧ H' = upd H1 it (KitO d it o)) G hr hb I1 I1.env0 (.cons rfl .nil) ⟨a, dx, d, o, fs, kvs, rfl, ha, hl, hd, fun it n1 n2 => ⟨it, rfl, n1, n2, rfl⟩⟩) (fun u s' hq' => ?_) (fun _ _ e => e.elim)
  obtain ⟨z, H', I', rz, it, rfl, n1, n2, rfl⟩ := hq'
  cases rz
  have hi : (upd H1 it (KitO d it o)) it = some (KitO d it o) := upd_same
  obtain ⟨es, ep, hdt, eo⟩ := (I'.hok it _ hi).1
  have hT : s'.TypeIs (.ref it) "dict_keyiterator" := ⟨_, eo, rfl⟩
  unfold PySem.W.OwitIt
  refine wpAny_specialOf (name := Str.ofString "__next__") hT PySem.F.slot_dict_keyiterator_next.lookup ?_
  have hi' := hi
  unfold KitO at hi'
  have dr : ItX.dropH (upd H1 it (KitO d it o)) it = H1 := ItX.dropH_upd n1
  have I2 := ItX.inv_drop I' hi'
  have fp := ItX.inv_fp I' hi (Nat.le_trans I1.sz n2)
  rw [show ItX.dropH (upd H1 it (KitO d it o)) it = H1 from dr] at fp
  have I3 : Inv X pins σ H1 s' := dr ▸ I2
  obtain ⟨_, _, _, es', ep', _, hdt', hsz, _, _⟩ := I3.frzK hd
  have st : s'.heap.IsKeyIter it d 0 kvs.length ep := by
    rw [hdt] at hdt'
    cases hdt'
    refine ⟨_, eo, rfl, ?_⟩
    rw [← hsz] <;> rfl
  exact ⟨it, [it], _, _, H1, rfl, I3, turn_keys it hdt, st, fun b hb => by
    have e : b = it := by simpa using hb
    rw [e]; exact fp, q⟩
end
theorem call_len_seqK {X : Cx} {K : PySem.W.Frag} (h : X.K = K) : CallR X (.builtin "len") (fun xs H Q => ∃ p ys, xs = [.ref p] ∧ (SqL K H p ys ∨ SqT K H p ys) ∧ Q (.int ys.length) H) := h ▸ call_len_seq
end Vc

/-! Xdm: {**a, **b} of two dicts (my own). -/
namespace Vc
open PySem PySem.Spec PyProof.Rows L2
section
variable {prog : Program} {w : World} {K : Type} [DecidableEq K] {knd : KeyKind prog w K} {A : Around} {E : Value → Shared → Prop} {s : Shared}
theorem dictPut_pairs {d : Addr} {kvs : List (K × Value)} {k : K} {key v : Value} {Q : Unit → Shared → Prop} (hkey : knd.is k key = true) (hm : s.heap.DictOf knd d kvs)
    (hQ : ∀ h', h'.DictOf knd d (stored kvs k v) → Heap.SameBut d s.heap h' → Q () { s with heap := h' }) (hsz : kvs.length ≤ sizeLine) :
    wpAny (model prog w) A (dictPut d (knd.hash k) key v) Q E s := by
  obtain ⟨o, es, ep, ho, hc, hd, hk, hp, hn⟩ := hm
  have sz : es.size ≤ sizeLine := by
    have := hp.length
    have : es.toList.length = es.size := Array.length_toList
    omega
  have same : (es.toList.findIdx? fun e => knd.is k e.key) = kvs.findIdx? fun kv => decide (kv.1 = k) := hp.findIdx k
  have same' : (es.findIdx? fun e => knd.is k e.key) = kvs.findIdx? fun kv => decide (kv.1 = k) := by
    rw [← same]
    cases es
    simp
  unfold dictPut
  refine wpAny_bind (wpAny_dictFind_of hkey ho hd hk ?_)
  cases hi : es.findIdx? fun e => knd.is k e.key with
  | some i =>
    have was : (kvs.any fun kv => decide (kv.1 = k)) = true := any_of_findIdx_some (same' ▸ hi)
    have eS : stored kvs k v = kvs.map (fun kv => if kv.1 = k then (kv.1, v) else kv) := by unfold stored; rw [if_pos was]
    refine wpAny_updateDict ho hd (hQ _ ⟨_, _, ep, Heap.get?_update_self _ ho (Obj.isFreed_of_dict (Obj.data_mapDict hd _)), hc.mapDict _, Obj.data_mapDict hd _, hk.modify _ _, ?_, ?_⟩ (Heap.SameBut.update ..))
    · rw [eS]
      have := hp.modify hn (same.trans (same'.symm.trans hi)) v
      cases es
      simpa using this
    · rw [eS, keys_map_store]; exact hn
  | none =>
    have fresh : k ∉ kvs.map (·.1) := not_mem_of_findIdx_none (same' ▸ hi)
    have eS : stored kvs k v = kvs ++ [(k, v)] := by
      unfold stored
      rw [if_neg]
      rw [List.any_eq_true]
      rintro ⟨kv, h1, h2⟩
      exact fresh (List.mem_map.mpr ⟨kv, h1, of_decide_eq_true h2⟩)
    refine wpAny_updateDictKeys (hz := sz) ho hd (hQ _ ⟨_, _, ep + 1, Heap.get?_update_self _ ho (Obj.isFreed_of_dict (Obj.data_mapDictKeys hd _)), hc.mapDictKeys _, Obj.data_mapDictKeys hd _, hk.push hkey _, ?_, ?_⟩ (Heap.SameBut.update ..))
    · rw [eS]
      have := hp.append hkey (knd.hash k) v
      cases es
      simpa using this
    · rw [eS, List.map_append, List.nodup_append]
      exact ⟨hn, List.nodup_cons.mpr ⟨List.not_mem_nil, .nil⟩, fun x hx y hy e => fresh (by have : y = k := List.mem_singleton.mp hy; rw [← this, ← e]; exact hx)⟩
/-- the keys of these dicts are no objects -/
def KeysPlain (es : Array DictEntry) : Prop := ∀ e ∈ es, ∀ a : Addr, e.key ≠ .ref a
/-- {.., **o}: the pairs of o are put into d -/
theorem merge_dict {d o : Addr} {kvs more : List (K × Value)} {Q : Unit → Shared → Prop} (hdo : d ≠ o) (hoS : (o == sysModules) = false) (pl : ∀ (ob : Obj) (es : Array DictEntry) (ep : Nat), s.heap.get? o = some ob → ob.data = .dict es ep → KeysPlain es)
    (hd : s.heap.DictOf knd d kvs) (ho : s.heap.DictOf knd o more) (hsz : kvs.length + more.length ≤ sizeLine)
    (hQ : ∀ h', h'.DictOf knd d (merged kvs more) → h'.DictOf knd o more → Heap.SameBut d s.heap h' → Q () { s with heap := h' }) :
    wpAny (model prog w) A (mergeMapping d (.ref o) false) Q E s := by
  obtain ⟨od, esd, epd, hod, hcd, hdd, hkd, hpd, hnd⟩ := id hd
  obtain ⟨oo, eso, epo, hoo, hco, hdo', hko, hpo, hno⟩ := id ho
  have plain := pl _ _ _ hoo hdo'
  clear pl
  unfold mergeMapping
  refine wpAny_bind (wpAny_isInstance ho.typeIs isSubtype_dict_dict ?_)
  simp only [if_true]
  refine wpAny_bind (wpAny_specialOf ho.typeIs PySem.F.slot_dict_iter.lookup ?_)
  refine wpAny_bind (wpAny_pure ?_)
  rw [show (some (Value.builtin "dict.__iter__") == some (Value.builtin "dict.__iter__")) = true from by simp]
  show wpAny _ _ (if (o == sysModules) = true then _ else _) _ _ s
  rw [if_neg (by rw [hoS]; exact Bool.false_ne_true)]
  refine wpAny_bind (wpAny_dictEntries hod hdd ?_)
  have hlen : more.length = eso.size := by
    have := hpo.length
    rw [← this, Array.length_toList]
  split
  case' isTrue =>
    refine wpAny_bind (wpAny_dictEntries hoo hdo' ?_)
    refine wpAny_bind ?_
    rw [← Array.forIn_toList]
    refine wpAny_forIn_list _ (fun rest _ s' => s' = s ∧ ∀ e ∈ rest, e ∈ eso) _ ?_ ?_ _ _ ⟨rfl, fun e he => Array.mem_toList_iff.mp he⟩
    · intro e rest b s' hs
      obtain ⟨es, hm⟩ := hs
      subst es
      have hk := plain e (hm e List.mem_cons_self)
      cases q : e.key with
      | ref a => exact (hk a q).elim
      | _ => exact wpAny_pure ⟨rfl, fun x hx => hm x (List.mem_cons_of_mem _ hx)⟩
    intro b s' hs
    obtain ⟨es, _⟩ := hs
    have es := es.symm
    subst es
  all_goals
    refine wpAny_bind (wpAny_dictEntries hoo hdo' ?_)
    refine wpAny_bind (wpAny_dictEpoch hoo hdo' ?_)
    refine wpAny_bind ?_
    rw [List.range_eq_range']
    refine wpAny_forIn_list _ (fun rest _ t => ∃ (g : Heap) (i : Nat), t = { s with heap := g } ∧ rest = List.range' i (eso.size - i) ∧ i ≤ eso.size ∧ g.DictOf knd d (merged kvs (more.take i)) ∧ g.get? o = some oo ∧ Heap.SameBut d s.heap g) _ ?_ ?_ _ _
      ⟨s.heap, 0, rfl, by rw [Nat.sub_zero], Nat.zero_le _, by rw [List.take_zero]; exact hd, hoo, Heap.SameBut.refl _ _⟩
    · rintro x rest b t ⟨g, i, rfl, hr, hi, hg, hgo, hs⟩
      have lt : i < eso.size := by
        rcases Nat.lt_or_ge i eso.size with h | h
        · exact h
        · rw [Nat.sub_eq_zero_of_le h] at hr
          cases hr
      rw [show eso.size - i = (eso.size - (i + 1)) + 1 by omega, List.range'_succ] at hr
      injection hr with h1 h2
      subst h1
      obtain ⟨kv, hkv⟩ : ∃ kv, more[x]? = some kv := ⟨more[x]'(by omega), List.getElem?_eq_getElem (by omega)⟩
      obtain ⟨k, v⟩ := kv
      obtain ⟨hkey, hval⟩ := hpo.get? (e := eso[x]) (by simp [lt]) hkv
      obtain ⟨k', hkey', hhash⟩ := hko eso[x] (Array.getElem_mem lt)
      obtain rfl : k' = k := knd.inj _ _ _ hkey' hkey
      have small : (merged kvs (more.take x)).length ≤ sizeLine := by
        have a1 := merged_length_le kvs (more.take x)
        have a2 := List.length_take_le x more
        have a3 : (more.take x).length ≤ more.length := by rw [List.length_take]; omega
        omega
      refine wpAny_bind (wpAny_dictEntries hgo hdo' ?_)
      rw [Array.getElem?_eq_getElem lt]
      dsimp only
      refine wpAny_bind (m := holding _ _) (wpAny_holding ?_)
      rw [if_neg Bool.false_ne_true, hhash, hval]
      refine dictPut_pairs hkey hg (fun g2 hg2 hs2 => ?_) small
      have hgo2 : g2.get? o = some oo := (hs2.2 o (Ne.symm hdo)).trans hgo
      refine wpAny_bind (wpAny_dictEpoch hgo2 hdo' ?_)
      rw [if_neg (by simp)]
      exact wpAny_pure ⟨g2, x + 1, rfl, h2, lt, by rw [merged_take_succ kvs more x (k', v) hkv]; exact hg2, hgo2, hs.trans hs2⟩
    · rintro b t ⟨g, i, rfl, hr, hi, hg, hgo, hs⟩
      have ei : i = eso.size := by
        rcases Nat.lt_or_ge i eso.size with h | h
        · rw [show eso.size - i = (eso.size - (i + 1)) + 1 by omega, List.range'_succ] at hr
          cases hr
        · omega
      rw [ei, ← hlen, List.take_length] at hg
      exact wpAny_pure (hQ g hg ⟨oo, eso, epo, hgo, hco, hdo', hko, hpo, hno⟩ hs)
end
theorem keys_plain {P : Program} {w : World} {h : Heap} {a : Addr} {vs : List (Key × Value)} (d : h.DictOf (mixKind P w) a vs) (ob : Obj) (es : Array DictEntry) (ep : Nat) (ho : h.get? a = some ob) (hd : ob.data = .dict es ep) : KeysPlain es := by
  obtain ⟨o, es', ep', h1, h2, h3, h4, _⟩ := d
  rw [ho] at h1
  obtain rfl := Option.some.inj h1
  rw [hd] at h3
  obtain ⟨rfl, _⟩ := Data.dict.inj h3
  intro e he b hb
  obtain ⟨k, hk, _⟩ := h4 e he
  rcases keyIs_shape hk with ⟨i, t, _, q⟩ | ⟨x, t, _, q⟩ <;> (rw [hb] at q; cases q)
theorem kv_len : ∀ {kvs : List (Key × V)} {vs : List (Key × Value)}, KV kvs vs → kvs.length = vs.length := fun h => Paired.length h
/-- one merge, told of the abstract heap -/
theorem merge_step {X : Cx} {pins : List (Addr × Obj)} {σ : L2.St} {H : Hp} {s : Shared} {A : Around} {E : Value → Shared → Prop} {Q : Unit → Shared → Prop} {p a : Addr} {ks ls : List (Key × V)} (I : Inv X pins σ H s) (hp : H p = some (.dK ks)) (ha : H a = some (.dK ls)) (ne : a ≠ p) (few : ks.length + ls.length ≤ sizeLine)
    (h : ∀ s', Inv X pins σ (upd H p (.dK (mergeK ks ls))) s' → Q () s') : wpAny (model X.prog X.w) A (mergeMapping p (.ref a) false) Q E s := by
  obtain ⟨_, hd, vs0, r0, d0⟩ := dk_of I.hok hp
  obtain ⟨_, hs, vs1, r1, d1⟩ := dk_of I.hok ha
  refine merge_dict (Ne.symm ne) hs (fun ob es ep h1 h2 => keys_plain d1 ob es ep h1 h2) d0 d1 (by rw [← kv_len r0, ← kv_len r1]; exact few) fun h' dd _ sm => h _ ?_
  have he : ∃ q, h'.get? p = some q := let ⟨q, _, _, hq, _⟩ := dd; ⟨q, hq⟩
  have hz : (mergeK ks ls).length ≤ sizeLine := Nat.le_trans (length_mergeK ls ks) few
  exact d_write I (by rw [hp]; exact True.intro) sm he (dk_new hz hd (r1.merge r0) dd)
/-- {**a, **b} -/
def tMrg (ta tb : TE) : TE := fun σ H Q => ∀ p, H p = none → ta σ (upd H p (.dK [])) fun x H1 => H1 p = some (.dK []) ∧ ∃ a ks, x = .ref a ∧ a ≠ p ∧ H1 a = some (.dK ks) ∧
  tb σ (upd H1 p (.dK (mergeK [] ks))) fun y H2 => H2 p = some (.dK (mergeK [] ks)) ∧ ∃ b ls, y = .ref b ∧ b ≠ p ∧ H2 b = some (.dK ls) ∧ ks.length + ls.length ≤ 1000 ∧ Q (.ref p) (upd H2 p (.dK (mergeK (mergeK [] ks) ls)))
theorem pe_mrg {X : Cx} {pos : Pos} {a b : Expr} {ta tb : TE} (ha : PE X a ta) (hb : PE X b tb) : PE X (.Dict [none, none] [a, b] pos) (tMrg ta tb) := by
  refine ⟨fun pins s σ H Q I q => ?_⟩
  have hn := I.hok.fresh (Nat.le_refl s.heap.objs.size)
  have I1 := I.laid (a := s.heap.objs.size) (o := .dK []) (h' := s.heap.push { cls := .type "dict", data := .dict #[] }) (t' := s.toks) (fun _ _ q => Heap.get?_push_of_some _ q) (Nat.le_refl _) (dk_empty s.heap I.big)
  have q := q _ hn
  show wpAny _ _ (standAt pos >>= fun _ => dictDisplay [(none, (eval a X.env >>= fun x => standAt pos >>= fun _ => pure x)), (none, (eval b X.env >>= fun x => standAt pos >>= fun _ => pure x))]) _ _ s
  refine wpAny_bind (wpAny_standAt ?_)
  unfold dictDisplay
  simp only [List.forIn_cons, List.forIn_nil, List.isEmpty_nil, if_true, pure_bind, bind_assoc]
  refine wpAny_bind (wpAny_alloc ?_)
  refine wpAny_bind (wpAny_holding (wpAny_bind (thn (ha.run pins _ σ _ _ I1 q) fun u s1 ⟨x, H1, I2, rx, e1, a1, ks, ex, na, ea, q1⟩ => wpAny_bind (wpAny_standAt (wpAny_pure ?_)))))
  subst ex
  obtain rfl : u = Value.ref a1 := rx
  have f1 : ks.length ≤ sizeLine := (dk_of I2.hok ea).1
  refine wpAny_bind (wpAny_onRaise (wpAny_tryCatch (wpAny_onRaise (wpAny_holding (merge_step I2 e1 ea na (by rw [List.length_nil, Nat.zero_add]; exact f1) fun s2 I3 => ?_)))))
  refine wpAny_bind (wpAny_holding (wpAny_bind (thn (hb.run pins _ σ _ _ I3 q1) fun u s3 ⟨y, H2, I4, ry, e2, b1, ls, ey, nb, eb, few, q2⟩ => wpAny_bind (wpAny_standAt (wpAny_pure ?_)))))
  subst ey
  obtain rfl : u = Value.ref b1 := ry
  have f2 : (mergeK [] ks).length + ls.length ≤ sizeLine := by
    have := length_mergeK ks []
    rw [List.length_nil] at this
    rw [sizeLine_eq]; omega
  refine wpAny_bind (wpAny_onRaise (wpAny_tryCatch (wpAny_onRaise (wpAny_holding (merge_step I4 e2 eb nb f2 fun s5 I5 => ?_)))))
  exact wpAny_pure ⟨.ref s.heap.objs.size, _, I5, rfl, q2⟩
end Vc

/-! Xcm: x(..) where x is a local that holds a class; a classmethod called that may raise. -/
namespace Vc
open PySem PySem.Spec PyProof.Rows L2
section
variable {X : Cx} {CX : CXT} {k : Nat} {f g C p : Addr} {mc : Value} {fd : FuncData} {ps : List Str} {sp : Sp} {E : L2.St → XK} {x m : Str} {o e : Expr} {es : List Expr} {tf ta : TE} {t : TA} {np apos pos : Pos} {pl : Sem Bool} {pins : List (Addr × Obj)} {σ : L2.St} {H : Hp} {s : Shared}
/-- x(..), x holds the class at C -/
def tMakeC (C : Addr) (sp : Sp) (E : L2.St → XK) (tf : TE) (t : TA) : TE := fun σ H Q => tf σ H fun x H1 => x = .ref C ∧ tMakeS C sp E t σ H1 Q
theorem pe_makeC (M : Mk X.K C f) (F : FnOk X.prog X.w X.K X.mg X.base CX k f fd ps sp) (hr : Room (k + 1) X.A) (hb : Binds X.K fd ps []) (hx : ∀ σ, PassesAt CX X σ (E σ)) (hf : PE X (.Name x np) tf)
    (ha : PA X (e :: es) t) (he : starEach (e :: es) X.env = (false, eval e X.env) :: starEach es X.env := by rfl) (hpl : (backTo pos (starEach es X.env)).any (·.1) = false := by rfl) :
    PE X (.Call (.Name x np) (e :: es) [] pos) (tMakeC C sp E tf t) := by
  refine ⟨fun pins s σ H Q I h => ?_⟩
  refine wpAny_Call_Name_kw (thn (hf.run pins s σ H _ I h) fun u s1 ⟨y, H1, I1, ry, ey, q⟩ => ?_)
  subst ey
  obtain rfl : u = Value.ref C := ry
  refine PySem.W.callWith_K (h₀ := X.base) I1.ok.mod.kin M.kp (thn (ha.run pos pins s1 σ H1 _ I1 q) fun us s2 ⟨vs, H2, I2, r, q2⟩ => ⟨I2.kIn, ?_⟩) he hpl
  exact run_makeS M F hr hb (hx σ) I2 r q2
theorem run_fnRS {Q : VK} {E : XK} {us : List Value} {vs : List V} (F : FnR X.prog X.w X.K X.mg X.base CX k g sp) (hr : Room k X.A) (hx : PassesAt CX X σ E) (I : Inv X pins σ H s) (r : Vals vs us) (h : sp vs H Q E) :
    codeAny (model X.prog X.w) X.A (.call (.ref g) ⟨us, []⟩) (fun r s' => match r with | .ok (.ret v) => EP X pins σ Q v s' | .ok _ => False | .error e => X.xe e s') s := by
  refine codeAny_mono (F X.A X.stack s H us vs Q E hr I.env0 r h) fun r s' hq => ?_
  cases r with
  | error e => exact hx pins H s e s' I hq
  | ok fl =>
    cases fl with
    | ret u => exact I.after hq
    | next => exact False.elim hq
    | brk => exact False.elim hq
    | cont => exact False.elim hq
/-- the call of a class's bound method; what it raises passes at these slots -/
theorem run_cmS {q : Addr} {E : XK} {Q : VK} {us : List Value} {vs : List V} (F : FnR X.prog X.w X.K X.mg X.base CX k g sp) (hr : Room k X.A) (hx : PassesAt CX X σ E) (I : Inv X ((q, PySem.W.methodObj (.ref g) (.ref C)) :: pins) σ H s)
    (r : Vals vs us) (h : sp (.ref C :: vs) H Q E) : wpAny (model X.prog X.w) X.A (call (.ref q) us) (EP X pins σ Q) X.xe s := by
  have z : wpAny (model X.prog X.w) X.A (call (.ref q) us) (EP X ((q, PySem.W.methodObj (.ref g) (.ref C)) :: pins) σ Q) X.xe s :=
    wpAny_call (PySem.W.method_call (ClX.pin_at I) (run_fnRS (us := .ref C :: us) (vs := .ref C :: vs) F hr hx I (.cons rfl r) h))
  exact thn z fun _ _ y => ClX.unpinE y
/-- e.m(..), e the class at C, m a classmethod; what it raises is wished at the caller's slots -/
def tCMethS (C : Addr) (sp : Sp) (E : L2.St → XK) (ta : TE) (t : TA) : TE := fun σ H Q => ta σ H fun x H1 => x = .ref C ∧ t σ H1 fun vs H2 => sp (.ref C :: vs) H2 Q (E σ)
theorem pe_cmethS (he : PE X o ta) (r : ClX.CRead X.K C mc) (c : ClX.CMet X.K C mc m p g) (F : FnR X.prog X.w X.K X.mg X.base CX k g sp) (hr : Room k X.A) (hx : ∀ σ, PassesAt CX X σ (E σ)) (ha : PA X (e :: es) t)
    (hst : starEach (e :: es) X.env = (false, eval e X.env) :: starEach es X.env := by rfl) (hpl : (backTo pos (starEach es X.env)).any (·.1) = false := by rfl)
    (ht : eval (.Call (.Attribute o m apos) (e :: es) [] pos) X.env = (do
      let ov ← eval o X.env
      standAt apos.atName
      let (f, first) ← holding [ov] (getMethod ov m pl)
      callWith pos f first (backTo pos (starEach (e :: es) X.env)) (backToKw pos (keywordEach [] X.env))) := by rfl) :
    PE X (.Call (.Attribute o m apos) (e :: es) [] pos) (tCMethS C sp E ta t) := by
  refine ⟨fun pins s σ H Q I h => ?_⟩
  refine PySem.W.methodCall_KW (pl := pl) (thn (he.run pins s σ H _ I h) fun u s1 ⟨x, H1, I1, rx, ex, q⟩ => ?_) ht
  subst ex
  obtain rfl : u = Value.ref C := rx
  refine ClX.getmethcm_ok I1 r c fun s2 I2 => ?_
  refine ClX.callwith_cm I2 (ClX.base_none I1 (Nat.le_refl _)) c.fi (thn (ha.run pos _ s2 σ H1 _ I2 q) fun us s3 ⟨vs, H2, I3, rv, q2⟩ => ⟨⟨ClX.pin_at I3, I3.kIn⟩, ?_⟩) hst hpl
  exact run_cmS F hr (hx σ) I3 rv q2
end
/-- C.m(..), m a staticmethod; what it raises is wished at the caller's slots -/
def tSMethS (C : Addr) (sp : Sp) (E : L2.St → XK) (ta : TE) (t : TA) : TE := fun σ H Q => ta σ H fun x H1 => x = .ref C ∧ t σ H1 fun vs H2 => sp vs H2 Q (E σ)
section
variable {X : Cx} {CX : CXT} {k : Nat} {g C p : Addr} {mc : Value} {fd : FuncData} {ps : List Str} {sp : Sp} {E : L2.St → XK} {m : Str} {o e : Expr} {es : List Expr} {ta : TE} {t : TA} {apos pos : Pos} {pl : Sem Bool}
theorem pe_smethS (he : PE X o ta) (r : ClX.CRead X.K C mc) (c : SMet X.K C mc m p g) (F : FnOk X.prog X.w X.K X.mg X.base CX k g fd ps sp) (hr : Room k X.A) (hb : Binds X.K fd ps []) (hx : ∀ σ, PassesAt CX X σ (E σ)) (ha : PA X (e :: es) t)
    (hst : starEach (e :: es) X.env = (false, eval e X.env) :: starEach es X.env := by rfl) (hpl : (backTo pos (starEach es X.env)).any (·.1) = false := by rfl)
    (ht : eval (.Call (.Attribute o m apos) (e :: es) [] pos) X.env = (do
      let ov ← eval o X.env
      standAt apos.atName
      let (f, first) ← holding [ov] (getMethod ov m pl)
      callWith pos f first (backTo pos (starEach (e :: es) X.env)) (backToKw pos (keywordEach [] X.env))) := by rfl) :
    PE X (.Call (.Attribute o m apos) (e :: es) [] pos) (tSMethS C sp E ta t) := by
  refine ⟨fun pins s σ H Q I h => ?_⟩
  refine PySem.W.methodCall_KW (pl := pl) (thn (he.run pins s σ H _ I h) fun u s1 ⟨x, H1, I1, rx, ex, q⟩ => ?_) ht
  subst ex
  obtain rfl : u = Value.ref C := rx
  refine getsm_ok I1 r c fun s2 I2 => ?_
  refine PySem.W.callWith_K (first := []) (h₀ := X.base) I.ok.mod.kin c.kp (thn (ha.run pos pins s2 σ H1 _ I2 q) fun us s3 ⟨vs, H2, I3, r3, q2⟩ => ⟨I3.kIn, ?_⟩) hst hpl
  exact run_fnS F hr hb (hx σ) I3 r3 q2
end
section
variable {σ : L2.St} {H : Hp} {Q : VK} {tf ta : TE} {ts : TA} {C : Addr} {sp : Sp} {E : L2.St → XK}
theorem go_smethS (h : ta σ H fun x H1 => x = .ref C ∧ ts σ H1 fun vs H2 => sp vs H2 Q (E σ)) : tSMethS C sp E ta ts σ H Q := h
theorem go_makeC (h : tf σ H fun x H1 => x = .ref C ∧ tMakeS C sp E ts σ H1 Q) : tMakeC C sp E tf ts σ H Q := h
theorem go_cmethS (h : ta σ H fun x H1 => x = .ref C ∧ ts σ H1 fun vs H2 => sp (.ref C :: vs) H2 Q (E σ)) : tCMethS C sp E ta ts σ H Q := h
end
/-! ### dicts of ints compared: either answer -/
/-- a dict's items, ints to ints -/
def kvI (l : List (Int × Int)) : List (Key × V) := l.map fun q => (.inl q.1, .int q.2)
/-- as == tells of two dicts -/
def eqI (k l : List (Int × Int)) : Bool := k.length == l.length && k.all fun q => decide (valV (kvI l) (.inl q.1) = some (V.int q.2))
theorem kvI_int {l : List (Int × Int)} {k : Key} {u : V} (h : valV (kvI l) k = some u) : ∃ j, u = .int j := by
  unfold valV at h
  obtain ⟨p, hp, rfl⟩ := Option.map_eq_some_iff.mp h
  obtain ⟨q, _, rfl⟩ := List.mem_map.mp (List.mem_of_find?_eq_some hp)
  exact ⟨_, rfl⟩
theorem hits_int {X : Cx} {pins : List (Addr × Obj)} {σ : L2.St} {H : Hp} {s : Shared} (I : Inv X pins σ H s) {A : Around} (hu : A.in1.units + 64 < cLine) {l : List (Int × Int)} {vb : List (Key × Value)} (rb : KV (kvI l) vb) :
    ∀ {k : List (Int × Int)} {va : List (Key × Value)}, KV (kvI k) va → PySem.W.KeqHits A.in1 s vb va (k.all fun q => decide (valV (kvI l) (.inl q.1) = some (V.int q.2)))
  | [], va, h => by
    cases h
    exact .nil
  | q :: k, va, h => by
    unfold KV kvI at h
    rw [List.map_cons] at h
    cases h with
    | @cons _ z _ va h1 h2 =>
      obtain ⟨ek, rv⟩ := h1
      obtain ⟨key, v⟩ := z
      have ek : (Sum.inl q.1 : Key) = key := ek
      subst ek
      have rest := hits_int I (A := A) hu rb (k := k) (va := va) h2
      have rr := rb.val (Sum.inl q.1)
      rw [List.all_cons]
      cases e : valV (kvI l) (.inl q.1) with
      | none =>
        rw [e] at rr
        rw [show decide ((none : Option V) = some (V.int q.2)) = false from rfl, Bool.false_and]
        exact .miss rr.none_of
      | some u =>
        obtain ⟨j, rfl⟩ := kvI_int e
        rw [e] at rr
        obtain ⟨y, hy, ry⟩ := rr.some_of
        obtain ⟨as, r1⟩ := Dp.reads I (.int q.2) _ _ (.int q.2) rv
        obtain ⟨bs, r2⟩ := Dp.reads I (.int j) _ _ (.int j) ry
        have eq := PySem.W.keq_at (A := A) r1 r2 rfl rfl hu
        have ee : decide ((some (V.int j) : Option V) = some (V.int q.2)) = PyData.eqv (.int q.2) (.int j) := by
          show _ = (q.2 == j)
          by_cases z : j = q.2
          · subst z
            simp
          · have : ¬ (q.2 = j) := fun y => z y.symm
            simp [z, this]
        rw [ee]
        exact .hit hy eq rest
def rDI (neg : Bool) : R2 := fun x y H Q => ∃ a c ks ls, x = .ref a ∧ y = .ref c ∧ H a = some (.dK (kvI ks)) ∧ H c = some (.dK (kvI ls)) ∧ Q (.bl (if neg then !eqI ks ls else eqI ks ls)) H
theorem op_eqDI {X : Cx} (hu : X.A.units + 66 < cLine) : OpR X (compareOp .Eq) (rDI false) := by
  intro pins s σ H x y v u Q I rx ry h
  obtain ⟨a, b, ks, ls, rfl, rfl, ea, eb, q⟩ := h
  obtain rfl : v = Value.ref a := rx
  obtain rfl : u = Value.ref b := ry
  obtain ⟨_, ya, va, ra, da⟩ := (show ObjOk X.prog X.w H s.heap a (.dK (kvI ks)) from I.hok a _ ea)
  obtain ⟨_, yb, vb, rb, db⟩ := (show ObjOk X.prog X.w H s.heap b (.dK (kvI ls)) from I.hok b _ eb)
  have la : va.length = ks.length := by rw [← ra.length]; exact List.length_map _
  have lb : vb.length = ls.length := by rw [← rb.length]; exact List.length_map _
  exact PySem.W.keq_eq (knd := mixKind X.prog X.w) ya yb da db (by omega) (fun _ => hits_int I (by show X.A.units + 1 + 64 < cLine; omega) rb ra) (fin_bl I q (by rw [la, lb]; rfl))
theorem op_neDI {X : Cx} (hu : X.A.units + 66 < cLine) : OpR X (compareOp .NotEq) (rDI true) := by
  intro pins s σ H x y v u Q I rx ry h
  obtain ⟨a, b, ks, ls, rfl, rfl, ea, eb, q⟩ := h
  obtain rfl : v = Value.ref a := rx
  obtain rfl : u = Value.ref b := ry
  obtain ⟨_, ya, va, ra, da⟩ := (show ObjOk X.prog X.w H s.heap a (.dK (kvI ks)) from I.hok a _ ea)
  obtain ⟨_, yb, vb, rb, db⟩ := (show ObjOk X.prog X.w H s.heap b (.dK (kvI ls)) from I.hok b _ eb)
  have la : va.length = ks.length := by rw [← ra.length]; exact List.length_map _
  have lb : vb.length = ls.length := by rw [← rb.length]; exact List.length_map _
  exact PySem.W.keq_ne (knd := mixKind X.prog X.w) ya yb da db (by omega) (fun _ => hits_int I (by show X.A.units + 1 + 64 < cLine; omega) rb ra) (fin_bl I q (by rw [la, lb]; rfl))
/-! what eqI says -/
theorem kvI_mem {l : List (Int × Int)} {q : Int × Int} (nd : (l.map (·.1)).Nodup) (hq : q ∈ l) : valV (kvI l) (.inl q.1) = some (.int q.2) := by
  induction l with
  | nil => cases hq
  | cons x r ih =>
    rw [List.map_cons, List.nodup_cons] at nd
    unfold valV kvI
    rw [List.map_cons, List.find?_cons]
    by_cases e : x.1 = q.1
    · have : x = q := by
        rcases List.mem_cons.mp hq with h | h
        · exact h.symm
        · exact (nd.1 (e ▸ List.mem_map.mpr ⟨q, h, rfl⟩)).elim
      subst this
      simp
    · have h2 : q ∈ r := (List.mem_cons.mp hq).resolve_left fun z => e (by rw [z])
      have n : ¬ (decide ((Sum.inl x.1 : Key) = Sum.inl q.1) = true) := fun z => e (Sum.inl.inj (of_decide_eq_true z))
      rw [show decide ((Sum.inl x.1 : Key) = Sum.inl q.1) = false from Bool.eq_false_iff.mpr n]
      exact ih nd.2 h2
theorem eqI_refl {l : List (Int × Int)} (nd : (l.map (·.1)).Nodup) : eqI l l = true := by
  unfold eqI
  rw [beq_self_eq_true, Bool.true_and, List.all_eq_true]
  exact fun q hq => decide_eq_true (kvI_mem nd hq)

theorem eqI_sub {k l : List (Int × Int)} (h : eqI k l = true) : k.length = l.length ∧ ∀ q ∈ k, q ∈ l := by
  unfold eqI at h
  rw [Bool.and_eq_true, List.all_eq_true] at h
  refine ⟨of_decide_eq_true h.1, fun q hq => ?_⟩
  have z := of_decide_eq_true (h.2 q hq)
  unfold valV at z
  obtain ⟨p, hp, e⟩ := Option.map_eq_some_iff.mp z
  obtain ⟨y, hy, rfl⟩ := List.mem_map.mp (List.mem_of_find?_eq_some hp)
  have e1 := List.find?_some hp
  have e1 : y.1 = q.1 := Sum.inl.inj (of_decide_eq_true e1)
  have e2 : y.2 = q.2 := V.int.inj e
  rw [← show y = q from Prod.ext e1 e2]
  exact hy
end Vc

/-! Xh: the end of a law over a head by one kernel run: what stands behind the top is told by Bools over a part of the heap and by the parts of each def (my own). -/
namespace Hx
open PySem PySem.Spec PyProof.Rows L2
/-! ### Bools over the part -/
def chk (l : List (PySem.W.Frag → Bool)) (K : PySem.W.Frag) : Bool := l.all fun f => f K
theorem fact {l : List (PySem.W.Frag → Bool)} {K : PySem.W.Frag} (h : chk l K = true) (i : Nat) {f : PySem.W.Frag → Bool} (e : l[i]? = some f) : f K = true := List.all_eq_true.mp h f (List.mem_of_getElem? e)
theorem chk_app {a b : List (PySem.W.Frag → Bool)} {K : PySem.W.Frag} (h : chk (a ++ b) K = true) : chk a K = true ∧ chk b K = true := by
  have h1 : (a ++ b).all (fun f => f K) = true := h
  rw [List.all_append] at h1
  exact Bool.and_eq_true_iff.mp h1
theorem app_chk {a b : List (PySem.W.Frag → Bool)} {K : PySem.W.Frag} (h1 : chk a K = true) (h2 : chk b K = true) : chk (a ++ b) K = true := by
  show (a ++ b).all (fun f => f K) = true
  rw [List.all_append]
  exact Bool.and_eq_true_iff.mpr ⟨h1, h2⟩
/-! ### defs -/
structure Dq where
  a : Addr
  name : Str
  qual : Str
  params : Arguments
  body : List Stmt
  scope : Scope
  clo : List (Str × Addr)
abbrev FnQ : Type := Option (Str × Str × Arguments × FuncBody × Scope × Addr × List (Str × Addr) × Addr)
def fnQ (K : PySem.W.Frag) (d : Dq) : FnQ := match K.lookup d.a with
  | some ⟨_, _, .func fd, _⟩ => some (fd.name, fd.qualname, fd.params, fd.body, fd.scope, fd.globals, fd.closure, fd.builtins)
  | _ => none
def Dq.val (d : Dq) : FnQ := some (d.name, d.qual, d.params, .stmts d.body, d.scope, mainGlobals, d.clo, builtinsNs)
def fdB (K : PySem.W.Frag) (a : Addr) (p : FuncData → Bool) : Bool := match K.lookup a with
  | some ⟨_, _, .func fd, _⟩ => p fd
  | _ => false
def nonV : Value → Bool
  | .none => true
  | _ => false
def refB (n : Addr) : Value → Bool
  | .ref a => a == n
  | _ => false
theorem nonV_ok {v : Value} (h : nonV v = true) : v = .none := by cases v <;> first | rfl | cases h
theorem refB_ok {n : Addr} {v : Value} (h : refB n v = true) : v = .ref n := by
  cases v with
  | ref a => rw [beq_iff_eq.mp (show (a == n) = true from h)]
  | _ => cases h
theorem ba {a b : Bool} (h : (a && b) = true) : a = true ∧ b = true := Bool.and_eq_true_iff.mp h
theorem at_map {fn : List Dq} {K : PySem.W.Frag} (e : fn.map (fnQ K) = fn.map Dq.val) (i : Nat) {d : Dq} (h : fn[i]? = some d) : fnQ K d = d.val := by
  have e2 : (fn.map (fnQ K))[i]? = (fn.map Dq.val)[i]? := by rw [e]
  rw [List.getElem?_map, List.getElem?_map, h] at e2
  exact Option.some.inj e2
theorem fq {K : PySem.W.Frag} {d : Dq} {p : FuncData → Bool} (e : fnQ K d = d.val) (c : fdB K d.a p = true) :
    ∃ fd oc od sl, K.lookup d.a = some ⟨oc, od, .func fd, sl⟩ ∧ p fd = true ∧ fd.name = d.name ∧ fd.qualname = d.qual ∧ fd.params = d.params ∧ fd.body = .stmts d.body ∧ fd.scope = d.scope ∧ fd.globals = mainGlobals ∧ fd.closure = d.clo ∧ fd.builtins = builtinsNs := by
  unfold fdB at c
  unfold fnQ at e
  cases q : K.lookup d.a with
  | none =>
    rw [q] at c
    cases c
  | some o =>
    obtain ⟨oc, od, dt, osl⟩ := o
    rw [q] at c e
    cases dt with
    | func fd =>
      have e2 : (some (fd.name, fd.qualname, fd.params, fd.body, fd.scope, fd.globals, fd.closure, fd.builtins) : FnQ) = some (d.name, d.qual, d.params, .stmts d.body, d.scope, mainGlobals, d.clo, builtinsNs) := e
      simp only [Option.some.injEq, Prod.mk.injEq] at e2
      obtain ⟨h1, h2, h3, h4, h5, h6, h7, h8⟩ := e2
      exact ⟨fd, oc, od, osl, rfl, c, h1, h2, h3, h4, h5, h6, h7, h8⟩
    | _ => cases c
def pPlain (K : PySem.W.Frag) (q : Str) (fd : FuncData) : Bool := nonV fd.defaults && PySem.W.codeIn K fd.code q
def pDfl (K : PySem.W.Frag) (q : Str) (t : Addr) (fd : FuncData) : Bool := refB t fd.defaults && PySem.W.codeIn K fd.code q
def pKwd (K : PySem.W.Frag) (q : Str) (t : Addr) (fd : FuncData) : Bool := nonV fd.defaults && (refB t fd.kwdefaults && PySem.W.codeIn K fd.code q)
def pSup (K : PySem.W.Frag) (q : Str) (c : Addr) (fd : FuncData) : Bool := nonV fd.defaults && (refB c fd.code && PySem.W.codeIn K (.ref c) q)
section
variable {K : PySem.W.Frag} {a : Addr} {x q : Str} {ps : Arguments} {bd : List Stmt} {sc : Scope}
theorem plain_ok (e : fnQ K ⟨a, x, q, ps, bd, sc, []⟩ = (Dq.mk a x q ps bd sc []).val) (c : fdB K a (pPlain K q) = true) :
    ∃ (oc kV dc pm cd ct : Value) (od an : Option Addr) (sl : Array (Option Value)), K.lookup a = some ⟨oc, od, .func (PySem.W.fnOf x q ps bd sc .none kV dc pm an cd ct), sl⟩ ∧ PySem.W.codeIn K cd q = true := by
  obtain ⟨fd, oc, od, sl, lk, h, e1, e2, e3, e4, e5, e6, e7, e8⟩ := fq (d := ⟨a, x, q, ps, bd, sc, []⟩) e c
  obtain ⟨n1, n2, n3, n4, n5, n6, n7, n8, n9, n10, n11, n12, n13, n14, n15⟩ := fd
  dsimp only at e1 e2 e3 e4 e5 e6 e7 e8
  subst e1 e2 e3 e4 e5 e6 e7 e8
  obtain ⟨h1, h2⟩ := ba h
  obtain rfl : n8 = .none := nonV_ok h1
  exact ⟨oc, n9, n10, n11, n13, n14, od, n12, sl, lk, h2⟩
theorem dfl_ok {t : Addr} (e : fnQ K ⟨a, x, q, ps, bd, sc, []⟩ = (Dq.mk a x q ps bd sc []).val) (c : fdB K a (pDfl K q t) = true) :
    ∃ (oc kV dc pm cd ct : Value) (od an : Option Addr) (sl : Array (Option Value)), K.lookup a = some ⟨oc, od, .func (PySem.W.fnOf x q ps bd sc (.ref t) kV dc pm an cd ct), sl⟩ ∧ PySem.W.codeIn K cd q = true := by
  obtain ⟨fd, oc, od, sl, lk, h, e1, e2, e3, e4, e5, e6, e7, e8⟩ := fq (d := ⟨a, x, q, ps, bd, sc, []⟩) e c
  obtain ⟨n1, n2, n3, n4, n5, n6, n7, n8, n9, n10, n11, n12, n13, n14, n15⟩ := fd
  dsimp only at e1 e2 e3 e4 e5 e6 e7 e8
  subst e1 e2 e3 e4 e5 e6 e7 e8
  obtain ⟨h1, h2⟩ := ba h
  obtain rfl : n8 = .ref t := refB_ok h1
  exact ⟨oc, n9, n10, n11, n13, n14, od, n12, sl, lk, h2⟩
theorem kwd_ok {t : Addr} (e : fnQ K ⟨a, x, q, ps, bd, sc, []⟩ = (Dq.mk a x q ps bd sc []).val) (c : fdB K a (pKwd K q t) = true) :
    ∃ (oc dc pm cd ct : Value) (od an : Option Addr) (sl : Array (Option Value)), K.lookup a = some ⟨oc, od, .func (PySem.W.fnOf x q ps bd sc .none (.ref t) dc pm an cd ct), sl⟩ ∧ PySem.W.codeIn K cd q = true := by
  obtain ⟨fd, oc, od, sl, lk, h, e1, e2, e3, e4, e5, e6, e7, e8⟩ := fq (d := ⟨a, x, q, ps, bd, sc, []⟩) e c
  obtain ⟨n1, n2, n3, n4, n5, n6, n7, n8, n9, n10, n11, n12, n13, n14, n15⟩ := fd
  dsimp only at e1 e2 e3 e4 e5 e6 e7 e8
  subst e1 e2 e3 e4 e5 e6 e7 e8
  obtain ⟨h1, h2⟩ := ba h
  obtain ⟨h2, h3⟩ := ba h2
  obtain rfl : n8 = .none := nonV_ok h1
  obtain rfl : n9 = .ref t := refB_ok h2
  exact ⟨oc, n10, n11, n13, n14, od, n12, sl, lk, h3⟩
theorem sup_ok {cda cc : Addr} (e : fnQ K ⟨a, x, q, ps, bd, sc, [("__class__", cc)]⟩ = (Dq.mk a x q ps bd sc [("__class__", cc)]).val) (c : fdB K a (pSup K q cda) = true) :
    ∃ (oc kV dc pm ct : Value) (od an : Option Addr) (sl : Array (Option Value)), K.lookup a = some ⟨oc, od, .func (PySem.W.ksFn x q ps bd sc .none kV dc pm an (.ref cda) ct cc), sl⟩ ∧ PySem.W.codeIn K (.ref cda) q = true := by
  obtain ⟨fd, oc, od, sl, lk, h, e1, e2, e3, e4, e5, e6, e7, e8⟩ := fq (d := ⟨a, x, q, ps, bd, sc, [("__class__", cc)]⟩) e c
  obtain ⟨n1, n2, n3, n4, n5, n6, n7, n8, n9, n10, n11, n12, n13, n14, n15⟩ := fd
  dsimp only at e1 e2 e3 e4 e5 e6 e7 e8
  subst e1 e2 e3 e4 e5 e6 e7 e8
  obtain ⟨h1, h2⟩ := ba h
  obtain ⟨h2, h3⟩ := ba h2
  obtain rfl : n8 = .none := nonV_ok h1
  obtain rfl : n13 = .ref cda := refB_ok h2
  exact ⟨oc, n9, n10, n11, n14, od, n12, sl, lk, h3⟩
end
/-! ### other facts -/
section
variable {K : PySem.W.Frag}
def recB1 (K : PySem.W.Frag) (p : Addr) (T : String) (f : Addr) : Bool := match PySem.W.recIn K p T with
  | some (v :: _) => refB f v
  | _ => false
theorem rec1_ok {p f : Addr} {T : String} (h : recB1 K p T f = true) : ∃ r, PySem.W.recIn K p T = some (.ref f :: r) := by
  unfold recB1 at h
  split at h
  · rename_i v r e
    rw [refB_ok h] at e
    exact ⟨r, e⟩
  · cases h
def recB2 (K : PySem.W.Frag) (p : Addr) (T : String) (f : Addr) : Bool := match PySem.W.recIn K p T with
  | some (_ :: v :: _) => refB f v
  | _ => false
theorem rec2_ok {p f : Addr} {T : String} (h : recB2 K p T f = true) : ∃ g r, PySem.W.recIn K p T = some (g :: .ref f :: r) := by
  unfold recB2 at h
  split at h
  · rename_i u v r e
    rw [refB_ok h] at e
    exact ⟨u, r, e⟩
  · cases h
def strB (K : PySem.W.Frag) (d : Addr) (x z : Str) : Bool := match PySem.W.nsIn K d x with
  | some (some (.str y _)) => decide (y = z)
  | _ => false
theorem str_ok {d : Addr} {x z : Str} (h : strB K d x z = true) : ∃ t, PySem.W.nsIn K d x = some (some (.str z t)) := by
  unfold strB at h
  split at h
  · rename_i y t e
    rw [of_decide_eq_true h] at e
    exact ⟨t, e⟩
  · cases h
def intB (K : PySem.W.Frag) (d : Addr) (x : Str) (i : Int) : Bool := match PySem.W.nsIn K d x with
  | some (some (.int j _)) => decide (j = i)
  | _ => false
theorem int_ok {d : Addr} {x : Str} {i : Int} (h : intB K d x i = true) : ∃ t, PySem.W.nsIn K d x = some (some (.int i t)) := by
  unfold intB at h
  split at h
  · rename_i y t e
    rw [of_decide_eq_true h] at e
    exact ⟨t, e⟩
  · cases h
def fcR (K : PySem.W.Frag) (C : Addr) (x : Str) (a : Addr) : Bool := match PySem.W.findCls K (.ref C) (.type "type") x with
  | some (.val v) => refB a v
  | _ => false
theorem fcR_ok {C a : Addr} {x : Str} (h : fcR K C x a = true) : PySem.W.findCls K (.ref C) (.type "type") x = some (.val (.ref a)) := by
  unfold fcR at h
  split at h
  · rename_i v e
    rw [refB_ok h] at e
    exact e
  · cases h
def fcI (K : PySem.W.Frag) (C : Addr) (x : Str) (i : Int) : Bool := match PySem.W.findCls K (.ref C) (.type "type") x with
  | some (.val (.int j _)) => decide (j = i)
  | _ => false
theorem fcI_ok {C : Addr} {x : Str} {i : Int} (h : fcI K C x i = true) : ∃ t, PySem.W.findCls K (.ref C) (.type "type") x = some (.val (.int i t)) := by
  unfold fcI at h
  split at h
  · rename_i v t e
    rw [of_decide_eq_true h] at e
    exact ⟨t, e⟩
  · cases h
def fcS (K : PySem.W.Frag) (C : Addr) (x : Str) (s : Addr) : Bool := match PySem.W.findCls K (.ref C) (.type "type") x with
  | some (.get g v u z) => decide (g = .builtin "staticmethod.__get__") && (refB s v && (nonV u && refB C z))
  | _ => false
theorem fcS_ok {C s : Addr} {x : Str} (h : fcS K C x s = true) : PySem.W.findCls K (.ref C) (.type "type") x = some (.get (.builtin "staticmethod.__get__") (.ref s) .none (.ref C)) := by
  unfold fcS at h
  split at h
  · rename_i g v u z e
    obtain ⟨h1, h⟩ := ba h
    obtain ⟨h2, h⟩ := ba h
    obtain ⟨h3, h4⟩ := ba h
    rw [of_decide_eq_true h1, refB_ok h2, nonV_ok h3, refB_ok h4] at e
    exact e
  · cases h
def fcC (K : PySem.W.Frag) (C : Addr) (x : Str) (s : Addr) : Bool := match PySem.W.findCls K (.ref C) (.type "type") x with
  | some (.get g v u z) => decide (g = .builtin "classmethod.__get__") && (refB s v && (nonV u && refB C z))
  | _ => false
theorem fcC_ok {C s : Addr} {x : Str} (h : fcC K C x s = true) : PySem.W.findCls K (.ref C) (.type "type") x = some (.get (.builtin "classmethod.__get__") (.ref s) .none (.ref C)) := by
  unfold fcC at h
  split at h
  · rename_i g v u z e
    obtain ⟨h1, h⟩ := ba h
    obtain ⟨h2, h⟩ := ba h
    obtain ⟨h3, h4⟩ := ba h
    rw [of_decide_eq_true h1, refB_ok h2, nonV_ok h3, refB_ok h4] at e
    exact e
  · cases h
def seqB (K : PySem.W.Frag) (a : Addr) (vs : List V) : Bool := match K.lookup a with
  | some ⟨.type ty, _, .seq its _, _⟩ => decide (ty = "tuple") && He.relAll vs its.toList
  | _ => false
theorem seq_ok {a : Addr} {vs : List V} (h : seqB K a vs = true) : ∃ (od : Option Addr) (l : List Value) (n : Nat) (sl : Array (Option Value)), K.lookup a = some ⟨.type "tuple", od, .seq ⟨l⟩ n, sl⟩ ∧ Vals vs l := by
  unfold seqB at h
  split at h
  · rename_i ty od its n sl e
    obtain ⟨h1, h2⟩ := ba h
    rw [of_decide_eq_true h1] at e
    obtain ⟨l⟩ := its
    exact ⟨od, l, n, sl, e, He.relAll_ok h2⟩
  · cases h
def excB (K : PySem.W.Frag) (C : Addr) : Bool := match K.lookup C with
  | some ⟨.type ty, _, .cls cd, sl⟩ => decide (ty = "type") && (cd.hasDict && (!cd.hasDel && ((match cd.mro with
    | v :: bm => refB C v && PySem.HandSPX.refsVE bm
    | _ => false) && (match sl.toList with
    | [_, _, _, _, some (.builtin z), _] => decide (z = "ValueError.__new__")
    | _ => false))))
  | _ => false
theorem exc_ok {C : Addr} (h : excB K C = true) : ∃ (nm q : Str) (N : Addr) (bs bm : List Value) (sn : List Str) (sub : List Value) (ab : Bool) (col : Option Bool) (dd : Option Addr) (k0 k1 k2 k3 k5 : Option Value),
    K.lookup C = some (excClassObj nm q C N bs bm true sn sub ab col dd k0 k1 k2 k3 k5 "ValueError.__new__") ∧ PySem.HandSPX.refsVE bm = true := by
  unfold excB at h
  split at h
  · rename_i ty dd cd sl e
    obtain ⟨h1, h⟩ := ba h
    obtain ⟨h2, h⟩ := ba h
    obtain ⟨h3, h⟩ := ba h
    obtain ⟨h4, h5⟩ := ba h
    obtain ⟨l⟩ := sl
    obtain ⟨c1, c2, c3, c4, c5, c6, c7, c8, c9, c10, c11⟩ := cd
    dsimp only at h2 h3 h4 h5
    subst h2
    obtain rfl : c11 = false := by cases c11 <;> first | rfl | cases h3
    rw [of_decide_eq_true h1] at e
    clear h1 h3
    cases c3 with
    | nil => cases h4
    | cons v bm =>
      obtain ⟨g1, g2⟩ := ba h4
      rw [refB_ok g1] at e
      match l, h5, e with
      | [k0, k1, k2, k3, some (.builtin z), k5], h5, e =>
        rw [of_decide_eq_true (show decide (z = "ValueError.__new__") = true from h5)] at e
        exact ⟨_, _, _, _, bm, _, _, _, _, _, _, _, _, _, _, e, g2⟩
  · cases h
def filB (K : PySem.W.Frag) (c : Addr) (mf : Str) : Bool := match K.lookup c with
  | some ⟨_, _, .fields vs, _⟩ => (match (vs[2]? : Option Value) with
    | some (.str f _) => mf == f
    | _ => false)
  | _ => false
theorem fil_ok {c : Addr} {mf : Str} (h : filB K c mf = true) : ∃ (cc : Value) (cd : Option Addr) (vs : Array Value) (cs : Array (Option Value)) (f : Str) (t : Tok), K.lookup c = some ⟨cc, cd, .fields vs, cs⟩ ∧ vs[2]? = some (.str f t) ∧ (mf == f) = true := by
  unfold filB at h
  split at h
  · rename_i cc cd vs cs e
    split at h
    · rename_i f t e2
      exact ⟨cc, cd, vs, cs, f, t, e, e2, h⟩
    · cases h
  · cases h
def celB (K : PySem.W.Frag) (c C : Addr) : Bool := match K.lookup c with
  | some ⟨_, _, .cell (some v), _⟩ => refB C v
  | _ => false
theorem cel_ok {c C : Addr} (h : celB K c C = true) : ∃ (oc : Value) (od : Option Addr) (sl : Array (Option Value)), K.lookup c = some ⟨oc, od, .cell (some (.ref C)), sl⟩ := by
  unfold celB at h
  split at h
  · rename_i oc od v sl e
    rw [refB_ok h] at e
    exact ⟨oc, od, sl, e⟩
  · cases h
end
/-! ### the Hook -/
abbrev Al : Type := Bool × List FnQ
def obsG (as : List Addr) (fa : List (PySem.W.Frag → Bool)) (fn : List Dq) (g : Addr → Option Obj) : Al := (chk fa (He.frG g as), fn.map (fnQ (He.frG g as)))
def hook (as : List Addr) (fa : List (PySem.W.Frag → Bool)) (fn : List Dq) : PySem.W.Hook where
  α := Al
  obs := fun s => obsG as fa fn s.heap.get?
  val := fun _ => (true, fn.map Dq.val)
  says := fun _ h => ∃ K : PySem.W.Frag, K.In h ∧ chk fa K = true ∧ fn.map (fnQ K) = fn.map Dq.val
  of := fun _ _ e => ⟨_, He.frG_in, congrArg (fun z : Al => z.1) e, congrArg (fun z : Al => z.2) e⟩
  keeps := fun _ _ _ ⟨K, hK, c⟩ k => ⟨K, PySem.W.Frag.In.keeps hK k, c⟩
def obT (as : List Addr) (fa : List (PySem.W.Frag → Bool)) (fn : List Dq) (s : PySem.W.SharedT) : Al := obsG as fa fn (HandSHeadRun.getT s)
theorem obT_eq (as : List Addr) (fa : List (PySem.W.Frag → Bool)) (fn : List Dq) (s : PySem.W.SharedT) : obT as fa fn s = (hook as fa fn).obs s.abs := by
  have e : HandSHeadRun.getT s = s.abs.heap.get? := funext (HandSHeadRun.getT_eq s)
  unfold obT
  rw [e] <;> rfl
/-- parts of the run, put together -/
theorem join {α : Type} {x : Option PySem.W.SharedT} {f : PySem.W.SharedT → Bool} {g : PySem.W.SharedT → α} {b : α} {as : List Addr} {fa : List (PySem.W.Frag → Bool)} {fn : List Dq}
    (h1 : x.map f = some true) (h2 : x.map g = some b) (h3 : ∀ s, x = some s → chk fa (He.frG (HandSHeadRun.getT s) as) = true) (h4 : x.map (fun s => fn.map (fnQ (He.frG (HandSHeadRun.getT s) as))) = some (fn.map Dq.val)) :
    x.map (fun s => (f s, g s, obT as fa fn s)) = some (true, b, (true, fn.map Dq.val)) := by
  obtain ⟨s, rfl, e1⟩ := Option.map_eq_some_iff.mp h1
  have e2 : g s = b := Option.some.inj h2
  have e3 := h3 s rfl
  have e4 : fn.map (fnQ (He.frG (HandSHeadRun.getT s) as)) = fn.map Dq.val := Option.some.inj h4
  show some (f s, g s, (chk fa (He.frG (HandSHeadRun.getT s) as), fn.map (fnQ (He.frG (HandSHeadRun.getT s) as)))) = _
  rw [e1, e2, e3, e4]
theorem part {x : Option PySem.W.SharedT} {as : List Addr} {fa : List (PySem.W.Frag → Bool)} (h : x.map (fun s => chk fa (He.frG (HandSHeadRun.getT s) as)) = some true) : ∀ s, x = some s → chk fa (He.frG (HandSHeadRun.getT s) as) = true := fun s e => by
  rw [e] at h
  exact Option.some.inj h
end Hx

/-! how a walk goes on: each way by itself -/
local macro_rules | `(tactic| walk_at "goo1") => `(tactic| first | ((with_reducible refine' Vc.go_iteF' ?h ?_); (case h => decide)) | fail)
local macro_rules | `(tactic| walk_at "goo1") => `(tactic| first | ((with_reducible refine' Vc.go_iteT' ?h ?_); (case h => decide)) | fail)
local macro_rules | `(tactic| walk_at "goo1") => `(tactic| first | ((with_reducible refine' Vc.go_itenF' ?h ?_); (case h => omega)) | fail)
local macro_rules | `(tactic| walk_at "goo1") => `(tactic| first | ((with_reducible refine' Vc.go_itenT' ?h ?_); (case h => omega)) | fail)
local macro_rules | `(tactic| walk_at "goo1") => `(tactic| first | ((with_reducible refine' Vc.go_iteF' ?h ?_); (case h => omega)) | fail)
local macro_rules | `(tactic| walk_at "goo1") => `(tactic| first | ((with_reducible refine' Vc.go_iteT' ?h ?_); (case h => omega)) | fail)
local macro_rules | `(tactic| walk_at "goo1") => `(tactic| walk_at "go1")
local macro_rules | `(tactic| walk_at "go1") => `(tactic| first | ((with_reducible refine' Vc.go_ixS ?he ?hv ?_); (case he => walk_at "ln"); (case hv => walk_at "ix")) | fail)
local macro_rules | `(tactic| walk_at "go1") => `(tactic| first | ((with_reducible refine' Vc.go_ixT ?he ?hv ?_); (case he => walk_at "hs"); (case hv => walk_at "ix")) | fail)
local macro_rules | `(tactic| walk_at "go1") => `(tactic| first | ((with_reducible refine' Vc.go_ixL ?he ?hv ?_); (case he => walk_at "hs"); (case hv => walk_at "ix")) | fail)
local macro_rules | `(tactic| walk_at "go1") => `(tactic| first | ((with_reducible refine' Vc.go_append ?he ?hl ?_); (case he => walk_at "hs"); (case hl => walk_at "ln")) | fail)
local macro_rules | `(tactic| walk_at "go1") => `(tactic| first | ((with_reducible refine' Vc.go_len ?hl ?_); (case hl => walk_at "ln")) | fail)
local macro_rules | `(tactic| walk_at "go1") => `(tactic| first | ((with_reducible refine' Vc.go_tyL ?he ?_); (case he => walk_at "hs")) | fail)
local macro_rules | `(tactic| walk_at "go1") => `(tactic| first | ((with_reducible refine' Vc.go_slL ?he ?_); (case he => walk_at "hs")) | fail)
local macro_rules | `(tactic| walk_at "go1") => `(tactic| first | ((with_reducible refine' Vc.go_slS ?hz ?_); (case hz => walk_at "ln")) | fail)
local macro_rules | `(tactic| walk_at "go1") => `(tactic| first | ((with_reducible refine' Vc.go_lenT ?he ?_); (case he => walk_at "hs")) | fail)
local macro_rules | `(tactic| walk_at "go1") => `(tactic| first | ((with_reducible refine' Vc.go_lenL ?he ?_); (case he => walk_at "hs")) | fail)
local macro_rules | `(tactic| walk_at "go1") => `(tactic| with_reducible refine Vc.go_callK ?_)
local macro_rules | `(tactic| walk_at "go1") => `(tactic| with_reducible refine Vc.go_methK ?_)
local macro_rules | `(tactic| walk_at "go1") => `(tactic| first | ((with_reducible refine' Vc.go_dinI ?he ?_); (case he => walk_at "hs")) | fail)
local macro_rules | `(tactic| walk_at "go1") => `(tactic| first | ((with_reducible refine' Vc.go_dputI ?he ?hl ?_); (case he => walk_at "hs"); (case hl => walk_at "ln")) | fail)
local macro_rules | `(tactic| walk_at "go1") => `(tactic| first | ((with_reducible refine' Vc.go_dputS ?he ?hl ?_); (case he => walk_at "hs"); (case hl => walk_at "ln")) | fail)
local macro_rules | `(tactic| walk_at "go1") => `(tactic| first | ((with_reducible refine' Vc.go_dgetI ?he ?hv ?_); (case he => walk_at "hs"); (case hv => walk_at "dv")) | fail)
local macro_rules | `(tactic| walk_at "go1") => `(tactic| first | ((with_reducible refine' Vc.go_dgetS ?he ?hv ?_); (case he => walk_at "hs"); (case hv => walk_at "dv")) | fail)
local macro_rules | `(tactic| walk_at "go1") => `(tactic| with_reducible refine Vc.go_int1b ?_)
local macro_rules | `(tactic| walk_at "go1") => `(tactic| with_reducible refine Vc.go_int1 ?_)
local macro_rules | `(tactic| walk_at "go1") => `(tactic| with_reducible refine Vc.go_abs ?_)
local macro_rules | `(tactic| walk_at "go1") => `(tactic| with_reducible refine Vc.go_bm0 ?_)
local macro_rules | `(tactic| walk_at "go1") => `(tactic| with_reducible refine Vc.go_bm ?_)
local macro_rules | `(tactic| walk_at "go1") => `(tactic| with_reducible refine Vc.go_partI ?_)
local macro_rules | `(tactic| walk_at "go1") => `(tactic| with_reducible refine Vc.go_part ?_)
local macro_rules | `(tactic| walk_at "go1") => `(tactic| with_reducible refine Vc.go_nopart ?_)
local macro_rules | `(tactic| walk_at "go1") => `(tactic| with_reducible refine Vc.go_sl ?_)
local macro_rules | `(tactic| walk_at "go1") => `(tactic| with_reducible refine Vc.go_dput ?_)
local macro_rules | `(tactic| walk_at "go1") => `(tactic| with_reducible refine Vc.go_dnotin ?_)
local macro_rules | `(tactic| walk_at "go1") => `(tactic| with_reducible refine Vc.go_din ?_)
local macro_rules | `(tactic| walk_at "go1") => `(tactic| with_reducible refine Vc.go_dnew ?_)
local macro_rules | `(tactic| walk_at "go1") => `(tactic| with_reducible refine Vc.go_lst ?_)
local macro_rules | `(tactic| walk_at "go1") => `(tactic| with_reducible refine Vc.go_tup ?_)
local macro_rules | `(tactic| walk_at "go1") => `(tactic| with_reducible refine Vc.go_tryOnly ?_)
local macro_rules | `(tactic| walk_at "go1") => `(tactic| with_reducible refine Vc.go_tryAs ?_)
local macro_rules | `(tactic| walk_at "go1") => `(tactic| first | ((with_reducible refine' Vc.go_isTT ?E ?C ?k ?_); (case E => walk_at "bd"); (case C => assumption); (case k => assumption)) | fail)
local macro_rules | `(tactic| walk_at "go1") => `(tactic| first | ((with_reducible refine' Vc.go_isTC ?E ?C ?k ?_); (case E => walk_at "bd"); (case C => assumption); (case k => assumption)) | fail)
local macro_rules | `(tactic| walk_at "go1") => `(tactic| first | ((with_reducible refine' Vc.go_xfTV ?E ?T ?n ?l ?_); (case E => walk_at "bd"); (case T => assumption); (case n => assumption); (case l => walk_at "fl")) | fail)
local macro_rules | `(tactic| walk_at "go1") => `(tactic| with_reducible refine Vc.go_xfT ?_)
local macro_rules | `(tactic| walk_at "go1") => `(tactic| with_reducible refine Vc.go_make0 ?_)
local macro_rules | `(tactic| walk_at "go1") => `(tactic| with_reducible refine Vc.go_makeK ?_)
local macro_rules | `(tactic| walk_at "go1") => `(tactic| with_reducible refine Vc.go_prop ?_)
local macro_rules | `(tactic| walk_at "go1") => `(tactic| first | ((with_reducible refine' Vc.go_setPV ?e ?_); (case e => walk_at "hs")) | fail)
local macro_rules | `(tactic| walk_at "go1") => `(tactic| with_reducible refine Vc.go_setP ?_)
local macro_rules | `(tactic| walk_at "go1") => `(tactic| with_reducible refine Vc.go_tryX ?_)
local macro_rules | `(tactic| walk_at "go1") => `(tactic| with_reducible refine Vc.go_lstRgV ?_)
local macro_rules | `(tactic| walk_at "go1") => `(tactic| with_reducible refine Vc.go_lstRg ?_)
local macro_rules | `(tactic| walk_at "go1") => `(tactic| with_reducible refine Vc.go_iRngLV ?_)
local macro_rules | `(tactic| walk_at "go1") => `(tactic| with_reducible refine Vc.go_iRngL ?_)
local macro_rules | `(tactic| walk_at "go1") => `(tactic| first | ((with_reducible refine' Vc.go_inO ?e ?_); (case e => walk_at "hs")) | fail)
local macro_rules | `(tactic| walk_at "go1") => `(tactic| first | ((with_reducible refine' Vc.go_strI ?l ?_); (case l => assumption)) | fail)
local macro_rules | `(tactic| walk_at "go1") => `(tactic| first | ((with_reducible refine' Vc.go_fmtI ?l ?_); (case l => assumption)) | fail)
local macro_rules | `(tactic| walk_at "go1") => `(tactic| first | ((with_reducible refine' Vc.go_fmtS ?l ?_); (case l => walk_at "ln")) | fail)
local macro_rules | `(tactic| walk_at "go1") => `(tactic| with_reducible refine Vc.go_fmt ?_)
local macro_rules | `(tactic| walk_at "go1") => `(tactic| first | ((with_reducible refine' Vc.go_szS ?l ?_); (case l => walk_at "ln")) | fail)
local macro_rules | `(tactic| walk_at "go1") => `(tactic| first | ((with_reducible refine' Vc.go_jsV ?l ?_); (case l => walk_at "ln")) | fail)
local macro_rules | `(tactic| walk_at "go1") => `(tactic| with_reducible refine Vc.go_js ?_)
local macro_rules | `(tactic| walk_at "go1") => `(tactic| with_reducible refine Vc.go_js0 ?_)
local macro_rules | `(tactic| walk_at "go1") => `(tactic| first | ((with_reducible refine' Vc.go_revLV ?e ?_); (case e => walk_at "hs")) | fail)
local macro_rules | `(tactic| walk_at "go1") => `(tactic| with_reducible refine Vc.go_revL ?_)
local macro_rules | `(tactic| walk_at "go1") => `(tactic| first | ((with_reducible refine' Vc.go_dpopI ?e ?v ?_); (case e => walk_at "hs"); (case v => walk_at "dv")) | fail)
local macro_rules | `(tactic| walk_at "go1") => `(tactic| first | ((with_reducible refine' Vc.go_lclear ?e ?_); (case e => walk_at "hs")) | fail)
local macro_rules | `(tactic| walk_at "go1") => `(tactic| first | ((with_reducible refine' Vc.go_dclear ?e ?_); (case e => walk_at "hs")) | fail)
local macro_rules | `(tactic| walk_at "go1") => `(tactic| first | ((with_reducible refine' Vc.go_tyD ?e ?_); (case e => walk_at "hs")) | fail)
local macro_rules | `(tactic| walk_at "go1") => `(tactic| with_reducible refine Vc.go_refC ?_)
local macro_rules | `(tactic| walk_at "go1") => `(tactic| with_reducible refine Vc.go_smeth ?_)
local macro_rules | `(tactic| walk_at "go1") => `(tactic| first | ((with_reducible refine' Vc.go_strO ?e ?_); (case e => walk_at "hs")) | fail)
local macro_rules | `(tactic| walk_at "go1") => `(tactic| first | ((with_reducible refine' Vc.go_lenO ?e ?_); (case e => walk_at "hs")) | fail)
local macro_rules | `(tactic| walk_at "go1") => `(tactic| first | ((with_reducible refine' Vc.go_insF ?e ?_); (case e => walk_at "hs")) | fail)
local macro_rules | `(tactic| walk_at "go1") => `(tactic| first | ((with_reducible refine' Vc.go_cntS ?e ?_); (case e => walk_at "hs")) | fail)
local macro_rules | `(tactic| walk_at "go1") => `(tactic| with_reducible refine Vc.go_ixO ?_)
local macro_rules | `(tactic| walk_at "go1") => `(tactic| first | ((with_reducible refine' Vc.go_isXT ?C ?d ?k ?_); (case C => assumption); (case d => ((with_reducible refine' Vc.xdAt ?e); (case e => walk_at "hs"))); (case k => assumption)) | fail)
local macro_rules | `(tactic| walk_at "go1") => `(tactic| first | ((with_reducible refine' Vc.go_isXC ?C ?d ?k ?_); (case C => assumption); (case d => ((with_reducible refine' Vc.xdAt ?e); (case e => walk_at "hs"))); (case k => assumption)) | fail)
local macro_rules | `(tactic| walk_at "go1") => `(tactic| first | ((with_reducible refine' Vc.go_xfXV ?T ?n ?e ?l ?_); (case T => assumption); (case n => assumption); (case e => walk_at "hs"); (case l => walk_at "fl")) | fail)
local macro_rules | `(tactic| walk_at "go1") => `(tactic| with_reducible refine Vc.go_xfX ?_)
local macro_rules | `(tactic| walk_at "go1") => `(tactic| first | ((with_reducible refine' Vc.go_insD ?e ?_); (case e => walk_at "hs")) | fail)
local macro_rules | `(tactic| walk_at "go1") => `(tactic| with_reducible refine Vc.go_refE ?_)
local macro_rules | `(tactic| walk_at "go1") => `(tactic| with_reducible refine Vc.go_callIK ?_)
local macro_rules | `(tactic| walk_at "go1") => `(tactic| with_reducible refine Vc.go_smethS ?_)
local macro_rules | `(tactic| walk_at "go1") => `(tactic| with_reducible refine Vc.go_cmethS ?_)
local macro_rules | `(tactic| walk_at "go1") => `(tactic| with_reducible refine Vc.go_makeC ?_)
local macro_rules | `(tactic| walk_at "go1") => `(tactic| with_reducible refine Vc.go_makeS ?_)
local macro_rules | `(tactic| walk_at "go1") => `(tactic| with_reducible refine Vc.go_methS ?_)
local macro_rules | `(tactic| walk_at "go1") => `(tactic| with_reducible refine Vc.go_callI ?_)
local macro_rules | `(tactic| walk_at "go1") => `(tactic| with_reducible refine Vc.go_callS ?_)
local macro_rules | `(tactic| walk_at "go1") => `(tactic| with_reducible refine Vc.go_err2 ?_)
local macro_rules | `(tactic| walk_at "go1") => `(tactic| with_reducible refine Vc.go_err1 ?_)
local macro_rules | `(tactic| walk_at "go1") => `(tactic| with_reducible refine Vc.go_mkO ?_)
local macro_rules | `(tactic| walk_at "go1") => `(tactic| with_reducible refine Vc.go_raiseT ?_)
local macro_rules | `(tactic| walk_at "go1") => `(tactic| with_reducible refine Vc.go_call ?_)
local macro_rules | `(tactic| walk_at "go1") => `(tactic| first | ((with_reducible refine' Vc.go_niT ?e ?hx ?hf ?_); (case e => walk_at "hs"); (case hx => rfl); (case hf => walk_at "flat")) | fail)
local macro_rules | `(tactic| walk_at "go1") => `(tactic| first | ((with_reducible refine' Vc.go_niL ?e ?hx ?hf ?_); (case e => walk_at "hs"); (case hx => rfl); (case hf => walk_at "flat")) | fail)
local macro_rules | `(tactic| walk_at "go1") => `(tactic| first | ((with_reducible refine' Vc.go_inT ?e ?hx ?hf ?_); (case e => walk_at "hs"); (case hx => rfl); (case hf => walk_at "flat")) | fail)
local macro_rules | `(tactic| walk_at "go1") => `(tactic| first | ((with_reducible refine' Vc.go_inL ?e ?hx ?hf ?_); (case e => walk_at "hs"); (case hx => rfl); (case hf => walk_at "flat")) | fail)
local macro_rules | `(tactic| walk_at "go1") => `(tactic| first | ((with_reducible refine' Vc.go_dgetIF ?he ?hv ?_); (case he => walk_at "fz"); (case hv => walk_at "dv")) | fail)
local macro_rules | `(tactic| walk_at "go1") => `(tactic| first | ((with_reducible refine' Vc.go_lenS ?l ?_); (case l => walk_at "ln")) | fail)
local macro_rules | `(tactic| walk_at "go1") => `(tactic| first | ((with_reducible refine' Vc.go_listD ?e ?_); (case e => walk_at "hs")) | fail)
local macro_rules | `(tactic| walk_at "go1") => `(tactic| first | ((with_reducible refine' Vc.go_lenD ?e ?_); (case e => walk_at "hs")) | fail)
local macro_rules | `(tactic| walk_at "go1") => `(tactic| first | ((with_reducible refine' Vc.go_methV ?e ?l ?_); (case e => walk_at "hs"); (case l => walk_at "fl")) | fail)
local macro_rules | `(tactic| walk_at "go1") => `(tactic| first | ((with_reducible refine' Vc.go_sfldV ?e ?l ?c ?n ?_); (case e => walk_at "hs"); (case l => walk_at "fn"); (case c => assumption); (case n => assumption)) | fail)
local macro_rules | `(tactic| walk_at "go1") => `(tactic| first | ((with_reducible refine' Vc.go_fldV ?e ?hl ?c ?n ?_); (case e => walk_at "hs"); (case hl => walk_at "fl"); (case c => assumption); (case n => assumption)) | fail)
local macro_rules | `(tactic| walk_at "go1") => `(tactic| first | ((with_reducible refine' Vc.go_cval ?hr ?hv ?_); (case hr => assumption); (case hv => assumption)) | fail)
local macro_rules | `(tactic| walk_at "go1") => `(tactic| first | ((with_reducible refine' Vc.go_iteN ?h ?_); (case h => (intro z; cases z))) | fail)
local macro_rules | `(tactic| walk_at "go1") => `(tactic| with_reducible refine' Vc.go_iteNT ?_)
local macro_rules | `(tactic| walk_at "go1") => `(tactic| with_reducible refine Vc.go_isN ?_)
local macro_rules | `(tactic| walk_at "go1") => `(tactic| first | ((with_reducible refine' Vc.go_isiT2 ?ht ?e ?hk ?hk2 ?hc ?_); (case ht => walk_at "ty"); (case e => walk_at "hs"); (case hk => walk_at "kit"); (case hk2 => walk_at "kit"); (case hc => first | exact Vc.or_t | exact Vc.or_f)) | fail)
local macro_rules | `(tactic| walk_at "go1") => `(tactic| first | ((with_reducible refine' Vc.go_isi ?ht ?hk ?_); (case ht => walk_at "ty"); (case hk => walk_at "kit")) | fail)
local macro_rules | `(tactic| walk_at "go1") => `(tactic| with_reducible refine Vc.go_neB ?_)
local macro_rules | `(tactic| walk_at "go1") => `(tactic| with_reducible refine Vc.go_eqB ?_)
local macro_rules | `(tactic| walk_at "go1") => `(tactic| with_reducible refine Vc.go_neS ?_)
local macro_rules | `(tactic| walk_at "go1") => `(tactic| with_reducible refine Vc.go_eqS ?_)
local macro_rules | `(tactic| walk_at "go1") => `(tactic| with_reducible refine Vc.go_neI ?_)
local macro_rules | `(tactic| walk_at "go1") => `(tactic| with_reducible refine Vc.go_eqI ?_)
local macro_rules | `(tactic| walk_at "go1") => `(tactic| first | ((with_reducible refine' Vc.go_I ?hc ?_); (case hc => walk_at "side")) | fail)
local macro_rules | `(tactic| walk_at "go1") => `(tactic| with_reducible refine Vc.go_U ?_)
local macro_rules | `(tactic| walk_at "go1") => `(tactic| with_reducible refine Vc.go_I0 ?_)
local macro_rules | `(tactic| walk_at "go1") => `(tactic| with_reducible refine Vc.go_if ?_)
local macro_rules | `(tactic| walk_at "go1") => `(tactic| with_reducible refine Vc.go_notV ?_)
local macro_rules | `(tactic| walk_at "go1") => `(tactic| with_reducible refine Vc.go_orV ?_)
local macro_rules | `(tactic| walk_at "go1") => `(tactic| with_reducible refine Vc.go_andV ?_)
local macro_rules | `(tactic| walk_at "go1") => `(tactic| with_reducible refine Vc.go_yes ?_)
local macro_rules | `(tactic| walk_at "go1") => `(tactic| with_reducible refine Vc.go_orT ?_)
local macro_rules | `(tactic| walk_at "go1") => `(tactic| with_reducible refine Vc.go_andT ?_)
local macro_rules | `(tactic| walk_at "go1") => `(tactic| with_reducible refine Vc.go_notT ?_)
local macro_rules | `(tactic| walk_at "go1") => `(tactic| with_reducible refine Vc.go_blP ?_)
local macro_rules | `(tactic| walk_at "go1") => `(tactic| with_reducible refine Vc.go_bl ?_)
local macro_rules | `(tactic| walk_at "go1") => `(tactic| with_reducible refine Vc.go_B ?_)
local macro_rules | `(tactic| walk_at "go1") => `(tactic| with_reducible refine Vc.go_test ?_)
local macro_rules | `(tactic| walk_at "go1") => `(tactic| with_reducible refine Vc.go_ifS ?_)
local macro_rules | `(tactic| walk_at "go1") => `(tactic| with_reducible refine Vc.go_next ?_)
local macro_rules | `(tactic| walk_at "go1") => `(tactic| with_reducible refine Vc.go_retN ?_)
local macro_rules | `(tactic| walk_at "go1") => `(tactic| with_reducible refine Vc.go_ret ?_)
local macro_rules | `(tactic| walk_at "go1") => `(tactic| with_reducible refine' Vc.go_nF ?_)
local macro_rules | `(tactic| walk_at "go1") => `(tactic| with_reducible refine' Vc.go_nT ?_)
local macro_rules | `(tactic| walk_at "go1") => `(tactic| with_reducible refine' Vc.go_eqL ?_)
local macro_rules | `(tactic| walk_at "go1") => `(tactic| with_reducible refine' Vc.go_Some ?_)
local macro_rules | `(tactic| walk_at "go1") => `(tactic| with_reducible refine' Vc.go_None ?_)
local macro_rules | `(tactic| walk_at "go1") => `(tactic| with_reducible refine' Vc.go_nSome ?_)
local macro_rules | `(tactic| walk_at "go1") => `(tactic| with_reducible refine' Vc.go_nNone ?_)
local macro_rules | `(tactic| walk_at "go1") => `(tactic| with_reducible refine' Vc.go_neL ?_)
local macro_rules | `(tactic| walk_at "go1") => `(tactic| with_reducible refine' L2.iteF ?_)
local macro_rules | `(tactic| walk_at "go1") => `(tactic| with_reducible refine' L2.iteT ?_)
local macro_rules | `(tactic| walk_at "go1") => `(tactic| with_reducible refine Vc.go_pairs0 ?_)
local macro_rules | `(tactic| walk_at "go1") => `(tactic| with_reducible refine Vc.go_pairs ?_)
local macro_rules | `(tactic| walk_at "go1") => `(tactic| with_reducible refine Vc.go_disp ?_)
local macro_rules | `(tactic| walk_at "go1") => `(tactic| with_reducible refine Vc.go_lc ?_)
local macro_rules | `(tactic| walk_at "go1") => `(tactic| with_reducible refine Vc.go_iStr ?_)
local macro_rules | `(tactic| walk_at "go1") => `(tactic| with_reducible refine Vc.go_iRng2 ?_)
local macro_rules | `(tactic| walk_at "go1") => `(tactic| with_reducible refine Vc.go_iRng1 ?_)
local macro_rules | `(tactic| walk_at "go1") => `(tactic| with_reducible refine Vc.go_iTup ?_)
local macro_rules | `(tactic| walk_at "go1") => `(tactic| with_reducible refine Vc.go_iList ?_)
local macro_rules | `(tactic| walk_at "go1") => `(tactic| with_reducible refine Vc.go_for ?_)
local macro_rules | `(tactic| walk_at "go1") => `(tactic| with_reducible refine Vc.go_sign ?_)
local macro_rules | `(tactic| walk_at "go1") => `(tactic| with_reducible refine Vc.go_strE ?_)
local macro_rules | `(tactic| walk_at "go1") => `(tactic| first | ((with_reducible refine' Vc.go_lstDT ?e ?_); (case e => walk_at "hs")) | fail)
local macro_rules | `(tactic| walk_at "go1") => `(tactic| first | ((with_reducible refine' Vc.go_lstD ?e ?_); (case e => walk_at "hs")) | fail)
local macro_rules | `(tactic| walk_at "go1") => `(tactic| first | ((with_reducible refine' Vc.go_lstDO ?e ?_); (case e => assumption)) | fail)
local macro_rules | `(tactic| walk_at "go1") => `(tactic| first | ((with_reducible refine' Vc.go_tupDT ?e ?_); (case e => walk_at "hs")) | fail)
local macro_rules | `(tactic| walk_at "go1") => `(tactic| first | ((with_reducible refine' Vc.go_tupD ?e ?_); (case e => walk_at "hs")) | fail)
local macro_rules | `(tactic| walk_at "go1") => `(tactic| with_reducible refine Vc.go_sub ?_)
local macro_rules | `(tactic| walk_at "go1") => `(tactic| with_reducible refine Vc.go_isS ?_)
local macro_rules | `(tactic| walk_at "go1") => `(tactic| with_reducible refine Vc.go_M0 ?_)
local macro_rules | `(tactic| walk_at "go1") => `(tactic| with_reducible refine Vc.go_M1 ?_)
local macro_rules | `(tactic| walk_at "go1") => `(tactic| first | ((with_reducible refine' Vc.go_addS ?l ?_); (case l => walk_at "ln")) | fail)
local macro_rules | `(tactic| walk_at "go1") => `(tactic| with_reducible refine Vc.go_ipI ?_)
local macro_rules | `(tactic| walk_at "go1") => `(tactic| first | ((with_reducible refine' Vc.go_aug ?hv ?_); (case hv => rfl)) | fail)
local macro_rules | `(tactic| walk_at "go1") => `(tactic| with_reducible refine Vc.go_lenSet ?_)
local macro_rules | `(tactic| walk_at "go1") => `(tactic| with_reducible refine Vc.go_dc ?_)
local macro_rules | `(tactic| walk_at "go1") => `(tactic| with_reducible refine Vc.go_meth ?_)
local macro_rules | `(tactic| walk_at "go1") => `(tactic| with_reducible refine Vc.go_make ?_)
local macro_rules | `(tactic| walk_at "go1") => `(tactic| with_reducible refine Vc.go_sfld ?_)
local macro_rules | `(tactic| walk_at "go1") => `(tactic| with_reducible refine Vc.go_fld ?_)
local macro_rules | `(tactic| walk_at "go1") => `(tactic| with_reducible refine Vc.go_cvalR ?_)
local macro_rules | `(tactic| walk_at "go1") => `(tactic| with_reducible refine Vc.go_chain ?_)
local macro_rules | `(tactic| walk_at "go1") => `(tactic| with_reducible refine Vc.go_drop ?_)
local macro_rules | `(tactic| walk_at "go1") => `(tactic| with_reducible refine Vc.go_dget ?_)
local macro_rules | `(tactic| walk_at "go1") => `(tactic| with_reducible refine Vc.go_nil ?_)
local macro_rules | `(tactic| walk_at "go1") => `(tactic| with_reducible refine Vc.go_cons ?_)
local macro_rules | `(tactic| walk_at "go1") => `(tactic| with_reducible refine Vc.go_cb ?_)
local macro_rules | `(tactic| walk_at "go1") => `(tactic| with_reducible refine Vc.go_un ?_)
local macro_rules | `(tactic| walk_at "go1") => `(tactic| with_reducible refine Vc.go_op ?_)
local macro_rules | `(tactic| walk_at "go1") => `(tactic| with_reducible refine Vc.go_c ?_)
local macro_rules | `(tactic| walk_at "go1") => `(tactic| first | ((with_reducible refine' Vc.go_var ?hv ?_); (case hv => rfl)) | fail)
local macro_rules | `(tactic| walk_at "go1") => `(tactic| with_reducible refine Vc.go_name ?_)
local macro_rules | `(tactic| walk_at "go1") => `(tactic| with_reducible refine Vc.go_asg ?_)
local macro_rules | `(tactic| walk_at "go1") => `(tactic| with_reducible refine Vc.go_seq ?_)
local macro_rules | `(tactic| walk_at "kit") => `(tactic| with_reducible exact Vc.kit_dict_dict)
local macro_rules | `(tactic| walk_at "kit") => `(tactic| with_reducible exact Vc.kit_dict_list)
local macro_rules | `(tactic| walk_at "kit") => `(tactic| with_reducible exact Vc.kit_dict_tuple)
local macro_rules | `(tactic| walk_at "kit") => `(tactic| with_reducible exact Vc.kit_dict_str)
local macro_rules | `(tactic| walk_at "kit") => `(tactic| with_reducible exact Vc.kit_dict_bool)
local macro_rules | `(tactic| walk_at "kit") => `(tactic| with_reducible exact Vc.kit_dict_int)
local macro_rules | `(tactic| walk_at "kit") => `(tactic| with_reducible exact Vc.kit_tuple_dict)
local macro_rules | `(tactic| walk_at "kit") => `(tactic| with_reducible exact Vc.kit_tuple_list)
local macro_rules | `(tactic| walk_at "kit") => `(tactic| with_reducible exact Vc.kit_tuple_tuple)
local macro_rules | `(tactic| walk_at "kit") => `(tactic| with_reducible exact Vc.kit_tuple_str)
local macro_rules | `(tactic| walk_at "kit") => `(tactic| with_reducible exact Vc.kit_tuple_bool)
local macro_rules | `(tactic| walk_at "kit") => `(tactic| with_reducible exact Vc.kit_tuple_int)
local macro_rules | `(tactic| walk_at "kit") => `(tactic| with_reducible exact Vc.kit_list_dict)
local macro_rules | `(tactic| walk_at "kit") => `(tactic| with_reducible exact Vc.kit_list_list)
local macro_rules | `(tactic| walk_at "kit") => `(tactic| with_reducible exact Vc.kit_list_tuple)
local macro_rules | `(tactic| walk_at "kit") => `(tactic| with_reducible exact Vc.kit_list_str)
local macro_rules | `(tactic| walk_at "kit") => `(tactic| with_reducible exact Vc.kit_list_bool)
local macro_rules | `(tactic| walk_at "kit") => `(tactic| with_reducible exact Vc.kit_list_int)
local macro_rules | `(tactic| walk_at "kit") => `(tactic| with_reducible exact Vc.kit_NoneType_dict)
local macro_rules | `(tactic| walk_at "kit") => `(tactic| with_reducible exact Vc.kit_NoneType_list)
local macro_rules | `(tactic| walk_at "kit") => `(tactic| with_reducible exact Vc.kit_NoneType_tuple)
local macro_rules | `(tactic| walk_at "kit") => `(tactic| with_reducible exact Vc.kit_NoneType_str)
local macro_rules | `(tactic| walk_at "kit") => `(tactic| with_reducible exact Vc.kit_NoneType_bool)
local macro_rules | `(tactic| walk_at "kit") => `(tactic| with_reducible exact Vc.kit_NoneType_int)
local macro_rules | `(tactic| walk_at "kit") => `(tactic| with_reducible exact Vc.kit_str_dict)
local macro_rules | `(tactic| walk_at "kit") => `(tactic| with_reducible exact Vc.kit_str_list)
local macro_rules | `(tactic| walk_at "kit") => `(tactic| with_reducible exact Vc.kit_str_tuple)
local macro_rules | `(tactic| walk_at "kit") => `(tactic| with_reducible exact Vc.kit_str_str)
local macro_rules | `(tactic| walk_at "kit") => `(tactic| with_reducible exact Vc.kit_str_bool)
local macro_rules | `(tactic| walk_at "kit") => `(tactic| with_reducible exact Vc.kit_str_int)
local macro_rules | `(tactic| walk_at "kit") => `(tactic| with_reducible exact Vc.kit_bool_dict)
local macro_rules | `(tactic| walk_at "kit") => `(tactic| with_reducible exact Vc.kit_bool_list)
local macro_rules | `(tactic| walk_at "kit") => `(tactic| with_reducible exact Vc.kit_bool_tuple)
local macro_rules | `(tactic| walk_at "kit") => `(tactic| with_reducible exact Vc.kit_bool_str)
local macro_rules | `(tactic| walk_at "kit") => `(tactic| with_reducible exact Vc.kit_bool_bool)
local macro_rules | `(tactic| walk_at "kit") => `(tactic| with_reducible exact Vc.kit_bool_int)
local macro_rules | `(tactic| walk_at "kit") => `(tactic| with_reducible exact Vc.kit_int_dict)
local macro_rules | `(tactic| walk_at "kit") => `(tactic| with_reducible exact Vc.kit_int_list)
local macro_rules | `(tactic| walk_at "kit") => `(tactic| with_reducible exact Vc.kit_int_tuple)
local macro_rules | `(tactic| walk_at "kit") => `(tactic| with_reducible exact Vc.kit_int_str)
local macro_rules | `(tactic| walk_at "kit") => `(tactic| with_reducible exact Vc.kit_int_bool)
local macro_rules | `(tactic| walk_at "kit") => `(tactic| with_reducible exact Vc.kit_int_int)
local macro_rules | `(tactic| walk_at "ty") => `(tactic| first | ((with_reducible refine' Vc.tyT ?h); (case h => walk_at "hs")) | fail)
local macro_rules | `(tactic| walk_at "ty") => `(tactic| first | ((with_reducible refine' Vc.tyL ?h); (case h => walk_at "hs")) | fail)
local macro_rules | `(tactic| walk_at "ty") => `(tactic| with_reducible exact .base .non)
local macro_rules | `(tactic| walk_at "ty") => `(tactic| with_reducible exact .base (.str _))
local macro_rules | `(tactic| walk_at "ty") => `(tactic| with_reducible exact .base (.bl _))
local macro_rules | `(tactic| walk_at "ty") => `(tactic| with_reducible exact .base (.int _))
local macro_rules | `(tactic| walk_at "bd") => `(tactic| first | ((with_reducible refine' Vc.ErrAt.ed0 ?e ?h); (case e => assumption); (case h => walk_at "bd")) | fail)
local macro_rules | `(tactic| walk_at "bd") => `(tactic| assumption)
local macro_rules | `(tactic| walk_at "fz") => `(tactic| first | ((with_reducible refine' Vc.frz' ?e ?h); (case e => assumption); (case h => walk_at "fz")) | fail)
local macro_rules | `(tactic| walk_at "fz") => `(tactic| assumption)
local macro_rules | `(tactic| walk_at "free") => `(tactic| first | ((with_reducible refine' Vc.Ed.back ?e ?h); (case e => assumption); (case h => walk_at "free")) | fail)
local macro_rules | `(tactic| walk_at "free") => `(tactic| assumption)
local macro_rules | `(tactic| walk_at "in") => `(tactic| first | ((with_reducible refine' Or.inr ?h); (case h => walk_at "free")) | fail)
local macro_rules | `(tactic| walk_at "in") => `(tactic| first | ((with_reducible refine' Or.inl ?h); (case h => (simp only [List.mem_cons, List.not_mem_nil, or_false, true_or, or_true]; done))) | fail)
local macro_rules | `(tactic| walk_at "ed") => `(tactic| first | ((with_reducible refine' Vc.Ed.two' ?b ?a ?h ?g); (case b => assumption); (case a => walk_at "ed"); (case h => walk_at "in"); (case g => walk_at "in")) | fail)
local macro_rules | `(tactic| walk_at "ed") => `(tactic| first | ((with_reducible refine' Vc.Ed.one' ?b ?a ?h); (case b => assumption); (case a => walk_at "ed"); (case h => walk_at "in")) | fail)
local macro_rules | `(tactic| walk_at "ed") => `(tactic| first | ((with_reducible refine' Vc.Ed.ex' ?b ?a); (case b => assumption); (case a => walk_at "ed")) | fail)
local macro_rules | `(tactic| walk_at "ed") => `(tactic| with_reducible exact Vc.Ed.refl)
local macro_rules | `(tactic| walk_at "ed") => `(tactic| assumption)
local macro_rules | `(tactic| walk_at "ne") => `(tactic| first | ((with_reducible refine' Vc.nek ?e ?h ?d); (case e => assumption); (case h => assumption); (case d => intro z; cases z)) | fail)
local macro_rules | `(tactic| walk_at "ne") => `(tactic| first | ((with_reducible refine' Vc.ne2 ?e ?h); (case e => assumption); (case h => walk_at "hs")) | fail)
local macro_rules | `(tactic| walk_at "ne") => `(tactic| first | ((with_reducible refine' Vc.ne1 ?e ?h); (case e => assumption); (case h => walk_at "hs")) | fail)
local macro_rules | `(tactic| walk_at "ne") => `(tactic| first | ((with_reducible refine' Ne.symm ?h); (case h => assumption)) | fail)
local macro_rules | `(tactic| walk_at "ne") => `(tactic| assumption)
local macro_rules | `(tactic| walk_at "hs") => `(tactic| first | ((with_reducible refine' Vc.Ed.sql1 ?e ?n ?h); (case e => assumption); (case n => walk_at "ne"); (case h => walk_at "hs")) | fail)
local macro_rules | `(tactic| walk_at "hs") => `(tactic| first | ((with_reducible refine' Vc.Ed.sql0 ?e ?h); (case e => assumption); (case h => walk_at "hs")) | fail)
local macro_rules | `(tactic| walk_at "hs") => `(tactic| first | ((with_reducible refine' Vc.Ed.sqt ?e ?h); (case e => assumption); (case h => walk_at "hs")) | fail)
local macro_rules | `(tactic| walk_at "hs") => `(tactic| first | ((with_reducible refine' Vc.sqt_of ?h); (case h => walk_at "hs")) | fail)
local macro_rules | `(tactic| walk_at "hs") => `(tactic| first | ((with_reducible refine' Vc.all_sqt ?h _); (case h => assumption)) | fail)
local macro_rules | `(tactic| walk_at "hs") => `(tactic| first | ((with_reducible refine' L2.SqL.of ?h); (case h => walk_at "hs")) | fail)
local macro_rules | `(tactic| walk_at "hs") => `(tactic| first | ((with_reducible refine' Vc.frz' ?e ?h); (case e => assumption); (case h => walk_at "hs")) | fail)
local macro_rules | `(tactic| walk_at "hs") => `(tactic| first | ((with_reducible refine' Vc.Ed.at2 ?e ?n ?m ?h); (case e => assumption); (case n => walk_at "ne"); (case m => walk_at "ne"); (case h => walk_at "hs")) | fail)
local macro_rules | `(tactic| walk_at "hs") => `(tactic| first | ((with_reducible refine' Vc.Ed.at1 ?e ?n ?h); (case e => assumption); (case n => walk_at "ne"); (case h => walk_at "hs")) | fail)
local macro_rules | `(tactic| walk_at "hs") => `(tactic| first | ((with_reducible refine' Vc.Ed.at0 ?e ?h); (case e => assumption); (case h => walk_at "hs")) | fail)
local macro_rules | `(tactic| walk_at "hs") => `(tactic| assumption)
local macro_rules | `(tactic| walk_at "fl") => `(tactic| first | assumption | rfl)
local macro_rules | `(tactic| walk_at "fn") => `(tactic| first | assumption | exact (show 0 < 1000 by decide) | exact (show 1 < 1000 by decide) | exact (show 2 < 1000 by decide) | exact (show 3 < 1000 by decide) | exact (show 4 < 1000 by decide) | exact (show 5 < 1000 by decide) | exact (show 6 < 1000 by decide))
local macro_rules | `(tactic| walk_at "flat") => `(tactic| first | assumption | rfl)
local macro_rules | `(tactic| walk_at "ix") => `(tactic| first | assumption | rfl)
local macro_rules | `(tactic| walk_at "dv") => `(tactic| first | assumption | rfl)
local macro_rules | `(tactic| walk_at "ln") => `(tactic| first | assumption | (simp only [List.length_cons, List.length_nil, List.length_append, List.length_map]; omega) | decide)
local macro_rules | `(tactic| walk_at "go") => `(tactic| repeat walk_at "go1")
local macro_rules | `(tactic| walk_at "side") => `(tactic| first
  | omega
  | (dsimp only; omega)
  | exact ⟨by omega, by omega, by omega⟩
  | exact Vc.mulw (by omega) (by omega)
  | exact Vc.divw (by omega) (by omega))
local macro_rules | `(tactic| walk_at "goo") => `(tactic| repeat walk_at "goo1")

namespace My
open PySem PySem.Spec PyProof.Rows L2
abbrev PG : Program := PySem.Challenge.pw_codestitch_k10_patches_made
def topS (i : Nat) : Stmt := PySem.Challenge.pw_codestitch_k10_patches_made.main.body.getD i (.Pass ⟨0, 0, 0, 0⟩)
abbrev s_is_byte : Stmt := topS 15
theorem sc_is_byte : FnScope ["value"] ["value"] (defScope s_is_byte) := ⟨rfl, rfl, rfl, by decide +kernel, rfl, by decide +kernel, by decide +kernel⟩
abbrev s_check_bytes : Stmt := topS 19
theorem sc_check_bytes : FnScope ["values", "at", "value"] ["values"] (defScope s_check_bytes) := ⟨rfl, rfl, rfl, by decide +kernel, rfl, by decide +kernel, by decide +kernel⟩
abbrev s_span_of : Stmt := topS 20
theorem sc_span_of : FnScope ["at", "size", "low", "high"] ["at", "size"] (defScope s_span_of) := ⟨rfl, rfl, rfl, by decide +kernel, rfl, by decide +kernel, by decide +kernel⟩
abbrev s_Imageu_initu : Stmt := inClass (topS 22) 0
theorem sc_Imageu_initu : FnScope ["self", "values", "cells"] ["self", "values"] (defScope s_Imageu_initu) := ⟨rfl, rfl, rfl, by decide +kernel, rfl, by decide +kernel, by decide +kernel⟩
abbrev s_Imageu_lenu : Stmt := inClass (topS 22) 1
theorem sc_Imageu_lenu : FnScope ["self"] ["self"] (defScope s_Imageu_lenu) := ⟨rfl, rfl, rfl, by decide +kernel, rfl, by decide +kernel, by decide +kernel⟩
abbrev s_Imageu_iteru : Stmt := inClass (topS 22) 2
theorem sc_Imageu_iteru : FnScope ["self"] ["self"] (defScope s_Imageu_iteru) := ⟨rfl, rfl, rfl, by decide +kernel, rfl, by decide +kernel, by decide +kernel⟩
abbrev s_Imageu_getitemu : Stmt := inClass (topS 22) 4
theorem sc_Imageu_getitemu : FnScope ["self", "at", "low", "high"] ["self", "at"] (defScope s_Imageu_getitemu) := ⟨rfl, rfl, rfl, by decide +kernel, rfl, by decide +kernel, by decide +kernel⟩
abbrev s_Patchu_initu : Stmt := inClass (topS 17) 0
theorem sc_Patchu_initu : FnScope ["self", "pairs", "order", "at"] ["self", "pairs"] (defScope s_Patchu_initu) := ⟨rfl, rfl, rfl, by decide +kernel, rfl, by decide +kernel, by decide +kernel⟩
abbrev s_Patch_of : Stmt := inClass (topS 17) 1
theorem sc_Patch_of : FnScope ["cls", "address", "values", "k", "value"] ["cls", "address", "values"] (defScope s_Patch_of) := ⟨rfl, rfl, rfl, by decide +kernel, rfl, by decide +kernel, by decide +kernel⟩
abbrev s_Patch_between : Stmt := inClass (topS 17) 2
theorem sc_Patch_between : FnScope ["old", "new", "first", "second", "at", "byte"] ["old", "new"] (defScope s_Patch_between) := ⟨rfl, rfl, rfl, by decide +kernel, rfl, by decide +kernel, by decide +kernel⟩
abbrev s_Patchu_lenu : Stmt := inClass (topS 17) 3
theorem sc_Patchu_lenu : FnScope ["self"] ["self"] (defScope s_Patchu_lenu) := ⟨rfl, rfl, rfl, by decide +kernel, rfl, by decide +kernel, by decide +kernel⟩
abbrev s_Patch_addresses : Stmt := inClass (topS 17) 5
theorem sc_Patch_addresses : FnScope ["self"] ["self"] (defScope s_Patch_addresses) := ⟨rfl, rfl, rfl, by decide +kernel, rfl, by decide +kernel, by decide +kernel⟩
abbrev s_Patchu_equ : Stmt := inClass (topS 17) 6
theorem sc_Patchu_equ : FnScope ["self", "other"] ["self", "other"] (defScope s_Patchu_equ) := ⟨rfl, rfl, rfl, by decide +kernel, rfl, by decide +kernel, by decide +kernel⟩
abbrev s_Patchu_containsu : Stmt := inClass (topS 17) 7
theorem sc_Patchu_containsu : FnScope ["self", "address"] ["self", "address"] (defScope s_Patchu_containsu) := ⟨rfl, rfl, rfl, by decide +kernel, rfl, by decide +kernel, by decide +kernel⟩
abbrev s_Patchu_getitemu : Stmt := inClass (topS 17) 8
theorem sc_Patchu_getitemu : FnScope ["self", "address"] ["self", "address"] (defScope s_Patchu_getitemu) := ⟨rfl, rfl, rfl, by decide +kernel, rfl, by decide +kernel, by decide +kernel⟩
abbrev s__law_pen : Stmt := topS 24
theorem sc__law_pen : FnScope ["_law_script"] ["_law_script"] (defScope s__law_pen) := ⟨rfl, rfl, rfl, by decide +kernel, rfl, by decide +kernel, by decide +kernel⟩
abbrev s__law_draw : Stmt := topS 25
theorem sc__law_draw : FnScope ["_law_pen_here", "_law_many", "_law_digit", "_law_at", "_law_cell", "_law_mixed"] ["_law_pen_here", "_law_many"] (defScope s__law_draw) := ⟨rfl, rfl, rfl, by decide +kernel, rfl, by decide +kernel, by decide +kernel⟩
abbrev s__law_pick : Stmt := topS 26
theorem sc__law_pick : FnScope ["_law_pen_here", "_law_some"] ["_law_pen_here", "_law_some"] (defScope s__law_pick) := ⟨rfl, rfl, rfl, by decide +kernel, rfl, by decide +kernel, by decide +kernel⟩
abbrev s__law_word : Stmt := topS 27
theorem sc__law_word : FnScope ["_law_error", "_law_found"] ["_law_error"] (defScope s__law_word) := ⟨rfl, rfl, rfl, by decide +kernel, rfl, by decide +kernel, by decide +kernel⟩
abbrev s__law_heard : Stmt := topS 28
theorem sc__law_heard : FnScope ["_law_asked", "_law_caught", "_law_found", "_law_error"] ["_law_asked"] (defScope s__law_heard) := ⟨rfl, rfl, rfl, by decide +kernel, rfl, by decide +kernel, by decide +kernel⟩
abbrev s__law_cells : Stmt := topS 29
theorem sc__law_cells : FnScope ["_law_row"] ["_law_row"] (defScope s__law_cells) := ⟨rfl, rfl, rfl, by decide +kernel, rfl, by decide +kernel, by decide +kernel⟩
abbrev s__law_pairs : Stmt := topS 30
theorem sc__law_pairs : FnScope ["_law_pen_here", "_law_found", "_law_k", "_law_value", "_law_at"] ["_law_pen_here"] (defScope s__law_pairs) := ⟨rfl, rfl, rfl, by decide +kernel, rfl, by decide +kernel, by decide +kernel⟩
abbrev s__law_due : Stmt := topS 31
theorem sc__law_due : FnScope ["_law_pairs_here", "_law_below", "_law_bad", "_law_at"] ["_law_pairs_here"] (defScope s__law_due) := ⟨rfl, rfl, rfl, by decide +kernel, rfl, by decide +kernel, by decide +kernel⟩
abbrev s__law_shown : Stmt := topS 32
theorem sc__law_shown : FnScope ["_law_patch", "_law_at"] ["_law_patch"] (defScope s__law_shown) := ⟨rfl, rfl, rfl, by decide +kernel, rfl, by decide +kernel, by decide +kernel⟩
abbrev s__law_odd : Stmt := topS 33
theorem sc__law_odd : FnScope [] [] (defScope s__law_odd) := ⟨rfl, rfl, rfl, by decide +kernel, rfl, by decide +kernel, by decide +kernel⟩
abbrev s__law_looked : Stmt := topS 34
theorem sc__law_looked : FnScope ["_law_patch", "_law_pairs_here", "_law_at", "_law_has", "_law_due_here", "_law_found"] ["_law_patch", "_law_pairs_here"] (defScope s__law_looked) := ⟨rfl, rfl, rfl, by decide +kernel, rfl, by decide +kernel, by decide +kernel⟩
abbrev s__law_made_right : Stmt := topS 35
theorem sc__law_made_right : FnScope ["_law_pairs_here", "_law_handed", "_law_turned_about", "_law_due_here", "_law_row", "_law_patch", "_law_less", "_law_more", "_law_at", "_law_thing"] ["_law_pairs_here"] (defScope s__law_made_right) := ⟨rfl, rfl, rfl, by decide +kernel, rfl, by decide +kernel, by decide +kernel⟩
abbrev s__law_of : Stmt := topS 36
theorem sc__law_of : FnScope ["_law_first", "_law_row"] ["_law_first", "_law_row"] (defScope s__law_of) := ⟨rfl, rfl, rfl, by decide +kernel, rfl, by decide +kernel, by decide +kernel⟩
abbrev s__law_of_right : Stmt := topS 37
theorem sc__law_of_right : FnScope ["_law_pen_here", "_law_many", "_law_row", "_law_first", "_law_pairs_here", "_law_k"] ["_law_pen_here"] (defScope s__law_of_right) := ⟨rfl, rfl, rfl, by decide +kernel, rfl, by decide +kernel, by decide +kernel⟩
abbrev s__law_of_none_right : Stmt := topS 38
theorem sc__law_of_none_right : FnScope ["_law_first"] [] (defScope s__law_of_none_right) := ⟨rfl, rfl, rfl, by decide +kernel, rfl, by decide +kernel, by decide +kernel⟩
abbrev s__law_between_right : Stmt := topS 39
theorem sc__law_between_right : FnScope ["_law_pen_here", "_law_old", "_law_new", "_law_due_here", "_law_one", "_law_other", "_law_k", "_law_byte", "_law_at"] ["_law_pen_here"] (defScope s__law_between_right) := ⟨rfl, rfl, rfl, by decide +kernel, rfl, by decide +kernel, by decide +kernel⟩
abbrev s_law : Stmt := topS 40
theorem sc_law : FnScope ["_law_script", "_law_pen_here", "_law_turn"] ["_law_script"] (defScope s_law) := ⟨rfl, rfl, rfl, by decide +kernel, rfl, by decide +kernel, by decide +kernel⟩
abbrev s_BadAddressu_initu : Stmt := inClass (topS 9) 0
theorem sc_BadAddressu_initu : Vc.SupScope ["self", "at"] ["self", "at"] (defScope s_BadAddressu_initu) := ⟨rfl, rfl, rfl, by decide +kernel, rfl, by decide +kernel, by decide +kernel, by decide +kernel, rfl, rfl⟩
abbrev s_BadByteu_initu : Stmt := inClass (topS 8) 0
theorem sc_BadByteu_initu : Vc.SupScope ["self", "at"] ["self", "at"] (defScope s_BadByteu_initu) := ⟨rfl, rfl, rfl, by decide +kernel, rfl, by decide +kernel, by decide +kernel, by decide +kernel, rfl, rfl⟩
abbrev s_UnlikeLengthsu_initu : Stmt := inClass (topS 10) 0
theorem sc_UnlikeLengthsu_initu : Vc.SupScope ["self", "one", "other"] ["self", "one", "other"] (defScope s_UnlikeLengthsu_initu) := ⟨rfl, rfl, rfl, by decide +kernel, rfl, by decide +kernel, by decide +kernel, by decide +kernel, rfl, rfl⟩
structure Ad where
  C_Image : Addr
  C_Patch : Addr
  f_is_byte : Addr
  d_is_byte : FuncData
  f_check_bytes : Addr
  d_check_bytes : FuncData
  f_span_of : Addr
  d_span_of : FuncData
  f_Imageu_initu : Addr
  d_Imageu_initu : FuncData
  f_Imageu_lenu : Addr
  d_Imageu_lenu : FuncData
  f_Imageu_iteru : Addr
  d_Imageu_iteru : FuncData
  f_Imageu_getitemu : Addr
  d_Imageu_getitemu : FuncData
  f_Patchu_initu : Addr
  d_Patchu_initu : FuncData
  f_Patch_of : Addr
  d_Patch_of : FuncData
  sm_Patch_of : Addr
  f_Patch_between : Addr
  d_Patch_between : FuncData
  sm_Patch_between : Addr
  f_Patchu_lenu : Addr
  d_Patchu_lenu : FuncData
  f_Patch_addresses : Addr
  d_Patch_addresses : FuncData
  f_Patchu_equ : Addr
  d_Patchu_equ : FuncData
  f_Patchu_containsu : Addr
  d_Patchu_containsu : FuncData
  f_Patchu_getitemu : Addr
  d_Patchu_getitemu : FuncData
  f__law_pen : Addr
  d__law_pen : FuncData
  f__law_draw : Addr
  d__law_draw : FuncData
  f__law_pick : Addr
  d__law_pick : FuncData
  f__law_word : Addr
  d__law_word : FuncData
  f__law_heard : Addr
  d__law_heard : FuncData
  f__law_cells : Addr
  d__law_cells : FuncData
  f__law_pairs : Addr
  d__law_pairs : FuncData
  f__law_due : Addr
  d__law_due : FuncData
  f__law_shown : Addr
  d__law_shown : FuncData
  f__law_odd : Addr
  d__law_odd : FuncData
  f__law_looked : Addr
  d__law_looked : FuncData
  f__law_made_right : Addr
  d__law_made_right : FuncData
  f__law_of : Addr
  d__law_of : FuncData
  f__law_of_right : Addr
  d__law_of_right : FuncData
  f__law_of_none_right : Addr
  d__law_of_none_right : FuncData
  f__law_between_right : Addr
  d__law_between_right : FuncData
  f_law : Addr
  d_law : FuncData
  C_CodeError : Addr
  C_BadCodes : Addr
  C_BadLayout : Addr
  C_BadRewrite : Addr
  C_BadStep : Addr
  C_BadText : Addr
  C_NotRight : Addr
  C_NoWay : Addr
  C_BadInput : Addr
  C_BadAddress : Addr
  f_BadAddressu_initu : Addr
  d_BadAddressu_initu : FuncData
  C_BadByte : Addr
  f_BadByteu_initu : Addr
  d_BadByteu_initu : FuncData
  C_UnlikeLengths : Addr
  f_UnlikeLengthsu_initu : Addr
  d_UnlikeLengthsu_initu : FuncData
structure Txt (K : PySem.W.Frag) (mg : Str → Option Value) (A : Ad) : Prop where
  g_Image : mg "Image" = some (.ref A.C_Image)
  g_Patch : mg "Patch" = some (.ref A.C_Patch)
  g_is_byte : mg "is_byte" = some (.ref A.f_is_byte)
  F_is_byte : Fun K "is_byte" "is_byte" s_is_byte A.f_is_byte A.d_is_byte
  b_is_byte : Binds K A.d_is_byte ["value"] []
  g_check_bytes : mg "check_bytes" = some (.ref A.f_check_bytes)
  F_check_bytes : Fun K "check_bytes" "check_bytes" s_check_bytes A.f_check_bytes A.d_check_bytes
  b_check_bytes : Binds K A.d_check_bytes ["values"] []
  g_span_of : mg "span_of" = some (.ref A.f_span_of)
  F_span_of : Fun K "span_of" "span_of" s_span_of A.f_span_of A.d_span_of
  b_span_of : Binds K A.d_span_of ["at", "size"] []
  F_Imageu_initu : Fun K "__init__" "Image.__init__" s_Imageu_initu A.f_Imageu_initu A.d_Imageu_initu
  b_Imageu_initu : Binds K A.d_Imageu_initu ["self", "values"] []
  F_Imageu_lenu : Fun K "__len__" "Image.__len__" s_Imageu_lenu A.f_Imageu_lenu A.d_Imageu_lenu
  b_Imageu_lenu : Binds K A.d_Imageu_lenu ["self"] []
  F_Imageu_iteru : Fun K "__iter__" "Image.__iter__" s_Imageu_iteru A.f_Imageu_iteru A.d_Imageu_iteru
  b_Imageu_iteru : Binds K A.d_Imageu_iteru ["self"] []
  F_Imageu_getitemu : Fun K "__getitem__" "Image.__getitem__" s_Imageu_getitemu A.f_Imageu_getitemu A.d_Imageu_getitemu
  b_Imageu_getitemu : Binds K A.d_Imageu_getitemu ["self", "at"] []
  F_Patchu_initu : Fun K "__init__" "Patch.__init__" s_Patchu_initu A.f_Patchu_initu A.d_Patchu_initu
  b_Patchu_initu : Binds K A.d_Patchu_initu ["self", "pairs"] []
  cm_Patch_of : ClX.CMet K A.C_Patch (.type "type") "of" A.sm_Patch_of A.f_Patch_of
  F_Patch_of : Fun K "of" "Patch.of" s_Patch_of A.f_Patch_of A.d_Patch_of
  b_Patch_of : Vc.BindV A.d_Patch_of ["cls", "address"] "values"
  sm_Patch_between : Vc.SMet K A.C_Patch (.type "type") "between" A.sm_Patch_between A.f_Patch_between
  F_Patch_between : Fun K "between" "Patch.between" s_Patch_between A.f_Patch_between A.d_Patch_between
  b_Patch_between : Binds K A.d_Patch_between ["old", "new"] []
  F_Patchu_lenu : Fun K "__len__" "Patch.__len__" s_Patchu_lenu A.f_Patchu_lenu A.d_Patchu_lenu
  b_Patchu_lenu : Binds K A.d_Patchu_lenu ["self"] []
  F_Patch_addresses : Fun K "addresses" "Patch.addresses" s_Patch_addresses A.f_Patch_addresses A.d_Patch_addresses
  b_Patch_addresses : Binds K A.d_Patch_addresses ["self"] []
  F_Patchu_equ : Fun K "__eq__" "Patch.__eq__" s_Patchu_equ A.f_Patchu_equ A.d_Patchu_equ
  b_Patchu_equ : Binds K A.d_Patchu_equ ["self", "other"] []
  F_Patchu_containsu : Fun K "__contains__" "Patch.__contains__" s_Patchu_containsu A.f_Patchu_containsu A.d_Patchu_containsu
  b_Patchu_containsu : Binds K A.d_Patchu_containsu ["self", "address"] []
  F_Patchu_getitemu : Fun K "__getitem__" "Patch.__getitem__" s_Patchu_getitemu A.f_Patchu_getitemu A.d_Patchu_getitemu
  b_Patchu_getitemu : Binds K A.d_Patchu_getitemu ["self", "address"] []
  g__law_pen : mg "_law_pen" = some (.ref A.f__law_pen)
  F__law_pen : Fun K "_law_pen" "_law_pen" s__law_pen A.f__law_pen A.d__law_pen
  b__law_pen : Binds K A.d__law_pen ["_law_script"] []
  g__law_draw : mg "_law_draw" = some (.ref A.f__law_draw)
  F__law_draw : Fun K "_law_draw" "_law_draw" s__law_draw A.f__law_draw A.d__law_draw
  b__law_draw : Binds K A.d__law_draw ["_law_pen_here", "_law_many"] []
  g__law_pick : mg "_law_pick" = some (.ref A.f__law_pick)
  F__law_pick : Fun K "_law_pick" "_law_pick" s__law_pick A.f__law_pick A.d__law_pick
  b__law_pick : Binds K A.d__law_pick ["_law_pen_here", "_law_some"] []
  g__law_word : mg "_law_word" = some (.ref A.f__law_word)
  F__law_word : Fun K "_law_word" "_law_word" s__law_word A.f__law_word A.d__law_word
  b__law_word : Binds K A.d__law_word ["_law_error"] []
  g__law_heard : mg "_law_heard" = some (.ref A.f__law_heard)
  F__law_heard : Fun K "_law_heard" "_law_heard" s__law_heard A.f__law_heard A.d__law_heard
  b__law_heard : Binds K A.d__law_heard ["_law_asked"] []
  g__law_cells : mg "_law_cells" = some (.ref A.f__law_cells)
  F__law_cells : Fun K "_law_cells" "_law_cells" s__law_cells A.f__law_cells A.d__law_cells
  b__law_cells : Binds K A.d__law_cells ["_law_row"] []
  g__law_pairs : mg "_law_pairs" = some (.ref A.f__law_pairs)
  F__law_pairs : Fun K "_law_pairs" "_law_pairs" s__law_pairs A.f__law_pairs A.d__law_pairs
  b__law_pairs : Binds K A.d__law_pairs ["_law_pen_here"] []
  g__law_due : mg "_law_due" = some (.ref A.f__law_due)
  F__law_due : Fun K "_law_due" "_law_due" s__law_due A.f__law_due A.d__law_due
  b__law_due : Binds K A.d__law_due ["_law_pairs_here"] []
  g__law_shown : mg "_law_shown" = some (.ref A.f__law_shown)
  F__law_shown : Fun K "_law_shown" "_law_shown" s__law_shown A.f__law_shown A.d__law_shown
  b__law_shown : Binds K A.d__law_shown ["_law_patch"] []
  g__law_odd : mg "_law_odd" = some (.ref A.f__law_odd)
  F__law_odd : Fun K "_law_odd" "_law_odd" s__law_odd A.f__law_odd A.d__law_odd
  b__law_odd : Binds K A.d__law_odd [] []
  g__law_looked : mg "_law_looked" = some (.ref A.f__law_looked)
  F__law_looked : Fun K "_law_looked" "_law_looked" s__law_looked A.f__law_looked A.d__law_looked
  b__law_looked : Binds K A.d__law_looked ["_law_patch", "_law_pairs_here"] []
  g__law_made_right : mg "_law_made_right" = some (.ref A.f__law_made_right)
  F__law_made_right : Fun K "_law_made_right" "_law_made_right" s__law_made_right A.f__law_made_right A.d__law_made_right
  b__law_made_right : Binds K A.d__law_made_right ["_law_pairs_here"] []
  g__law_of : mg "_law_of" = some (.ref A.f__law_of)
  F__law_of : Fun K "_law_of" "_law_of" s__law_of A.f__law_of A.d__law_of
  b__law_of : Binds K A.d__law_of ["_law_first", "_law_row"] []
  g__law_of_right : mg "_law_of_right" = some (.ref A.f__law_of_right)
  F__law_of_right : Fun K "_law_of_right" "_law_of_right" s__law_of_right A.f__law_of_right A.d__law_of_right
  b__law_of_right : Binds K A.d__law_of_right ["_law_pen_here"] []
  g__law_of_none_right : mg "_law_of_none_right" = some (.ref A.f__law_of_none_right)
  F__law_of_none_right : Fun K "_law_of_none_right" "_law_of_none_right" s__law_of_none_right A.f__law_of_none_right A.d__law_of_none_right
  b__law_of_none_right : Binds K A.d__law_of_none_right [] []
  g__law_between_right : mg "_law_between_right" = some (.ref A.f__law_between_right)
  F__law_between_right : Fun K "_law_between_right" "_law_between_right" s__law_between_right A.f__law_between_right A.d__law_between_right
  b__law_between_right : Binds K A.d__law_between_right ["_law_pen_here"] []
  g_law : mg "law" = some (.ref A.f_law)
  F_law : Fun K "law" "law" s_law A.f_law A.d_law
  b_law : Binds K A.d_law ["_law_script"] []
  cl_Image : Cls K A.C_Image
  mk_Image : Mk K A.C_Image A.f_Imageu_initu
  no_Image_cells : NoAttr K A.C_Image "cells"
  cl_Patch : Cls K A.C_Patch
  mk_Patch : Mk K A.C_Patch A.f_Patchu_initu
  m_Patch_addresses : Meth K A.C_Patch "addresses" A.f_Patch_addresses
  no_Patch_pairs : NoAttr K A.C_Patch "pairs"
  n_len : mg "len" = none
  n_abs : mg "abs" = none
  n_int : mg "int" = none
  n_list : mg "list" = none
  n_range : mg "range" = none
  n_isinstance : mg "isinstance" = none
  n_bool : mg "bool" = none
  n_str : mg "str" = none
  n_tuple : mg "tuple" = none
  n_all : mg "all" = none
  n_set : mg "set" = none
  n_sorted : mg "sorted" = none
  n_ValueError : mg "ValueError" = none
  n_repr : mg "repr" = none
  n_max : mg "max" = none
  n_min : mg "min" = none
  n_iter : mg "iter" = none
  n_enumerate : mg "enumerate" = none
  n_dict : mg "dict" = none
  g_CodeError : mg "CodeError" = some (.ref A.C_CodeError)
  g_BadCodes : mg "BadCodes" = some (.ref A.C_BadCodes)
  g_BadLayout : mg "BadLayout" = some (.ref A.C_BadLayout)
  g_BadRewrite : mg "BadRewrite" = some (.ref A.C_BadRewrite)
  g_BadStep : mg "BadStep" = some (.ref A.C_BadStep)
  g_BadText : mg "BadText" = some (.ref A.C_BadText)
  g_NotRight : mg "NotRight" = some (.ref A.C_NotRight)
  g_NoWay : mg "NoWay" = some (.ref A.C_NoWay)
  g_BadInput : mg "BadInput" = some (.ref A.C_BadInput)
  g_BadAddress : mg "BadAddress" = some (.ref A.C_BadAddress)
  ox_BadAddress : OexC K A.C_BadAddress
  i_BadAddress : PySem.W.findIn K (.ref A.C_BadAddress) "__init__" = some (some (.ref A.f_BadAddressu_initu))
  ti_BadAddress : PySem.W.typeIn K (.ref A.f_BadAddressu_initu) = some (.type "function")
  no_BadAddress_at : PySem.W.findIn K (.ref A.C_BadAddress) "at" = some none
  xf_BadAddress : XfC K A.C_BadAddress
  ec_BadAddress : ExcC K A.C_BadAddress
  F_BadAddressu_initu : Vc.FunS PySem.Challenge.pw_codestitch_k10_patches_made K mg "__init__" "BadAddress.__init__" s_BadAddressu_initu A.f_BadAddressu_initu A.d_BadAddressu_initu A.C_BadAddress "self"
  b_BadAddressu_initu : Binds K A.d_BadAddressu_initu ["self", "at"] []
  g_BadByte : mg "BadByte" = some (.ref A.C_BadByte)
  ox_BadByte : OexC K A.C_BadByte
  i_BadByte : PySem.W.findIn K (.ref A.C_BadByte) "__init__" = some (some (.ref A.f_BadByteu_initu))
  ti_BadByte : PySem.W.typeIn K (.ref A.f_BadByteu_initu) = some (.type "function")
  no_BadByte_at : PySem.W.findIn K (.ref A.C_BadByte) "at" = some none
  xf_BadByte : XfC K A.C_BadByte
  ec_BadByte : ExcC K A.C_BadByte
  F_BadByteu_initu : Vc.FunS PySem.Challenge.pw_codestitch_k10_patches_made K mg "__init__" "BadByte.__init__" s_BadByteu_initu A.f_BadByteu_initu A.d_BadByteu_initu A.C_BadByte "self"
  b_BadByteu_initu : Binds K A.d_BadByteu_initu ["self", "at"] []
  g_UnlikeLengths : mg "UnlikeLengths" = some (.ref A.C_UnlikeLengths)
  ox_UnlikeLengths : OexC K A.C_UnlikeLengths
  i_UnlikeLengths : PySem.W.findIn K (.ref A.C_UnlikeLengths) "__init__" = some (some (.ref A.f_UnlikeLengthsu_initu))
  ti_UnlikeLengths : PySem.W.typeIn K (.ref A.f_UnlikeLengthsu_initu) = some (.type "function")
  no_UnlikeLengths_one : PySem.W.findIn K (.ref A.C_UnlikeLengths) "one" = some none
  no_UnlikeLengths_other : PySem.W.findIn K (.ref A.C_UnlikeLengths) "other" = some none
  xf_UnlikeLengths : XfC K A.C_UnlikeLengths
  ec_UnlikeLengths : ExcC K A.C_UnlikeLengths
  F_UnlikeLengthsu_initu : Vc.FunS PySem.Challenge.pw_codestitch_k10_patches_made K mg "__init__" "UnlikeLengths.__init__" s_UnlikeLengthsu_initu A.f_UnlikeLengthsu_initu A.d_UnlikeLengthsu_initu A.C_UnlikeLengths "self"
  b_UnlikeLengthsu_initu : Binds K A.d_UnlikeLengthsu_initu ["self", "one", "other"] []
  kit_BadAddress_BadAddress : PySem.W.kitOne K (.ref A.C_BadAddress) (.ref A.C_BadAddress) = some true
  kit_BadAddress_BadByte : PySem.W.kitOne K (.ref A.C_BadAddress) (.ref A.C_BadByte) = some false
  kit_BadAddress_UnlikeLengths : PySem.W.kitOne K (.ref A.C_BadAddress) (.ref A.C_UnlikeLengths) = some false
  kit_BadAddress_BadCodes : PySem.W.kitOne K (.ref A.C_BadAddress) (.ref A.C_BadCodes) = some false
  kit_BadAddress_BadLayout : PySem.W.kitOne K (.ref A.C_BadAddress) (.ref A.C_BadLayout) = some false
  kit_BadAddress_BadRewrite : PySem.W.kitOne K (.ref A.C_BadAddress) (.ref A.C_BadRewrite) = some false
  kit_BadAddress_BadStep : PySem.W.kitOne K (.ref A.C_BadAddress) (.ref A.C_BadStep) = some false
  kit_BadAddress_BadText : PySem.W.kitOne K (.ref A.C_BadAddress) (.ref A.C_BadText) = some false
  kit_BadAddress_NotRight : PySem.W.kitOne K (.ref A.C_BadAddress) (.ref A.C_NotRight) = some false
  kit_BadAddress_NoWay : PySem.W.kitOne K (.ref A.C_BadAddress) (.ref A.C_NoWay) = some false
  kit_BadAddress_BadInput : PySem.W.kitOne K (.ref A.C_BadAddress) (.ref A.C_BadInput) = some true
  kit_BadAddress_ValueError : PySem.W.kitOne K (.ref A.C_BadAddress) (.type "ValueError") = some true
  kit_BadByte_BadAddress : PySem.W.kitOne K (.ref A.C_BadByte) (.ref A.C_BadAddress) = some false
  kit_BadByte_BadByte : PySem.W.kitOne K (.ref A.C_BadByte) (.ref A.C_BadByte) = some true
  kit_BadByte_UnlikeLengths : PySem.W.kitOne K (.ref A.C_BadByte) (.ref A.C_UnlikeLengths) = some false
  kit_BadByte_BadCodes : PySem.W.kitOne K (.ref A.C_BadByte) (.ref A.C_BadCodes) = some false
  kit_BadByte_BadLayout : PySem.W.kitOne K (.ref A.C_BadByte) (.ref A.C_BadLayout) = some false
  kit_BadByte_BadRewrite : PySem.W.kitOne K (.ref A.C_BadByte) (.ref A.C_BadRewrite) = some false
  kit_BadByte_BadStep : PySem.W.kitOne K (.ref A.C_BadByte) (.ref A.C_BadStep) = some false
  kit_BadByte_BadText : PySem.W.kitOne K (.ref A.C_BadByte) (.ref A.C_BadText) = some false
  kit_BadByte_NotRight : PySem.W.kitOne K (.ref A.C_BadByte) (.ref A.C_NotRight) = some false
  kit_BadByte_NoWay : PySem.W.kitOne K (.ref A.C_BadByte) (.ref A.C_NoWay) = some false
  kit_BadByte_BadInput : PySem.W.kitOne K (.ref A.C_BadByte) (.ref A.C_BadInput) = some true
  kit_BadByte_ValueError : PySem.W.kitOne K (.ref A.C_BadByte) (.type "ValueError") = some true
  kit_UnlikeLengths_BadAddress : PySem.W.kitOne K (.ref A.C_UnlikeLengths) (.ref A.C_BadAddress) = some false
  kit_UnlikeLengths_BadByte : PySem.W.kitOne K (.ref A.C_UnlikeLengths) (.ref A.C_BadByte) = some false
  kit_UnlikeLengths_UnlikeLengths : PySem.W.kitOne K (.ref A.C_UnlikeLengths) (.ref A.C_UnlikeLengths) = some true
  kit_UnlikeLengths_BadCodes : PySem.W.kitOne K (.ref A.C_UnlikeLengths) (.ref A.C_BadCodes) = some false
  kit_UnlikeLengths_BadLayout : PySem.W.kitOne K (.ref A.C_UnlikeLengths) (.ref A.C_BadLayout) = some false
  kit_UnlikeLengths_BadRewrite : PySem.W.kitOne K (.ref A.C_UnlikeLengths) (.ref A.C_BadRewrite) = some false
  kit_UnlikeLengths_BadStep : PySem.W.kitOne K (.ref A.C_UnlikeLengths) (.ref A.C_BadStep) = some false
  kit_UnlikeLengths_BadText : PySem.W.kitOne K (.ref A.C_UnlikeLengths) (.ref A.C_BadText) = some false
  kit_UnlikeLengths_NotRight : PySem.W.kitOne K (.ref A.C_UnlikeLengths) (.ref A.C_NotRight) = some false
  kit_UnlikeLengths_NoWay : PySem.W.kitOne K (.ref A.C_UnlikeLengths) (.ref A.C_NoWay) = some false
  kit_UnlikeLengths_BadInput : PySem.W.kitOne K (.ref A.C_UnlikeLengths) (.ref A.C_BadInput) = some true
  kit_UnlikeLengths_ValueError : PySem.W.kitOne K (.ref A.C_UnlikeLengths) (.type "ValueError") = some true
  exm_BadAddress_CodeError : PySem.W.exmOne K (.ref A.C_BadAddress) (.ref A.C_CodeError) = some true
  exm_BadByte_CodeError : PySem.W.exmOne K (.ref A.C_BadByte) (.ref A.C_CodeError) = some true
  exm_UnlikeLengths_CodeError : PySem.W.exmOne K (.ref A.C_UnlikeLengths) (.ref A.C_CodeError) = some true
  ic_Image : C8.InsC K A.C_Image
  ic_Patch : C8.InsC K A.C_Patch
  eq_Patch : Vc.EqM K A.C_Patch A.f_Patchu_equ
  kt_list_Image : PySem.W.kitOne K (.type "list") (.ref A.C_Image) = some false
  kt_tuple_Image : PySem.W.kitOne K (.type "tuple") (.ref A.C_Image) = some false
  kt_NoneType_Patch : PySem.W.kitOne K (.type "NoneType") (.ref A.C_Patch) = some false
  kt_bool_Patch : PySem.W.kitOne K (.type "bool") (.ref A.C_Patch) = some false
  kt_int_Patch : PySem.W.kitOne K (.type "int") (.ref A.C_Patch) = some false
  kt_str_Patch : PySem.W.kitOne K (.type "str") (.ref A.C_Patch) = some false
  kt_dict_Patch : PySem.W.kitOne K (.type "dict") (.ref A.C_Patch) = some false
  kt_list_Patch : PySem.W.kitOne K (.type "list") (.ref A.C_Patch) = some false
  kt_tuple_Patch : PySem.W.kitOne K (.type "tuple") (.ref A.C_Patch) = some false
  nf_Patch_Patch : PySem.W.notFirst K A.C_Patch (.ref A.C_Patch) = true
  nf_NoneType_Patch : PySem.W.notFirst K A.C_Patch (.type "NoneType") = true
  nf_bool_Patch : PySem.W.notFirst K A.C_Patch (.type "bool") = true
  nf_int_Patch : PySem.W.notFirst K A.C_Patch (.type "int") = true
  nf_str_Patch : PySem.W.notFirst K A.C_Patch (.type "str") = true
  nf_dict_Patch : PySem.W.notFirst K A.C_Patch (.type "dict") = true
  nf_list_Patch : PySem.W.notFirst K A.C_Patch (.type "list") = true
  nf_tuple_Patch : PySem.W.notFirst K A.C_Patch (.type "tuple") = true
  sp_Image_Imageu_iteru : Vc.SpM K A.C_Image A.f_Imageu_iteru "__iter__"
  sp_Image_Imageu_lenu : Vc.SpM K A.C_Image A.f_Imageu_lenu "__len__"
  sp_Image_Imageu_getitemu : Vc.SpM K A.C_Image A.f_Imageu_getitemu "__getitem__"
  spf_Imageu_getitemu : PySem.W.fnIn K A.f_Imageu_getitemu = true
  sp_Patch_Patchu_getitemu : Vc.SpM K A.C_Patch A.f_Patchu_getitemu "__getitem__"
  spf_Patchu_getitemu : PySem.W.fnIn K A.f_Patchu_getitemu = true
  sp_Patch_Patchu_containsu : Vc.SpM K A.C_Patch A.f_Patchu_containsu "__contains__"
  sp_Patch_Patchu_lenu : Vc.SpM K A.C_Patch A.f_Patchu_lenu "__len__"
  cr_Patch : ClX.CRead K A.C_Patch (.type "type")
end My
namespace My
section
open PySem PySem.Spec PyProof.Rows L2
/-! ### what stands behind the top -/
def fa0 : List (PySem.W.Frag → Bool) := [
  fun K => decide (PySem.W.nsIn K mainGlobals "Image" = some (some (.ref 461))),
  fun K => decide (PySem.W.nsIn K mainGlobals "Patch" = some (some (.ref 353))),
  fun K => decide (PySem.W.nsIn K mainGlobals "is_byte" = some (some (.ref 245))),
  fun K => Hx.fdB K 245 (Hx.pPlain K "is_byte"),
  fun K => PySem.W.keepIn K (.ref 245),
  fun K => decide (PySem.W.nsIn K mainGlobals "check_bytes" = some (some (.ref 364))),
  fun K => Hx.fdB K 364 (Hx.pPlain K "check_bytes"),
  fun K => PySem.W.keepIn K (.ref 364),
  fun K => decide (PySem.W.nsIn K mainGlobals "span_of" = some (some (.ref 371))),
  fun K => Hx.fdB K 371 (Hx.pPlain K "span_of"),
  fun K => PySem.W.keepIn K (.ref 371),
  fun K => decide (PySem.W.findIn K (.ref 461) "__init__" = some (some (.ref 390))),
  fun K => PySem.W.isFn K (.ref 390),
  fun K => Hx.fdB K 390 (Hx.pPlain K "Image.__init__"),
  fun K => PySem.W.keepIn K (.ref 390),
  fun K => decide (PySem.W.findIn K (.ref 461) "__len__" = some (some (.ref 397))),
  fun K => PySem.W.isFn K (.ref 397),
  fun K => Hx.fdB K 397 (Hx.pPlain K "Image.__len__"),
  fun K => PySem.W.keepIn K (.ref 397),
  fun K => decide (PySem.W.findIn K (.ref 461) "__iter__" = some (some (.ref 404))),
  fun K => PySem.W.isFn K (.ref 404),
  fun K => Hx.fdB K 404 (Hx.pPlain K "Image.__iter__"),
  fun K => PySem.W.keepIn K (.ref 404),
  fun K => decide (PySem.W.findIn K (.ref 461) "__getitem__" = some (some (.ref 418))),
  fun K => PySem.W.isFn K (.ref 418),
  fun K => Hx.fdB K 418 (Hx.pPlain K "Image.__getitem__"),
  fun K => PySem.W.keepIn K (.ref 418),
  fun K => decide (PySem.W.findIn K (.ref 353) "__init__" = some (some (.ref 257))),
  fun K => PySem.W.isFn K (.ref 257),
  fun K => Hx.fdB K 257 (Hx.pPlain K "Patch.__init__"),
  fun K => PySem.W.keepIn K (.ref 257),
  fun K => Hx.fcC K 353 "of" 264,
  fun K => Hx.recB1 K 264 "classmethod" 262,
  fun K => PySem.W.fnIn K 262,
  fun K => Hx.fdB K 262 (Hx.pPlain K "Patch.of"),
  fun K => PySem.W.keepIn K (.ref 262),
  fun K => Hx.fcS K 353 "between" 272,
  fun K => Hx.recB1 K 272 "staticmethod" 270,
  fun K => Hx.fdB K 270 (Hx.pPlain K "Patch.between"),
  fun K => PySem.W.keepIn K (.ref 270)]
def fa1 : List (PySem.W.Frag → Bool) := [
  fun K => decide (PySem.W.findIn K (.ref 353) "__len__" = some (some (.ref 280))),
  fun K => PySem.W.isFn K (.ref 280),
  fun K => Hx.fdB K 280 (Hx.pPlain K "Patch.__len__"),
  fun K => PySem.W.keepIn K (.ref 280),
  fun K => decide (PySem.W.findIn K (.ref 353) "addresses" = some (some (.ref 294))),
  fun K => PySem.W.isFn K (.ref 294),
  fun K => Hx.fdB K 294 (Hx.pPlain K "Patch.addresses"),
  fun K => PySem.W.keepIn K (.ref 294),
  fun K => decide (PySem.W.findIn K (.ref 353) "__eq__" = some (some (.ref 301))),
  fun K => PySem.W.isFn K (.ref 301),
  fun K => Hx.fdB K 301 (Hx.pPlain K "Patch.__eq__"),
  fun K => PySem.W.keepIn K (.ref 301),
  fun K => decide (PySem.W.findIn K (.ref 353) "__contains__" = some (some (.ref 308))),
  fun K => PySem.W.isFn K (.ref 308),
  fun K => Hx.fdB K 308 (Hx.pPlain K "Patch.__contains__"),
  fun K => PySem.W.keepIn K (.ref 308),
  fun K => decide (PySem.W.findIn K (.ref 353) "__getitem__" = some (some (.ref 315))),
  fun K => PySem.W.isFn K (.ref 315),
  fun K => Hx.fdB K 315 (Hx.pPlain K "Patch.__getitem__"),
  fun K => PySem.W.keepIn K (.ref 315),
  fun K => decide (PySem.W.nsIn K mainGlobals "_law_pen" = some (some (.ref 472))),
  fun K => Hx.fdB K 472 (Hx.pPlain K "_law_pen"),
  fun K => PySem.W.keepIn K (.ref 472),
  fun K => decide (PySem.W.nsIn K mainGlobals "_law_draw" = some (some (.ref 479))),
  fun K => Hx.fdB K 479 (Hx.pPlain K "_law_draw"),
  fun K => PySem.W.keepIn K (.ref 479),
  fun K => decide (PySem.W.nsIn K mainGlobals "_law_pick" = some (some (.ref 486))),
  fun K => Hx.fdB K 486 (Hx.pPlain K "_law_pick"),
  fun K => PySem.W.keepIn K (.ref 486),
  fun K => decide (PySem.W.nsIn K mainGlobals "_law_word" = some (some (.ref 493))),
  fun K => Hx.fdB K 493 (Hx.pPlain K "_law_word"),
  fun K => PySem.W.keepIn K (.ref 493),
  fun K => decide (PySem.W.nsIn K mainGlobals "_law_heard" = some (some (.ref 500))),
  fun K => Hx.fdB K 500 (Hx.pPlain K "_law_heard"),
  fun K => PySem.W.keepIn K (.ref 500),
  fun K => decide (PySem.W.nsIn K mainGlobals "_law_cells" = some (some (.ref 507))),
  fun K => Hx.fdB K 507 (Hx.pPlain K "_law_cells"),
  fun K => PySem.W.keepIn K (.ref 507),
  fun K => decide (PySem.W.nsIn K mainGlobals "_law_pairs" = some (some (.ref 514))),
  fun K => Hx.fdB K 514 (Hx.pPlain K "_law_pairs")]
def fa2 : List (PySem.W.Frag → Bool) := [
  fun K => PySem.W.keepIn K (.ref 514),
  fun K => decide (PySem.W.nsIn K mainGlobals "_law_due" = some (some (.ref 519))),
  fun K => Hx.fdB K 519 (Hx.pPlain K "_law_due"),
  fun K => PySem.W.keepIn K (.ref 519),
  fun K => decide (PySem.W.nsIn K mainGlobals "_law_shown" = some (some (.ref 524))),
  fun K => Hx.fdB K 524 (Hx.pPlain K "_law_shown"),
  fun K => PySem.W.keepIn K (.ref 524),
  fun K => decide (PySem.W.nsIn K mainGlobals "_law_odd" = some (some (.ref 531))),
  fun K => Hx.fdB K 531 (Hx.pPlain K "_law_odd"),
  fun K => PySem.W.keepIn K (.ref 531),
  fun K => decide (PySem.W.nsIn K mainGlobals "_law_looked" = some (some (.ref 538))),
  fun K => Hx.fdB K 538 (Hx.pPlain K "_law_looked"),
  fun K => PySem.W.keepIn K (.ref 538),
  fun K => decide (PySem.W.nsIn K mainGlobals "_law_made_right" = some (some (.ref 543))),
  fun K => Hx.fdB K 543 (Hx.pPlain K "_law_made_right"),
  fun K => PySem.W.keepIn K (.ref 543),
  fun K => decide (PySem.W.nsIn K mainGlobals "_law_of" = some (some (.ref 550))),
  fun K => Hx.fdB K 550 (Hx.pPlain K "_law_of"),
  fun K => PySem.W.keepIn K (.ref 550),
  fun K => decide (PySem.W.nsIn K mainGlobals "_law_of_right" = some (some (.ref 555))),
  fun K => Hx.fdB K 555 (Hx.pPlain K "_law_of_right"),
  fun K => PySem.W.keepIn K (.ref 555),
  fun K => decide (PySem.W.nsIn K mainGlobals "_law_of_none_right" = some (some (.ref 562))),
  fun K => Hx.fdB K 562 (Hx.pPlain K "_law_of_none_right"),
  fun K => PySem.W.keepIn K (.ref 562),
  fun K => decide (PySem.W.nsIn K mainGlobals "_law_between_right" = some (some (.ref 567))),
  fun K => Hx.fdB K 567 (Hx.pPlain K "_law_between_right"),
  fun K => PySem.W.keepIn K (.ref 567),
  fun K => decide (PySem.W.nsIn K mainGlobals "law" = some (some (.ref 574))),
  fun K => Hx.fdB K 574 (Hx.pPlain K "law"),
  fun K => PySem.W.keepIn K (.ref 574),
  fun K => PySem.W.plainGet K 461 Str.empty,
  fun K => PySem.W.hasDictIn K 461,
  fun K => PySem.W.plainOver K 461,
  fun K => decide (PySem.W.findIn K (.ref 461) "__setattr__" = some (some (.builtin "object.__setattr__"))),
  fun K => PySem.W.makesIn K 461,
  fun K => PySem.W.keepIn K (.ref 461),
  fun K => decide (PySem.W.findIn K (.ref 461) "cells" = some none),
  fun K => PySem.W.plainGet K 353 Str.empty,
  fun K => PySem.W.hasDictIn K 353]
def fa3 : List (PySem.W.Frag → Bool) := [
  fun K => PySem.W.plainOver K 353,
  fun K => decide (PySem.W.findIn K (.ref 353) "__setattr__" = some (some (.builtin "object.__setattr__"))),
  fun K => PySem.W.makesIn K 353,
  fun K => PySem.W.keepIn K (.ref 353),
  fun K => decide (PySem.W.findIn K (.ref 353) "pairs" = some none),
  fun K => decide (PySem.W.nsIn K mainGlobals "len" = some none),
  fun K => decide (PySem.W.nsIn K mainGlobals "abs" = some none),
  fun K => decide (PySem.W.nsIn K mainGlobals "int" = some none),
  fun K => decide (PySem.W.nsIn K mainGlobals "list" = some none),
  fun K => decide (PySem.W.nsIn K mainGlobals "range" = some none),
  fun K => decide (PySem.W.nsIn K mainGlobals "isinstance" = some none),
  fun K => decide (PySem.W.nsIn K mainGlobals "bool" = some none),
  fun K => decide (PySem.W.nsIn K mainGlobals "str" = some none),
  fun K => decide (PySem.W.nsIn K mainGlobals "tuple" = some none),
  fun K => decide (PySem.W.nsIn K mainGlobals "all" = some none),
  fun K => decide (PySem.W.nsIn K mainGlobals "set" = some none),
  fun K => decide (PySem.W.nsIn K mainGlobals "sorted" = some none),
  fun K => decide (PySem.W.nsIn K mainGlobals "ValueError" = some none),
  fun K => decide (PySem.W.nsIn K mainGlobals "repr" = some none),
  fun K => decide (PySem.W.nsIn K mainGlobals "max" = some none),
  fun K => decide (PySem.W.nsIn K mainGlobals "min" = some none),
  fun K => decide (PySem.W.nsIn K mainGlobals "iter" = some none),
  fun K => decide (PySem.W.nsIn K mainGlobals "enumerate" = some none),
  fun K => decide (PySem.W.nsIn K mainGlobals "dict" = some none),
  fun K => decide (PySem.W.nsIn K mainGlobals "CodeError" = some (some (.ref 31))),
  fun K => decide (PySem.W.nsIn K mainGlobals "BadCodes" = some (some (.ref 89))),
  fun K => decide (PySem.W.nsIn K mainGlobals "BadLayout" = some (some (.ref 110))),
  fun K => decide (PySem.W.nsIn K mainGlobals "BadRewrite" = some (some (.ref 194))),
  fun K => decide (PySem.W.nsIn K mainGlobals "BadStep" = some (some (.ref 215))),
  fun K => decide (PySem.W.nsIn K mainGlobals "BadText" = some (some (.ref 236))),
  fun K => decide (PySem.W.nsIn K mainGlobals "NotRight" = some (some (.ref 56))),
  fun K => decide (PySem.W.nsIn K mainGlobals "NoWay" = some (some (.ref 68))),
  fun K => decide (PySem.W.nsIn K mainGlobals "BadInput" = some (some (.ref 44))),
  fun K => decide (PySem.W.nsIn K mainGlobals "super" = some none),
  fun K => decide (PySem.W.nsIn K cStatics "thirdparty.any" = some none),
  fun K => decide (PySem.W.specialIn K (.builtin "object.__class__") "__get__" = some (some (.builtin "getset_descriptor.__get__"))),
  fun K => decide (PySem.W.takesIn K (.builtin "object.__class__") = some true),
  fun K => decide (PySem.W.nsIn K mainGlobals "BadAddress" = some (some (.ref 152))),
  fun K => Hx.excB K 152,
  fun K => decide (PySem.W.findIn K (.ref 152) "__setattr__" = some (some (.builtin "object.__setattr__")))]
def fa4 : List (PySem.W.Frag → Bool) := [
  fun K => decide (PySem.W.subIn K (.ref 152) (.type "BaseException") = some true),
  fun K => decide (PySem.W.typeIn K (.ref 152) = some (.type "type")),
  fun K => PySem.W.keepIn K (.ref 152),
  fun K => decide (PySem.W.findIn K (.ref 152) "__init__" = some (some (.ref 149))),
  fun K => decide (PySem.W.typeIn K (.ref 149) = some (.type "function")),
  fun K => decide (PySem.W.findIn K (.ref 152) "at" = some none),
  fun K => decide (PySem.W.findIn K (.ref 152) "__getattribute__" = some (some (.builtin "BaseException.__getattribute__"))),
  fun K => decide (PySem.W.findIn K (.ref 152) "__getattr__" = some none),
  fun K => PySem.W.hasDictIn K 152,
  fun K => decide (PySem.W.findIn K (.ref 152) "__class__" = some (some (.builtin "object.__class__"))),
  fun K => decide (PySem.W.mroIn K 152 (.type "object") = some true),
  fun K => Hx.fdB K 149 (Hx.pSup K "BadAddress.__init__" 148),
  fun K => PySem.W.keepIn K (.ref 149),
  fun K => Hx.filB K 148 PySem.Challenge.pw_codestitch_k10_patches_made.main.file,
  fun K => Hx.celB K 137 152,
  fun K => decide (PySem.W.mroIn K 152 (.ref 152) = some true),
  fun K => decide (PySem.W.ks_superIn K 152 152 "__init__" = some (some (.builtin "ValueError.__init__"))),
  fun K => decide (PySem.W.subIn K (.ref 152) (.type "ValueError") = some true),
  fun K => decide (PySem.W.nsIn K mainGlobals "BadByte" = some (some (.ref 131))),
  fun K => Hx.excB K 131,
  fun K => decide (PySem.W.findIn K (.ref 131) "__setattr__" = some (some (.builtin "object.__setattr__"))),
  fun K => decide (PySem.W.subIn K (.ref 131) (.type "BaseException") = some true),
  fun K => decide (PySem.W.typeIn K (.ref 131) = some (.type "type")),
  fun K => PySem.W.keepIn K (.ref 131),
  fun K => decide (PySem.W.findIn K (.ref 131) "__init__" = some (some (.ref 128))),
  fun K => decide (PySem.W.typeIn K (.ref 128) = some (.type "function")),
  fun K => decide (PySem.W.findIn K (.ref 131) "at" = some none),
  fun K => decide (PySem.W.findIn K (.ref 131) "__getattribute__" = some (some (.builtin "BaseException.__getattribute__"))),
  fun K => decide (PySem.W.findIn K (.ref 131) "__getattr__" = some none),
  fun K => PySem.W.hasDictIn K 131,
  fun K => decide (PySem.W.findIn K (.ref 131) "__class__" = some (some (.builtin "object.__class__"))),
  fun K => decide (PySem.W.mroIn K 131 (.type "object") = some true),
  fun K => Hx.fdB K 128 (Hx.pSup K "BadByte.__init__" 127),
  fun K => PySem.W.keepIn K (.ref 128),
  fun K => Hx.filB K 127 PySem.Challenge.pw_codestitch_k10_patches_made.main.file,
  fun K => Hx.celB K 116 131,
  fun K => decide (PySem.W.mroIn K 131 (.ref 131) = some true),
  fun K => decide (PySem.W.ks_superIn K 131 131 "__init__" = some (some (.builtin "ValueError.__init__"))),
  fun K => decide (PySem.W.subIn K (.ref 131) (.type "ValueError") = some true),
  fun K => decide (PySem.W.nsIn K mainGlobals "UnlikeLengths" = some (some (.ref 173)))]
def fa5 : List (PySem.W.Frag → Bool) := [
  fun K => Hx.excB K 173,
  fun K => decide (PySem.W.findIn K (.ref 173) "__setattr__" = some (some (.builtin "object.__setattr__"))),
  fun K => decide (PySem.W.subIn K (.ref 173) (.type "BaseException") = some true),
  fun K => decide (PySem.W.typeIn K (.ref 173) = some (.type "type")),
  fun K => PySem.W.keepIn K (.ref 173),
  fun K => decide (PySem.W.findIn K (.ref 173) "__init__" = some (some (.ref 170))),
  fun K => decide (PySem.W.typeIn K (.ref 170) = some (.type "function")),
  fun K => decide (PySem.W.findIn K (.ref 173) "one" = some none),
  fun K => decide (PySem.W.findIn K (.ref 173) "other" = some none),
  fun K => decide (PySem.W.findIn K (.ref 173) "__getattribute__" = some (some (.builtin "BaseException.__getattribute__"))),
  fun K => decide (PySem.W.findIn K (.ref 173) "__getattr__" = some none),
  fun K => PySem.W.hasDictIn K 173,
  fun K => decide (PySem.W.findIn K (.ref 173) "__class__" = some (some (.builtin "object.__class__"))),
  fun K => decide (PySem.W.mroIn K 173 (.type "object") = some true),
  fun K => Hx.fdB K 170 (Hx.pSup K "UnlikeLengths.__init__" 169),
  fun K => PySem.W.keepIn K (.ref 170),
  fun K => Hx.filB K 169 PySem.Challenge.pw_codestitch_k10_patches_made.main.file,
  fun K => Hx.celB K 158 173,
  fun K => decide (PySem.W.mroIn K 173 (.ref 173) = some true),
  fun K => decide (PySem.W.ks_superIn K 173 173 "__init__" = some (some (.builtin "ValueError.__init__"))),
  fun K => decide (PySem.W.subIn K (.ref 173) (.type "ValueError") = some true),
  fun K => decide (PySem.W.kitOne K (.ref 152) (.ref 152) = some true),
  fun K => decide (PySem.W.kitOne K (.ref 152) (.ref 131) = some false),
  fun K => decide (PySem.W.kitOne K (.ref 152) (.ref 173) = some false),
  fun K => decide (PySem.W.kitOne K (.ref 152) (.ref 89) = some false),
  fun K => decide (PySem.W.kitOne K (.ref 152) (.ref 110) = some false),
  fun K => decide (PySem.W.kitOne K (.ref 152) (.ref 194) = some false),
  fun K => decide (PySem.W.kitOne K (.ref 152) (.ref 215) = some false),
  fun K => decide (PySem.W.kitOne K (.ref 152) (.ref 236) = some false),
  fun K => decide (PySem.W.kitOne K (.ref 152) (.ref 56) = some false),
  fun K => decide (PySem.W.kitOne K (.ref 152) (.ref 68) = some false),
  fun K => decide (PySem.W.kitOne K (.ref 152) (.ref 44) = some true),
  fun K => decide (PySem.W.kitOne K (.ref 152) (.type "ValueError") = some true),
  fun K => decide (PySem.W.kitOne K (.ref 131) (.ref 152) = some false),
  fun K => decide (PySem.W.kitOne K (.ref 131) (.ref 131) = some true),
  fun K => decide (PySem.W.kitOne K (.ref 131) (.ref 173) = some false),
  fun K => decide (PySem.W.kitOne K (.ref 131) (.ref 89) = some false),
  fun K => decide (PySem.W.kitOne K (.ref 131) (.ref 110) = some false),
  fun K => decide (PySem.W.kitOne K (.ref 131) (.ref 194) = some false),
  fun K => decide (PySem.W.kitOne K (.ref 131) (.ref 215) = some false)]
def fa6 : List (PySem.W.Frag → Bool) := [
  fun K => decide (PySem.W.kitOne K (.ref 131) (.ref 236) = some false),
  fun K => decide (PySem.W.kitOne K (.ref 131) (.ref 56) = some false),
  fun K => decide (PySem.W.kitOne K (.ref 131) (.ref 68) = some false),
  fun K => decide (PySem.W.kitOne K (.ref 131) (.ref 44) = some true),
  fun K => decide (PySem.W.kitOne K (.ref 131) (.type "ValueError") = some true),
  fun K => decide (PySem.W.kitOne K (.ref 173) (.ref 152) = some false),
  fun K => decide (PySem.W.kitOne K (.ref 173) (.ref 131) = some false),
  fun K => decide (PySem.W.kitOne K (.ref 173) (.ref 173) = some true),
  fun K => decide (PySem.W.kitOne K (.ref 173) (.ref 89) = some false),
  fun K => decide (PySem.W.kitOne K (.ref 173) (.ref 110) = some false),
  fun K => decide (PySem.W.kitOne K (.ref 173) (.ref 194) = some false),
  fun K => decide (PySem.W.kitOne K (.ref 173) (.ref 215) = some false),
  fun K => decide (PySem.W.kitOne K (.ref 173) (.ref 236) = some false),
  fun K => decide (PySem.W.kitOne K (.ref 173) (.ref 56) = some false),
  fun K => decide (PySem.W.kitOne K (.ref 173) (.ref 68) = some false),
  fun K => decide (PySem.W.kitOne K (.ref 173) (.ref 44) = some true),
  fun K => decide (PySem.W.kitOne K (.ref 173) (.type "ValueError") = some true),
  fun K => decide (PySem.W.exmOne K (.ref 152) (.ref 31) = some true),
  fun K => decide (PySem.W.exmOne K (.ref 131) (.ref 31) = some true),
  fun K => decide (PySem.W.exmOne K (.ref 173) (.ref 31) = some true),
  fun K => decide (PySem.W.findIn K (.ref 461) "__class__" = some (some (.builtin "object.__class__"))),
  fun K => decide (PySem.W.mroIn K 461 (.type "object") = some true),
  fun K => decide (PySem.W.kitOne K (.ref 461) (.ref 461) = some true),
  fun K => decide (PySem.W.findIn K (.ref 353) "__class__" = some (some (.builtin "object.__class__"))),
  fun K => decide (PySem.W.mroIn K 353 (.type "object") = some true),
  fun K => decide (PySem.W.kitOne K (.ref 353) (.ref 353) = some true),
  fun K => decide (PySem.W.kitOne K (.type "list") (.ref 461) = some false),
  fun K => decide (PySem.W.kitOne K (.type "tuple") (.ref 461) = some false),
  fun K => decide (PySem.W.kitOne K (.type "NoneType") (.ref 353) = some false),
  fun K => decide (PySem.W.kitOne K (.type "bool") (.ref 353) = some false),
  fun K => decide (PySem.W.kitOne K (.type "int") (.ref 353) = some false),
  fun K => decide (PySem.W.kitOne K (.type "str") (.ref 353) = some false),
  fun K => decide (PySem.W.kitOne K (.type "dict") (.ref 353) = some false),
  fun K => decide (PySem.W.kitOne K (.type "list") (.ref 353) = some false),
  fun K => decide (PySem.W.kitOne K (.type "tuple") (.ref 353) = some false),
  fun K => PySem.W.notFirst K 353 (.ref 353),
  fun K => PySem.W.notFirst K 353 (.type "NoneType"),
  fun K => PySem.W.notFirst K 353 (.type "bool"),
  fun K => PySem.W.notFirst K 353 (.type "int"),
  fun K => PySem.W.notFirst K 353 (.type "str")]
def fa7 : List (PySem.W.Frag → Bool) := [
  fun K => PySem.W.notFirst K 353 (.type "dict"),
  fun K => PySem.W.notFirst K 353 (.type "list"),
  fun K => PySem.W.notFirst K 353 (.type "tuple"),
  fun K => PySem.W.fnIn K 418,
  fun K => PySem.W.fnIn K 315,
  fun K => PySem.W.readsIn K 353 (.type "type"),
  fun K => decide (PySem.W.specialIn K (.ref 353) "__getattribute__" = some (some (.builtin "type.__getattribute__"))),
  fun K => Vc.lamB K 538 537 533,
  fun K => Vc.lamB K 543 542 540,
  fun K => Vc.lamB K 555 554 552,
  fun K => Vc.lamB K 562 561 557,
  fun K => Vc.lamB K 567 566 564]
def faN : List (PySem.W.Frag → Bool) := fa0 ++ (fa1 ++ (fa2 ++ (fa3 ++ (fa4 ++ (fa5 ++ (fa6 ++ (fa7)))))))
def fn0 : List Hx.Dq := [
  ⟨245, "is_byte", "is_byte", defArgs s_is_byte, defBody s_is_byte, defScope s_is_byte, []⟩,
  ⟨364, "check_bytes", "check_bytes", defArgs s_check_bytes, defBody s_check_bytes, defScope s_check_bytes, []⟩,
  ⟨371, "span_of", "span_of", defArgs s_span_of, defBody s_span_of, defScope s_span_of, []⟩,
  ⟨390, "__init__", "Image.__init__", defArgs s_Imageu_initu, defBody s_Imageu_initu, defScope s_Imageu_initu, []⟩,
  ⟨397, "__len__", "Image.__len__", defArgs s_Imageu_lenu, defBody s_Imageu_lenu, defScope s_Imageu_lenu, []⟩,
  ⟨404, "__iter__", "Image.__iter__", defArgs s_Imageu_iteru, defBody s_Imageu_iteru, defScope s_Imageu_iteru, []⟩,
  ⟨418, "__getitem__", "Image.__getitem__", defArgs s_Imageu_getitemu, defBody s_Imageu_getitemu, defScope s_Imageu_getitemu, []⟩,
  ⟨257, "__init__", "Patch.__init__", defArgs s_Patchu_initu, defBody s_Patchu_initu, defScope s_Patchu_initu, []⟩,
  ⟨262, "of", "Patch.of", defArgs s_Patch_of, defBody s_Patch_of, defScope s_Patch_of, []⟩,
  ⟨270, "between", "Patch.between", defArgs s_Patch_between, defBody s_Patch_between, defScope s_Patch_between, []⟩,
  ⟨280, "__len__", "Patch.__len__", defArgs s_Patchu_lenu, defBody s_Patchu_lenu, defScope s_Patchu_lenu, []⟩,
  ⟨294, "addresses", "Patch.addresses", defArgs s_Patch_addresses, defBody s_Patch_addresses, defScope s_Patch_addresses, []⟩,
  ⟨301, "__eq__", "Patch.__eq__", defArgs s_Patchu_equ, defBody s_Patchu_equ, defScope s_Patchu_equ, []⟩,
  ⟨308, "__contains__", "Patch.__contains__", defArgs s_Patchu_containsu, defBody s_Patchu_containsu, defScope s_Patchu_containsu, []⟩,
  ⟨315, "__getitem__", "Patch.__getitem__", defArgs s_Patchu_getitemu, defBody s_Patchu_getitemu, defScope s_Patchu_getitemu, []⟩,
  ⟨472, "_law_pen", "_law_pen", defArgs s__law_pen, defBody s__law_pen, defScope s__law_pen, []⟩,
  ⟨479, "_law_draw", "_law_draw", defArgs s__law_draw, defBody s__law_draw, defScope s__law_draw, []⟩,
  ⟨486, "_law_pick", "_law_pick", defArgs s__law_pick, defBody s__law_pick, defScope s__law_pick, []⟩,
  ⟨493, "_law_word", "_law_word", defArgs s__law_word, defBody s__law_word, defScope s__law_word, []⟩,
  ⟨500, "_law_heard", "_law_heard", defArgs s__law_heard, defBody s__law_heard, defScope s__law_heard, []⟩,
  ⟨507, "_law_cells", "_law_cells", defArgs s__law_cells, defBody s__law_cells, defScope s__law_cells, []⟩,
  ⟨514, "_law_pairs", "_law_pairs", defArgs s__law_pairs, defBody s__law_pairs, defScope s__law_pairs, []⟩,
  ⟨519, "_law_due", "_law_due", defArgs s__law_due, defBody s__law_due, defScope s__law_due, []⟩,
  ⟨524, "_law_shown", "_law_shown", defArgs s__law_shown, defBody s__law_shown, defScope s__law_shown, []⟩,
  ⟨531, "_law_odd", "_law_odd", defArgs s__law_odd, defBody s__law_odd, defScope s__law_odd, []⟩,
  ⟨538, "_law_looked", "_law_looked", defArgs s__law_looked, defBody s__law_looked, defScope s__law_looked, []⟩,
  ⟨543, "_law_made_right", "_law_made_right", defArgs s__law_made_right, defBody s__law_made_right, defScope s__law_made_right, []⟩,
  ⟨550, "_law_of", "_law_of", defArgs s__law_of, defBody s__law_of, defScope s__law_of, []⟩,
  ⟨555, "_law_of_right", "_law_of_right", defArgs s__law_of_right, defBody s__law_of_right, defScope s__law_of_right, []⟩,
  ⟨562, "_law_of_none_right", "_law_of_none_right", defArgs s__law_of_none_right, defBody s__law_of_none_right, defScope s__law_of_none_right, []⟩,
  ⟨567, "_law_between_right", "_law_between_right", defArgs s__law_between_right, defBody s__law_between_right, defScope s__law_between_right, []⟩,
  ⟨574, "law", "law", defArgs s_law, defBody s_law, defScope s_law, []⟩,
  ⟨149, "__init__", "BadAddress.__init__", defArgs s_BadAddressu_initu, defBody s_BadAddressu_initu, defScope s_BadAddressu_initu, [("__class__", 137)]⟩,
  ⟨128, "__init__", "BadByte.__init__", defArgs s_BadByteu_initu, defBody s_BadByteu_initu, defScope s_BadByteu_initu, [("__class__", 116)]⟩,
  ⟨170, "__init__", "UnlikeLengths.__init__", defArgs s_UnlikeLengthsu_initu, defBody s_UnlikeLengthsu_initu, defScope s_UnlikeLengthsu_initu, [("__class__", 158)]⟩]
def fnN : List Hx.Dq := fn0
theorem walk_ofGE {l : PySem.W.OpenLaw} {n k : Nat} {q : Program} {loose : List Str} {XP : (Str → Option Value) → Heap → Prop} {YP : World → Heap → Prop} {d : DefRec} {x : Str} {cs : List (Addr × Addr)} (h1 : l.most = some n) (h2 : n ≤ sizeLine) (h3 : d.params.defaults = []) (room : Room k callerA)
    (F : ∀ (w : World) (mg : Str → Option Value) (fa : Addr) (h : Heap), YP w h → h.Ns mainGlobals mg → mg d.name = some (.ref fa) → ∃ (K : PySem.W.Frag) (fd : FuncData) (sp : Sp), K.In h ∧ (∀ p ∈ cs, ∃ (y : Str) (f : Addr), ((recsOf q).any fun e => e.name == y) = true ∧ mg y = some (.ref f) ∧ Vc.lamB K f p.1 p.2 = true) ∧ (∀ (s : Shared) (u : Value), BindsTo s fd ⟨[u], []⟩ [(x, u)]) ∧ (∀ (H : Hp) (a : Addr) (ns : List Int), ns.length ≤ n → (∀ p ∈ cs, H p.2 = some (.tbl #[])) → SqL K H a (ns.map V.int) → sp [.ref a] H (fun v _ => v = .bl true) E0) ∧
      ∀ base : Heap, K.In base → base.Ns mainGlobals mg → (∀ p ∈ cs, LamX.TabB base mg p.1 p.2) → Vc.FnG l.prog w K mg base CX0 k fa fd [x] sp) : PySem.W.WalkO q loose XP YP l.row.toRowW d [] (fun f vs => PySem.call f vs) := by
  refine Att.attach_call h1 h3 fun w s0 s1 mg mb fa o pm cd doc a vs ns G Y ho hd hcd hmg hobj hints many hg => ?_
  obtain ⟨K, fd, sp, KX, hcs, bi, pr, run⟩ := F w mg fa _ Y G.T.g hmg
  have tb : ∀ p ∈ cs, Vc.Tab0 s1.heap p.2 ∧ PySem.W.CodeHd s1.heap p.1 p.2 ∧ K.lookup p.2 = none := fun p hp => by
    obtain ⟨y, f, h1, h2, h3⟩ := hcs p hp
    exact Vc.tab0_of G.T KX h1 h2 h3
  exact Vc.law_callGT KX G.T.g G.T.b G.T.builtins G.T.nolimit hg G.T.bmain (fun p hp => (tb p hp).1) (fun p hp => (tb p hp).2.2) (fun p hp => (tb p hp).2.1) hobj hints (Nat.le_trans many h2) room run bi fun H hT hS => pr H a ns many hT hS
end
section
open PySem PySem.W PySem.Calls PyProof.Rows
def ad0 : List Addr := [3, 2, 31, 44, 56, 68, 89, 110, 131, 152, 173, 194, 215, 236, 353, 461, 30, 43, 55, 67, 88, 109, 130, 151, 172, 193, 214, 235, 263, 265, 271, 273, 352, 460, 32, 264, 272, 354, 355, 462]
def ad1 : List Addr := [463, 21, 86, 107, 128, 149, 170, 191, 212, 233, 245, 257, 262, 270, 280, 287, 294, 301, 308, 315, 322, 329, 336, 343, 350, 364, 371, 376, 390, 397, 404, 411, 418, 425, 430, 437, 444, 451, 458, 472]
def ad2 : List Addr := [479, 486, 493, 500, 507, 514, 519, 524, 531, 538, 543, 550, 555, 562, 567, 574, 20, 74, 85, 95, 106, 116, 127, 137, 148, 158, 169, 179, 190, 200, 211, 221, 232, 244, 256, 261, 269, 279, 286, 293]
def ad3 : List Addr := [300, 307, 314, 321, 328, 335, 342, 349, 363, 370, 375, 389, 396, 403, 410, 417, 424, 429, 436, 443, 450, 457, 471, 478, 485, 492, 499, 506, 513, 518, 523, 530, 537, 542, 549, 554, 561, 566, 573]
def adN : List Addr := ad0 ++ (ad1 ++ (ad2 ++ (ad3)))
def ls0 : List PySem.Str := ["_wall", "__name__", "CodeError", "BadInput", "NotRight", "NoWay", "BadCodes", "BadLayout", "BadByte", "BadAddress", "UnlikeLengths", "BadRewrite", "BadStep", "BadText", "is_byte", "Patch", "check_bytes", "span_of", "patched", "Image", "_law_pen", "_law_draw", "_law_pick", "_law_word", "_law_heard", "_law_cells", "_law_pairs", "_law_due", "_law_shown", "_law_odd"]
def ls1 : List PySem.Str := ["_law_of"]
def lsN : List PySem.Str := ls0 ++ (ls1)
def csN : List (Addr × Addr) := [(537, 533), (542, 540), (554, 552), (561, 557), (566, 564)]
abbrev RR : OpenRow := OpenLaw.row PySem.Challenge.rw_codestitch_k10_patches_made
abbrev qv : Program := view RR.prog [34, 35, 37, 38, 39, 40]
set_option maxRecDepth 100000 in
set_option maxHeartbeats 0 in
theorem runA (w : World) (os : OsState) : (HandSHeadRun.endF (HandSHeadRun.stepQ (HandSHeadRun.denQ HandSHeadRun.tabQ) RR.prog w) 20000 RR.prog w os).map (fun s => HandSHeadRun.looksF RR.prog (boot_heap w.params) s.abs) = some true := by kernel_rfl
set_option maxRecDepth 100000 in
set_option maxHeartbeats 0 in
theorem runB (w : World) (os : OsState) : (HandSHeadRun.endF (HandSHeadRun.stepQ (HandSHeadRun.denQ HandSHeadRun.tabQ) RR.prog w) 20000 RR.prog w os).map (fun s => HandSHeadRun.seenQ qv lsN (importedModules RR.prog.main.body) (fun s => xlAt qv [] s && recOk RR.toRowW.records s) s.abs) = some (openGood qv lsN) := by kernel_rfl
set_option maxRecDepth 100000 in
set_option maxHeartbeats 0 in
theorem runF (w : World) (os : OsState) : (HandSHeadRun.endF (HandSHeadRun.stepQ (HandSHeadRun.denQ HandSHeadRun.tabQ) RR.prog w) 20000 RR.prog w os).map (fun s => fnN.map (Hx.fnQ (He.frG (HandSHeadRun.getT s) adN))) = some (fnN.map Hx.Dq.val) := by kernel_rfl
def fr0 : List (PySem.W.Frag → Bool) := fa0 ++ (fa1 ++ (fa2))
set_option maxRecDepth 100000 in
set_option maxHeartbeats 0 in
theorem runC0 (w : World) (os : OsState) : (HandSHeadRun.endF (HandSHeadRun.stepQ (HandSHeadRun.denQ HandSHeadRun.tabQ) RR.prog w) 20000 RR.prog w os).map (fun s => Hx.chk fr0 (He.frG (HandSHeadRun.getT s) adN)) = some true := by kernel_rfl
def fr1 : List (PySem.W.Frag → Bool) := fa3 ++ (fa4 ++ (fa5))
set_option maxRecDepth 100000 in
set_option maxHeartbeats 0 in
theorem runC1 (w : World) (os : OsState) : (HandSHeadRun.endF (HandSHeadRun.stepQ (HandSHeadRun.denQ HandSHeadRun.tabQ) RR.prog w) 20000 RR.prog w os).map (fun s => Hx.chk fr1 (He.frG (HandSHeadRun.getT s) adN)) = some true := by kernel_rfl
def fr2 : List (PySem.W.Frag → Bool) := fa6 ++ (fa7)
set_option maxRecDepth 100000 in
set_option maxHeartbeats 0 in
theorem runC2 (w : World) (os : OsState) : (HandSHeadRun.endF (HandSHeadRun.stepQ (HandSHeadRun.denQ HandSHeadRun.tabQ) RR.prog w) 20000 RR.prog w os).map (fun s => Hx.chk fr2 (He.frG (HandSHeadRun.getT s) adN)) = some true := by kernel_rfl
theorem hd_run (w : World) : HandSHeadRun.RunEq RR qv (Hx.hook adN faN fnN) (Hx.obT adN faN fnN) 20000 lsN w := fun os => Hx.join (runA w os) (runB w os) (fun s e => by
    have c := Hx.part (runC0 w os) s e
    obtain ⟨b0, c⟩ := Hx.chk_app c
    obtain ⟨b1, c⟩ := Hx.chk_app c
    have b2 : Hx.chk fa2 _ = true := c
    clear c
    have c := Hx.part (runC1 w os) s e
    obtain ⟨b3, c⟩ := Hx.chk_app c
    obtain ⟨b4, c⟩ := Hx.chk_app c
    have b5 : Hx.chk fa5 _ = true := c
    clear c
    have c := Hx.part (runC2 w os) s e
    obtain ⟨b6, c⟩ := Hx.chk_app c
    have b7 : Hx.chk fa7 _ = true := c
    clear c
    exact (Hx.app_chk b0 (Hx.app_chk b1 (Hx.app_chk b2 (Hx.app_chk b3 (Hx.app_chk b4 (Hx.app_chk b5 (Hx.app_chk b6 b7)))))))) (runF w os)
set_option maxRecDepth 100000 in
set_option maxHeartbeats 0 in
theorem top_of {sp : PySem.W.Frag → L2.Sp} (hall : ∀ {w : World} {K : PySem.W.Frag} {h : Heap} {mg : Str → Option Value} {fa : Addr}, K.In h → h.Ns mainGlobals mg → mg "law" = some (.ref fa) → Hx.chk faN K = true → fnN.map (Hx.fnQ K) = fnN.map Hx.Dq.val →
    (∀ p ∈ csN, ∃ (y : Str) (f : Addr), ((recsOf qv).any fun e => e.name == y) = true ∧ mg y = some (.ref f) ∧ Vc.lamB K f p.1 p.2 = true) ∧ ∃ fd : FuncData, (∀ (s : Shared) (v : Value), BindsTo s fd ⟨[v], []⟩ [("_law_script", v)]) ∧ ∀ base : Heap, K.In base → base.Ns mainGlobals mg → (∀ p ∈ csN, LamX.TabB base mg p.1 p.2) → Vc.FnG PySem.Challenge.pw_codestitch_k10_patches_made w K mg base L2.CX0 16 fa fd ["_law_script"] (sp K))
    (hsp : ∀ (K : PySem.W.Frag) (H : L2.Hp) (a : Addr) (ns : List Int) (Q : L2.VK) (E : L2.XK), (∀ p ∈ csN, H p.2 = some (.tbl #[])) → L2.SqL K H a (ns.map L2.V.int) → ns.length ≤ 63 → (∀ H', Q (.bl true) H') → sp K [.ref a] H Q E) : PySem.Challenge.rw_codestitch_k10_patches_made.Holds := by
  w_on; o_law
  refine HandSHeadRun.head_any (r := OpenLaw.row PySem.Challenge.rw_codestitch_k10_patches_made) (q := qv) (H := Hx.hook adN faN fnN) (ob := Hx.obT adN faN fnN) (M := 20000) (loose := lsN) (d := HandSHeadRun.topDef (OpenLaw.row PySem.Challenge.rw_codestitch_k10_patches_made).prog 40) (kwd := []) (Hx.obT_eq adN faN fnN)
    (by kernel_rfl) (fun s => by kernel_rfl) hd_run (by kernel_rfl) (by kernel_rfl) (by kernel_rfl) (by rfl) (by first | assumption | decide +kernel) (by decide +kernel) ⟨rfl, rfl, rfl, rfl, rfl, by decide +kernel⟩ ?hw ?hc
  case hw => w_witness2
  case hc =>
    refine walk_ofGE (cs := csN) (l := PySem.Challenge.rw_codestitch_k10_patches_made) (n := 63) (k := 16) (x := "_law_script") rfl (by decide) (by kernel_rfl) ⟨rfl, by decide, by decide⟩ ?F
    intro w mg fa h Y G hmg0
    obtain ⟨K, KX, c, E⟩ := Y
    have hmg : mg ("law" : PySem.Str) = some (.ref fa) := by
      have e : (HandSHeadRun.topDef (OpenLaw.row PySem.Challenge.rw_codestitch_k10_patches_made).prog 40).name = ("law" : PySem.Str) := by kernel_rfl
      rw [← e]
      exact hmg0
    obtain ⟨hcs, fd, hb, hF⟩ := hall (w := w) KX G hmg c E
    exact ⟨K, fd, sp K, KX, hcs, hb, fun H a ns hl hT hS => hsp K H a ns _ _ hT hS hl (fun _ => rfl), hF⟩
end

end My
namespace My
open PySem PySem.Spec PyProof.Rows L2
theorem ok_BadAddressu_initu {w : World} {K : PySem.W.Frag} {mg : Str → Option Value} {base : Heap} {A : Ad} (T : Txt K mg A) : FnOk PySem.Challenge.pw_codestitch_k10_patches_made w K mg base CX0 1 A.f_BadAddressu_initu A.d_BadAddressu_initu ["self", "at"] (Vc.spErr1 A.C_BadAddress "at") := by
  refine T.F_BadAddressu_initu.ok sc_BadAddressu_initu T.ox_BadAddress rfl rfl rfl (fun vs H Q E h => ?_) (fun X => pe_str) (fun _ _ _ => rfl) (fun _ _ _ => rfl) (fun _ _ _ => rfl) (fun _ _ _ => rfl) (fun cda cc Ar outer s H vs Q E h => ?_)
  · obtain ⟨_, _, rfl, _⟩ := h
    rfl
  · obtain ⟨a, h1, h2, h3⟩ := Vc.err_ends1 T.ox_BadAddress T.no_BadAddress_at h
    exact ⟨a, h1, h2, _, pss_one (ps_ost (pv 0) (pv 1)), h3⟩
theorem ok_BadByteu_initu {w : World} {K : PySem.W.Frag} {mg : Str → Option Value} {base : Heap} {A : Ad} (T : Txt K mg A) : FnOk PySem.Challenge.pw_codestitch_k10_patches_made w K mg base CX0 1 A.f_BadByteu_initu A.d_BadByteu_initu ["self", "at"] (Vc.spErr1 A.C_BadByte "at") := by
  refine T.F_BadByteu_initu.ok sc_BadByteu_initu T.ox_BadByte rfl rfl rfl (fun vs H Q E h => ?_) (fun X => pe_str) (fun _ _ _ => rfl) (fun _ _ _ => rfl) (fun _ _ _ => rfl) (fun _ _ _ => rfl) (fun cda cc Ar outer s H vs Q E h => ?_)
  · obtain ⟨_, _, rfl, _⟩ := h
    rfl
  · obtain ⟨a, h1, h2, h3⟩ := Vc.err_ends1 T.ox_BadByte T.no_BadByte_at h
    exact ⟨a, h1, h2, _, pss_one (ps_ost (pv 0) (pv 1)), h3⟩
theorem ok_UnlikeLengthsu_initu {w : World} {K : PySem.W.Frag} {mg : Str → Option Value} {base : Heap} {A : Ad} (T : Txt K mg A) : FnOk PySem.Challenge.pw_codestitch_k10_patches_made w K mg base CX0 1 A.f_UnlikeLengthsu_initu A.d_UnlikeLengthsu_initu ["self", "one", "other"] (Vc.spErr2 A.C_UnlikeLengths "one" "other") := by
  refine T.F_UnlikeLengthsu_initu.ok sc_UnlikeLengthsu_initu T.ox_UnlikeLengths rfl rfl rfl (fun vs H Q E h => ?_) (fun X => pe_str) (fun _ _ _ => rfl) (fun _ _ _ => rfl) (fun _ _ _ => rfl) (fun _ _ _ => rfl) (fun cda cc Ar outer s H vs Q E h => ?_)
  · obtain ⟨_, _, _, rfl, _⟩ := h
    rfl
  · obtain ⟨a, h1, h2, h3⟩ := Vc.err_ends2 T.ox_UnlikeLengths T.no_UnlikeLengths_one T.no_UnlikeLengths_other h
    exact ⟨a, h1, h2, _, pss_cons (ps_ost (pv 0) (pv 1)) (pss_one (ps_ost (pv 0) (pv 2))), h3⟩
end My
namespace My
open PySem PySem.Spec PyProof.Rows L2
/-! ### data of ints: laid out, equal -/
theorem lay_ints : ∀ ns : List Int, PyData.canLayAll0 (ns.map PyData.int) = true
  | [] => rfl
  | n :: r => by
    rw [List.map_cons, PyData.canLayAll0, lay_ints r]; rfl
theorem dep_ints : ∀ ns : List Int, PyData.depthAll (ns.map PyData.int) = 0
  | [] => rfl
  | n :: r => by
    rw [List.map_cons, PyData.depthAll, dep_ints r]; rfl
theorem shp_list (ns : List Int) : SeqAt.shaped (.list (ns.map PyData.int)) = true := by
  unfold SeqAt.shaped
  rw [PyData.canLay0, lay_ints, PyData.depth, dep_ints]; rfl
theorem shp_tup (ns : List Int) : SeqAt.shaped (.tuple (ns.map PyData.int)) = true := by
  unfold SeqAt.shaped
  rw [PyData.canLay0, lay_ints, PyData.depth, dep_ints]; rfl
theorem eqv_ints : ∀ ns ms : List Int, PyData.eqvAll (ns.map PyData.int) (ms.map PyData.int) = decide (ns = ms)
  | [], [] => rfl
  | [], _ :: _ => rfl
  | _ :: _, [] => rfl
  | n :: r, m :: q => by
    rw [List.map_cons, List.map_cons, PyData.eqvAll, eqv_ints r q, Bool.eq_iff_iff]
    show ((n == m) && decide (r = q)) = true ↔ _
    simp
theorem eqv_lists (ns ms : List Int) : PyData.eqv (.list (ns.map PyData.int)) (.list (ms.map PyData.int)) = decide (ns = ms) := by rw [PyData.eqv]; exact eqv_ints ns ms
theorem eqv_tups (ns ms : List Int) : PyData.eqv (.tuple (ns.map PyData.int)) (.tuple (ms.map PyData.int)) = decide (ns = ms) := by rw [PyData.eqv]; exact eqv_ints ns ms
theorem dp_ints {K : PySem.W.Frag} {H : Hp} : ∀ (ns : List Int), DpAll K H (ns.map V.int) (ns.map PyData.int)
  | [] => .nil
  | n :: r => .cons (.int n) (dp_ints r)
section
variable {K : PySem.W.Frag} {H : Hp} {Q : VK} {p q : Addr} {ns ms : List Int}
/-- two lists of ints compared -/
theorem go_neLs (e1 : SqL K H p (ns.map V.int)) (e2 : SqL K H q (ms.map V.int)) (h : Q (.bl (!decide (ns = ms))) H) : rNeD K (.ref p) (.ref q) H Q :=
  ⟨_, _, .lst e1 (dp_ints ns), .lst e2 (dp_ints ms), shp_list _, shp_list _, by rw [eqv_lists]; exact h⟩
theorem go_eqLs (e1 : SqL K H p (ns.map V.int)) (e2 : SqL K H q (ms.map V.int)) (h : Q (.bl (decide (ns = ms))) H) : rEqD K (.ref p) (.ref q) H Q :=
  ⟨_, _, .lst e1 (dp_ints ns), .lst e2 (dp_ints ms), shp_list _, shp_list _, by rw [eqv_lists]; exact h⟩
end

/-! ### flat values as data -/
def vD : V → PyData
  | .bl b => .bool b
  | .int i => .int i
  | .str z => .str z
  | _ => .none
def isAt : V → Bool
  | .non => true
  | .bl _ => true
  | .int _ => true
  | .str _ => true
  | _ => false
theorem dp_at {K : PySem.W.Frag} {H : Hp} : ∀ {x : V}, isAt x = true → Dp K H x (vD x)
  | .non, _ => .non
  | .bl b, _ => .bl b
  | .int i, _ => .int i
  | .str z, _ => .str z
theorem dp_ats {K : PySem.W.Frag} {H : Hp} : ∀ {xs : List V}, xs.all isAt = true → DpAll K H xs (xs.map vD)
  | [], _ => .nil
  | x :: r, h => by
    rw [List.all_cons, Bool.and_eq_true] at h
    exact .cons (dp_at h.1) (dp_ats h.2)

end My
namespace My
open PySem PySem.Spec PyProof.Rows L2
/-! ### data without truths, compared -/
def PAtom (d : PyData) : Prop := d = .none ∨ (∃ i, d = .int i) ∨ ∃ z, PyData.canLay0 (.str z) = true ∧ d = .str z
def Pl : Nat → PyData → Prop
  | 0, d => PAtom d
  | n + 1, d => PAtom d ∨ ∃ ds, (d = .list ds ∨ d = .tuple ds) ∧ ∀ x ∈ ds, Pl n x
theorem Pl.atom {n : Nat} {d : PyData} (h : PAtom d) : Pl n d := by
  cases n with
  | zero => exact h
  | succ n => exact .inl h
theorem pl_int {n : Nat} (i : Int) : Pl n (.int i) := .atom (.inr (.inl ⟨i, rfl⟩))
theorem pl_non {n : Nat} : Pl n .none := .atom (.inl rfl)
theorem pl_str {n : Nat} {z : Str} (h : PyData.canLay0 (.str z) = true) : Pl n (.str z) := .atom (.inr (.inr ⟨z, h, rfl⟩))
theorem pl_lst {n : Nat} {ds : List PyData} (h : ∀ x ∈ ds, Pl n x) : Pl (n + 1) (.list ds) := .inr ⟨ds, .inl rfl, h⟩
theorem pl_tup {n : Nat} {ds : List PyData} (h : ∀ x ∈ ds, Pl n x) : Pl (n + 1) (.tuple ds) := .inr ⟨ds, .inr rfl, h⟩
theorem pl_ints {n : Nat} (ns : List Int) : ∀ x ∈ ns.map PyData.int, Pl n x := fun x hx => by
  obtain ⟨i, _, rfl⟩ := List.mem_map.mp hx
  exact pl_int i
theorem lay_all : ∀ ds : List PyData, (∀ x ∈ ds, PyData.canLay0 x = true) → PyData.canLayAll0 ds = true
  | [], _ => rfl
  | d :: r, h => by rw [PyData.canLayAll0, h d List.mem_cons_self, lay_all r fun x hx => h x (List.mem_cons_of_mem _ hx)]; rfl
theorem dep_all {n : Nat} : ∀ ds : List PyData, (∀ x ∈ ds, PyData.depth x ≤ n) → PyData.depthAll ds ≤ n
  | [], _ => Nat.zero_le _
  | d :: r, h => by
    rw [PyData.depthAll]
    have := h d List.mem_cons_self
    have := dep_all r fun x hx => h x (List.mem_cons_of_mem _ hx)
    omega
theorem atom_lay {d : PyData} (h : PAtom d) : PyData.canLay0 d = true ∧ PyData.depth d = 0 := by
  rcases h with rfl | ⟨i, rfl⟩ | ⟨z, hz, rfl⟩
  · exact ⟨rfl, rfl⟩
  · exact ⟨rfl, rfl⟩
  · exact ⟨hz, rfl⟩
theorem pl_lay : ∀ (n : Nat) (d : PyData), Pl n d → PyData.canLay0 d = true ∧ PyData.depth d ≤ n
  | 0, d, h => by
    obtain ⟨a, b⟩ := atom_lay h
    exact ⟨a, by omega⟩
  | n + 1, d, h => by
    rcases h with h | ⟨ds, h, hx⟩
    · obtain ⟨a, b⟩ := atom_lay h
      exact ⟨a, by omega⟩
    · have a := lay_all ds fun x hm => (pl_lay n x (hx x hm)).1
      have b := dep_all ds fun x hm => (pl_lay n x (hx x hm)).2
      rcases h with rfl | rfl
      · refine ⟨by rw [PyData.canLay0]; exact a, ?_⟩
        rw [PyData.depth]; omega
      · refine ⟨by rw [PyData.canLay0]; exact a, ?_⟩
        rw [PyData.depth]; omega
theorem pl_shp {n : Nat} {d : PyData} (h : Pl n d) (l : n ≤ 64) : SeqAt.shaped d = true := by
  obtain ⟨a, b⟩ := pl_lay n d h
  unfold SeqAt.shaped
  rw [a, decide_eq_true (by omega)]; rfl
theorem eqv_all : ∀ xs ys : List PyData, (∀ x ∈ xs, ∀ y ∈ ys, (PyData.eqv x y = true ↔ x = y)) → (PyData.eqvAll xs ys = true ↔ xs = ys)
  | [], [], _ => by rw [PyData.eqvAll]; simp
  | [], _ :: _, _ => by rw [PyData.eqvAll]; simp
  | _ :: _, [], _ => by rw [PyData.eqvAll]; simp
  | x :: xs, y :: ys, h => by
    rw [PyData.eqvAll, Bool.and_eq_true, h x List.mem_cons_self y List.mem_cons_self, eqv_all xs ys fun a ha b hb => h a (List.mem_cons_of_mem _ ha) b (List.mem_cons_of_mem _ hb), List.cons.injEq]
theorem atom_eqv {d e : PyData} (h : PAtom d) (k : PAtom e) : PyData.eqv d e = true ↔ d = e := by
  rcases h with rfl | ⟨i, rfl⟩ | ⟨z, _, rfl⟩ <;> rcases k with rfl | ⟨j, rfl⟩ | ⟨y, _, rfl⟩ <;> simp [PyData.eqv]
theorem pl_eqv : ∀ (n : Nat) (d e : PyData), Pl n d → Pl n e → (PyData.eqv d e = true ↔ d = e)
  | 0, d, e, h, k => atom_eqv h k
  | n + 1, d, e, h, k => by
    rcases h with h | ⟨ds, h, hx⟩
    · rcases k with k | ⟨es, k, hy⟩
      · exact atom_eqv h k
      · rcases h with rfl | ⟨i, rfl⟩ | ⟨z, _, rfl⟩ <;> rcases k with rfl | rfl <;> simp [PyData.eqv]
    · rcases k with k | ⟨es, k, hy⟩
      · rcases k with rfl | ⟨i, rfl⟩ | ⟨z, _, rfl⟩ <;> rcases h with rfl | rfl <;> simp [PyData.eqv]
      · have := eqv_all ds es fun x hm y hn => pl_eqv n x y (hx x hm) (hy y hn)
        rcases h with rfl | rfl <;> rcases k with rfl | rfl <;> simp [PyData.eqv, this]
theorem pl_dec {n : Nat} {d e : PyData} {p : Prop} [Decidable p] (h : Pl n d) (k : Pl n e) (i : d = e ↔ p) : PyData.eqv d e = decide p := by
  rw [Bool.eq_iff_iff, pl_eqv n d e h k, i, decide_eq_true_eq]
/-- data compared -/
theorem go_nePl {K : PySem.W.Frag} {H : Hp} {Q : VK} {x y : V} {d e : PyData} {n : Nat} {p : Prop} [Decidable p] (hx : Dp K H x d) (hy : Dp K H y e) (h : Pl n d) (k : Pl n e) (l : n ≤ 64) (i : d = e ↔ p) (q : Q (.bl (!decide p)) H) : rNeD K x y H Q :=
  ⟨d, e, hx, hy, pl_shp h l, pl_shp k l, by rw [pl_dec h k i]; exact q⟩
theorem go_eqPl {K : PySem.W.Frag} {H : Hp} {Q : VK} {x y : V} {d e : PyData} {n : Nat} {p : Prop} [Decidable p] (hx : Dp K H x d) (hy : Dp K H y e) (h : Pl n d) (k : Pl n e) (l : n ≤ 64) (i : d = e ↔ p) (q : Q (.bl (decide p)) H) : rEqD K x y H Q :=
  ⟨d, e, hx, hy, pl_shp h l, pl_shp k l, by rw [pl_dec h k i]; exact q⟩
theorem ints_inj {a b : List Int} : a.map PyData.int = b.map PyData.int ↔ a = b := ⟨fun h => (List.map_inj_right fun x y z => by injection z).mp h, fun h => by rw [h]⟩

end My
namespace My
open PySem PySem.Spec PyProof.Rows L2
/-! ### the pen: what a script's draws come from -/
structure PenS (H : Hp) (b c : Addr) (ns : List Int) (a r : Int) : Prop where
  ob : H b = some (.lst [.ref c, .int a, .int r])
  cl : H c = some (.lst (ns.map V.int))
  len : ns.length ≤ 63
  a0 : 0 ≤ a
  r0 : 0 ≤ r
/-- at most n cells were drawn -/
def Pen (H : Hp) (b c : Addr) (n : Nat) : Prop := ∃ ns a r, PenS H b c ns a r ∧ a ≤ n
theorem Pen.ed {H H' : Hp} {b c : Addr} {n : Nat} {S : List Addr} (h : Pen H b c n) (e : Vc.Ed S H H') (hb : b ∉ S) (hc : c ∉ S) : Pen H' b c n := by
  obtain ⟨ns, a, r, B, l⟩ := h
  exact ⟨ns, a, r, ⟨e.keep _ _ hb B.ob, e.keep _ _ hc B.cl, B.len, B.a0, B.r0⟩, l⟩
theorem Pen.ed0 {H H' : Hp} {b c : Addr} {n : Nat} (e : Vc.Ed [] H H') (h : Pen H b c n) : Pen H' b c n := h.ed e (fun z => nomatch z) (fun z => nomatch z)
theorem Pen.ed1 {H H' : Hp} {b c p : Addr} {n : Nat} (e : Vc.Ed [p] H H') (hb : b ≠ p) (hc : c ≠ p) (h : Pen H b c n) : Pen H' b c n :=
  h.ed e (fun z => hb (List.mem_singleton.mp z)) (fun z => hc (List.mem_singleton.mp z))
theorem Pen.up {H : Hp} {b c : Addr} {n m : Nat} (h : Pen H b c n) (l : n ≤ m) : Pen H b c m := by
  obtain ⟨ns, a, r, B, l'⟩ := h
  exact ⟨ns, a, r, B, by omega⟩
theorem Pen.fb {H : Hp} {b c p : Addr} {n : Nat} (h : Pen H b c n) (q : H p = none) : b ≠ p ∧ c ≠ p := by
  obtain ⟨ns, a, r, B, _⟩ := h
  exact ⟨ne_of_none B.ob q, ne_of_none B.cl q⟩
theorem Pen.lst {H : Hp} {b c : Addr} {n : Nat} (h : Pen H b c n) : ∃ x a r, H b = some (.lst [.ref x, .int a, .int r]) := by
  obtain ⟨ns, a, r, B, _⟩ := h
  exact ⟨_, _, _, B.ob⟩
def LIM : Nat := 1000000
def spDraw : Sp := fun vs H Q _ => ∃ (b c : Addr) (n : Nat) (m : Int), vs = [.ref b, .int m] ∧ Pen H b c n ∧ n ≤ LIM ∧ 1 ≤ m ∧ m < 2 ^ 190 ∧
  ∀ i H', 0 ≤ i → i < m → Vc.Ed [b] H H' → Pen H' b c (n + 1) → Q (.int i) H'
theorem pen_ns {ns : List Int} {a : Int} (h : ns ≠ []) (h0 : 0 ≤ a) : ∃ x, atI (ns.map V.int) (a % (ns.length : Int)) = some (.int x) := by
  have l : 0 < ns.length := List.length_pos_iff.mpr h
  have e0 := Int.emod_nonneg a (show (ns.length : Int) ≠ 0 by omega)
  have e1 := Int.emod_lt_of_pos a (show (0 : Int) < ns.length by omega)
  refine ⟨ns[(a % (ns.length : Int)).toNat]'(by omega), at_of (j := (a % (ns.length : Int)).toNat) (by omega) ?_⟩
  rw [List.getElem?_map, List.getElem?_eq_getElem (by omega)]; rfl
theorem sq_lt {y : Int} (h : y.natAbs < 2 ^ 64) : (y ^ (2 : Int).toNat).natAbs < 2 ^ 200 := by
  rw [Int.natAbs_pow]
  exact Nat.lt_of_lt_of_le (Nat.pow_lt_pow_left h (by decide)) (by decide)
section
variable {P : Program} {w : World} {K : PySem.W.Frag} {mg : Str → Option Value} {base : Heap} {A : Ad}
theorem ok__law_draw (T : Txt K mg A) : FnOk P w K mg base CX0 1 A.f__law_draw A.d__law_draw ["_law_pen_here", "_law_many"] spDraw := by
  refine T.F__law_draw.ok sc__law_draw (fun vs H Q E h => ?_) (fun cdv Ar outer s H vs Q E hr h => ?_)
  · obtain ⟨b, c, n, m, rfl, _⟩ := h
    rfl
  · obtain ⟨b, c, n, m, rfl, hB, nl, m1, m2, k⟩ := h
    have nl : n ≤ 1000000 := nl
    refine ⟨_, (pss_cons (ps_if (pt_cmpR op_gt (pe_ix ix_list (pv 0) pe_int (fun _ _ => rfl)) pe_int (nomark _)) (pss_cons (ps_set (i := 2) sc__law_draw.nd rfl (Or.inl rfl) (pe_op op_mod (pe_callTy call_int1 (by rfl) T.n_int (by decide +kernel) (pa_cons (pe_ix ix_list (pv 0) pe_int (fun _ _ => rfl)) pa_nil)) (pv 1))) (pss_cons (ps_asg (pe_op op_fdivW (pe_ix ix_list (pv 0) pe_int (fun _ _ => rfl)) (pv 1)) (pg_sub (pv 0) pe_int set_list)) (pss_one (ps_ret (pv 2))))) pss_nil) (pss_cons (ps_set (i := 3) sc__law_draw.nd rfl (Or.inl rfl) (pe_ix ix_list (pv 0) pe_int (fun _ _ => rfl))) (pss_cons (ps_asg (pe_op op_add (pv 3) pe_int) (pg_sub (pv 0) pe_int set_list)) (pss_cons (ps_set (i := 4) sc__law_draw.nd rfl (Or.inl rfl) (pe_op op_add (pe_op op_mulW pe_int (pv 3)) pe_int)) (Evl.pss_cut (ps_if (pt_cmpR op_gt (pe_callB call_len_seq (by rfl) T.n_len (by decide +kernel) (pa_cons (pe_ix ix_list (pv 0) pe_int (fun _ _ => rfl)) pa_nil)) pe_int (nomark _)) (pss_one (ps_set (i := 4) sc__law_draw.nd rfl (Or.inl rfl) (pe_ix ix_list (pe_ix ix_list (pv 0) pe_int (fun _ _ => rfl)) (pe_op op_mod (pe_callTy call_int1 (by rfl) T.n_int (by decide +kernel) (pa_cons (pv 3) pa_nil)) (pe_callB call_len_seq (by rfl) T.n_len (by decide +kernel) (pa_cons (pe_ix ix_list (pv 0) pe_int (fun _ _ => rfl)) pa_nil))) (fun _ _ => rfl)))) pss_nil) (Evl.pss_cut (ps_if (PW.pt (pw_and (pt_cmpR op_lt (pv 3) (pe_callB call_len_seq (by rfl) T.n_len (by decide +kernel) (pa_cons (pe_ix ix_list (pv 0) pe_int (fun _ _ => rfl)) pa_nil)) (nomark _)) (pw_and1 (pt_cmpR op_ge (pe_callB call_abs (by rfl) T.n_abs (by decide +kernel) (pa_cons (pv 4) pa_nil)) (pe_op op_pow pe_int pe_int) (nomark _))))) (pss_cons (ps_asg (pe_op op_fdivW (pe_callB call_abs (by rfl) T.n_abs (by decide +kernel) (pa_cons (pv 4) pa_nil)) (pv 1)) (pg_sub (pv 0) pe_int set_list)) (pss_one (ps_ret (pe_op op_mod (pe_callB call_abs (by rfl) T.n_abs (by decide +kernel) (pa_cons (pv 4) pa_nil)) (pv 1))))) pss_nil) (Evl.pss_cut (ps_set (i := 5) sc__law_draw.nd rfl (Or.inl rfl) (pe_op op_mod (pe_op op_pow (pe_op op_add (pe_op op_add (pe_op op_add (pe_op op_mod (pe_callTy call_int1 (by rfl) T.n_int (by decide +kernel) (pa_cons (pv 4) pa_nil)) pe_int) (pe_op op_mulW (pe_op op_mulW pe_int (pv 3)) (pv 3))) (pe_op op_mulW pe_int (pv 3))) pe_int) pe_int) pe_int)) (Evl.pss_cut (ps_set (i := 5) sc__law_draw.nd rfl (Or.inl rfl) (pe_op op_mod (pe_callTy call_int1 (by rfl) T.n_int (by decide +kernel) (pa_cons (pe_op op_mulW (pe_op op_pow (pe_op op_add (pe_op op_add (pv 5) (pe_op op_mulW pe_int (pv 3))) pe_int) pe_int) (pe_op op_add (pe_op op_mod (pe_callTy call_int1 (by rfl) T.n_int (by decide +kernel) (pa_cons (pv 5) pa_nil)) pe_int) pe_int)) pa_nil)) pe_int)) (pss_one (ps_ret (pe_op op_mod (pe_op op_fdivW (pv 5) pe_int) (pv 1)))))))))))), ?_⟩
    obtain ⟨ns, a, r, B, al⟩ := hB
    obtain ⟨hb, hc, hl, ha, hr0⟩ := id B
    have nbc : b ≠ c := fun z => by rw [z, hc] at hb; cases ns with
      | nil => cases hb
      | cons x l => cases hb
    have i0 : atI [V.ref c, .int a, .int r] 0 = some (.ref c) := rfl
    have i1 : atI [V.ref c, .int a, .int r] 1 = some (.int a) := rfl
    have i2 : atI [V.ref c, .int a, .int r] 2 = some (.int r) := rfl
    walk_at "go"
    refine Vc.go_ite (fun h1 => ?_) (fun h1 => ?_)
    · walk_at "go"
      refine Vc.go_setL hb rfl ?_
      generalize hu : upd _ b _ = H1
      obtain ⟨e1, hb1⟩ := Vc.chg hu hb
      walk_at "go"
      exact k _ _ (Int.emod_nonneg _ (by omega)) (Int.emod_lt_of_pos _ (by omega)) e1 ⟨ns, a, _, ⟨hb1, e1.at1 nbc.symm hc, hl, ha, Int.ediv_nonneg hr0 (by omega)⟩, by omega⟩
    walk_at "go"
    refine Vc.go_setL hb rfl ?_
    generalize hu : upd _ b _ = H1
    obtain ⟨e1, hb1⟩ := Vc.chg hu hb
    have hb1 : H1 b = some (.lst [.ref c, .int (a + 1), .int r]) := hb1
    have hc1 := e1.at1 nbc.symm hc
    have j0 : atI [V.ref c, .int (a + 1), .int r] 0 = some (.ref c) := rfl
    have j1 : atI [V.ref c, .int (a + 1), .int r] 1 = some (.int (a + 1)) := rfl
    have fin : ∀ (i : Int) H', 0 ≤ i → i < m → Vc.Ed [] H1 H' → Q (.int i) H' := fun i H' i0 i1 e => k i H' i0 i1 (e1.ex e) ⟨ns, a + 1, r, ⟨e.at0 hb1, e.at0 hc1, hl, by omega, hr0⟩, by omega⟩
    walk_at "go"
    refine Evl.q_cut (M := fun σ H' => ∃ cell : Int, σ = [some (.ref b), some (.int m), none, some (.int a), some (.int cell), none] ∧ H' = H1) ?_ ?_
    · walk_at "go"
      rw [List.length_map]
      refine Vc.go_ite (fun h2 => ?_) (fun h2 => ?_)
      · obtain ⟨x, hx⟩ := pen_ns (ns := ns) (a := a) (fun z => by rw [z] at h2; exact absurd h2 (by decide)) ha
        walk_at "go"
        rw [List.length_map]
        walk_at "go"
        exact ⟨_, rfl, rfl⟩
      · walk_at "go"
        exact ⟨_, rfl, rfl⟩
    · rintro σ H2 ⟨cell, rfl, rfl⟩
      walk_at "go"
      refine Evl.q_cut (M := fun σ H' => σ = [some (.ref b), some (.int m), none, some (.int a), some (.int cell), none] ∧ H' = H2) ?_ ?_
      · walk_at "go"
        rw [List.length_map]
        refine Vc.go_ite (fun h3 => ?_) (fun h3 => ?_)
        · walk_at "go"
          refine Vc.go_ite (fun h4 => ?_) (fun h4 => ?_)
          · walk_at "go"
            generalize hce : (if cell < 0 then -cell else cell) = cl
            have hc0 : 0 ≤ cl := by rw [← hce]; split <;> omega
            walk_at "go"
            refine Vc.go_setL hb1 rfl ?_
            generalize hu3 : upd _ b _ = H3
            obtain ⟨e3, hb3⟩ := Vc.chg hu3 hb1
            have hb3 : H3 b = some (.lst [.ref c, .int (a + 1), .int (cl / m)]) := hb3
            walk_at "go"
            rw [hce]
            exact k _ _ (Int.emod_nonneg _ (by omega)) (Int.emod_lt_of_pos _ (by omega)) (e1.one e3 (.inl (by simp))) ⟨ns, a + 1, _, ⟨hb3, e3.at1 nbc.symm hc1, hl, by omega, Int.ediv_nonneg (by omega) (by omega)⟩, by omega⟩
          · walk_at "go"
            exact ⟨rfl, rfl⟩
        · walk_at "go"
          exact ⟨rfl, rfl⟩
      · rintro σ H3 ⟨rfl, rfl⟩
        have sq0 : 0 ≤ 40029 * a * a := Int.mul_nonneg (Int.mul_nonneg (by decide) ha) ha
        have sq1 : 40029 * a * a ≤ 40029 * 1000000 * 1000000 := Int.mul_le_mul (by omega) (by omega) ha (by omega)
        walk_at "go"
        refine Evl.q_cut (M := fun σ H' => ∃ x : Int, σ = [some (.ref b), some (.int m), none, some (.int a), some (.int cell), some (.int x)] ∧ 0 ≤ x ∧ x < 2147483648 ∧ H' = H3) ?_ ?_
        · walk_at "go"
          exact ⟨_, rfl, Int.emod_nonneg _ (by decide), Int.lt_of_lt_of_le (Int.emod_lt_of_pos _ (by decide)) (by decide), rfl⟩
        · rintro σ H4 ⟨x, rfl, x0, x1, rfl⟩
          walk_at "go"
          refine Evl.q_cut (M := fun σ H' => ∃ x : Int, σ = [some (.ref b), some (.int m), none, some (.int a), some (.int cell), some (.int x)] ∧ 0 ≤ x ∧ x < 2147483648 ∧ H' = H4) ?_ ?_
          · walk_at "go"
            refine Vc.go_I (Vc.mulw (sq_lt (by omega)) (by omega)) ?_
            walk_at "go"
            exact ⟨_, rfl, Int.emod_nonneg _ (by decide), Int.lt_of_lt_of_le (Int.emod_lt_of_pos _ (by decide)) (by decide), rfl⟩
          · rintro σ H5 ⟨y, rfl, y0, y1, rfl⟩
            walk_at "go"
            exact fin _ _ (Int.emod_nonneg _ (by omega)) (Int.emod_lt_of_pos _ (by omega)) .refl
end
section
variable {P : Program} {w : World} {K : PySem.W.Frag} {mg : Str → Option Value} {base : Heap} {A : Ad}
def spPen (K : PySem.W.Frag) : Sp := fun vs H Q _ => ∃ (p : Addr) (ns : List Int), vs = [.ref p] ∧ SqL K H p (ns.map V.int) ∧ ns.length ≤ 63 ∧
  ∀ b c H', Vc.Ed [] H H' → Pen H' b c 0 → H b = none → H c = none → Q (.ref b) H'
theorem cut_ns {ns : List Int} (h : ns.length ≤ 63) : cutV (ns.map V.int) none (some 63) = ns.map V.int := by
  have e := Vc.cut_take (ns.map V.int) 63
  rw [List.take_of_length_le (by rw [List.length_map]; exact h)] at e
  exact e
theorem ok__law_pen (T : Txt K mg A) : FnOk P w K mg base CX0 1 A.f__law_pen A.d__law_pen ["_law_script"] (spPen K) := by
  refine T.F__law_pen.ok sc__law_pen (fun vs H Q E h => ?_) (fun cdv Ar outer s H vs Q E hr h => ?_)
  · obtain ⟨p, ns, rfl, _⟩ := h
    rfl
  · obtain ⟨p, ns, rfl, hS, hl, k⟩ := h
    refine ⟨_, (pss_one (ps_ret (pe_lst (pa_cons (pe_callTy Vc.call_lstD (by rfl) T.n_list (by decide +kernel) (pa_cons (pe_slice sl_list (pv 0) po_none (po_some pe_int)) pa_nil)) (pa_cons pe_int (pa_cons pe_int pa_nil)))))), ?_⟩
    walk_at "go"
    intro q nq
    generalize hu1 : upd _ q _ = H1
    obtain ⟨e1, hq⟩ := Vc.alloc hu1 nq
    walk_at "go"
    intro c nc
    generalize hu2 : upd _ c _ = H2
    obtain ⟨e2, hc⟩ := Vc.alloc hu2 nc
    rw [cut_ns hl] at hc
    walk_at "go"
    intro b nb
    generalize hu3 : upd _ b _ = H3
    obtain ⟨e3, hb⟩ := Vc.alloc hu3 nb
    exact k b c H3 (by walk_at "ed") ⟨ns, 0, 0, ⟨hb, e3.at0 hc, hl, by omega, by omega⟩, by omega⟩ (by walk_at "free") (by walk_at "free")
end

end My
namespace My
open PySem PySem.Spec PyProof.Rows L2
/-! ### a thing of a list, drawn -/
def spPick : Sp := fun vs H Q _ => ∃ (b c a : Addr) (n : Nat) (xs : List V), vs = [.ref b, .ref a] ∧ Pen H b c n ∧ n ≤ LIM ∧ H a = some (.lst xs) ∧ a ≠ b ∧ 1 ≤ xs.length ∧ xs.length ≤ 1000 ∧
  ∀ (i : Nat) (v : V) H', xs[i]? = some v → Vc.Ed [b] H H' → Pen H' b c (n + 1) → Q v H'
section
variable {P : Program} {w : World} {K : PySem.W.Frag} {mg : Str → Option Value} {base : Heap} {A : Ad}
theorem ok__law_pick (T : Txt K mg A) : FnOk P w K mg base CX0 2 A.f__law_pick A.d__law_pick ["_law_pen_here", "_law_some"] spPick := by
  have G__law_draw := ok__law_draw (P := P) (w := w) (base := base) T
  refine T.F__law_pick.ok sc__law_pick (fun vs H Q E h => ?_) (fun cdv Ar outer s H vs Q E hr h => ?_)
  · obtain ⟨b, c, a, n, xs, rfl, _⟩ := h
    rfl
  · obtain ⟨b, c, a, n, xs, rfl, hB, nl, ha, nab, l1, l2, k⟩ := h
    refine ⟨_, (pss_one (ps_ret (pe_ix ix_list (pv 1) (pe_call G__law_draw (by exact hr.mono (by decide)) (by rfl) T.g__law_draw T.F__law_draw.kp T.b__law_draw .nil pass0 (pa_cons (pv 0) (pa_cons (pe_callB call_len_seq (by rfl) T.n_len (by decide +kernel) (pa_cons (pv 1) pa_nil)) pa_nil))) (fun _ _ => rfl)))), ?_⟩
    walk_at "go"
    refine ⟨b, c, n, _, rfl, hB, nl, by omega, Int.lt_of_le_of_lt (show (xs.length : Int) ≤ 1000 by omega) (by decide), fun i H1 i0 i1 e1 hB1 => ?_⟩
    have ha1 := e1.at1 nab ha
    have hx : xs[i.toNat]? = some (xs[i.toNat]'(by omega)) := List.getElem?_eq_getElem (by omega)
    have hi : atI xs i = some (xs[i.toNat]'(by omega)) := at_of (z := i) (j := i.toNat) (by omega) hx
    walk_at "go"
    exact k i.toNat _ H1 hx e1 hB1
end

end My
namespace My
open PySem PySem.Spec PyProof.Rows L2
/-! ### what is raised, in words -/
inductive WErr where
  | addr (a : Int)
  | byte (a : Int)
  | len (a b : Int)
def WErr.cls (A : Ad) : WErr → Addr
  | .addr _ => A.C_BadAddress
  | .byte _ => A.C_BadByte
  | .len _ _ => A.C_UnlikeLengths
def WErr.fld : WErr → List (Str × V)
  | .addr a => [("at", .int a)]
  | .byte a => [("at", .int a)]
  | .len a b => [("other", .int b), ("one", .int a)]
def WErr.tup : WErr → List V
  | .addr a => [.str "address", .int a]
  | .byte a => [.str "byte", .int a]
  | .len a b => [.str "lengths", .int a, .int b]
def WErr.d : WErr → PyData
  | .addr a => .tuple [.str "address", .int a]
  | .byte a => .tuple [.str "byte", .int a]
  | .len a b => .tuple [.str "lengths", .int a, .int b]
def spWord (A : Ad) : Sp := fun vs H Q _ => ∃ (a : Addr) (e : WErr), vs = [.ref a] ∧ Vc.ErrAt H a (e.cls A) e.fld ∧ ∀ p H', Vc.Ed [] H H' → H' p = some (.tup e.tup) → Q (.ref p) H'
section
variable {P : Program} {w : World} {K : PySem.W.Frag} {mg : Str → Option Value} {base : Heap} {A : Ad}
theorem ok__law_word (T : Txt K mg A) : FnOk P w K mg base CX0 1 A.f__law_word A.d__law_word ["_law_error"] (spWord A) := by
  refine T.F__law_word.ok sc__law_word (fun vs H Q E h => ?_) (fun cdv Ar outer s H vs Q E hr h => ?_)
  · obtain ⟨a, e, rfl, _⟩ := h
    rfl
  · obtain ⟨a, e, rfl, hE, k⟩ := h
    refine ⟨_, (pss_cons (ps_set (i := 1) sc__law_word.nd rfl (Or.inl rfl) (pe_lst pa_nil)) (pss_cons (ps_if (pt_val (pe_callB Vc.call_isT (by rfl) T.n_isinstance (by decide +kernel) (pa_cons (pv 0) (pa_cons (pe_glob (v := .ref A.C_BadAddress) (by rfl) T.g_BadAddress rfl) pa_nil)))) (pss_one (ps_expr (pe_bm PySem.F.plainAttrs_list PySem.F.slot_list_append PySem.F.type_list_append mt_append (pv 1) (pa_cons (pe_tup (pa_cons pe_str (pa_cons (Vc.pe_xfT (pv 0)) pa_nil))) pa_nil)))) pss_nil) (pss_cons (ps_if (pt_val (pe_callB Vc.call_isT (by rfl) T.n_isinstance (by decide +kernel) (pa_cons (pv 0) (pa_cons (pe_glob (v := .ref A.C_BadByte) (by rfl) T.g_BadByte rfl) pa_nil)))) (pss_one (ps_expr (pe_bm PySem.F.plainAttrs_list PySem.F.slot_list_append PySem.F.type_list_append mt_append (pv 1) (pa_cons (pe_tup (pa_cons pe_str (pa_cons (Vc.pe_xfT (pv 0)) pa_nil))) pa_nil)))) pss_nil) (pss_cons (ps_if (pt_val (pe_callB Vc.call_isT (by rfl) T.n_isinstance (by decide +kernel) (pa_cons (pv 0) (pa_cons (pe_glob (v := .ref A.C_UnlikeLengths) (by rfl) T.g_UnlikeLengths rfl) pa_nil)))) (pss_one (ps_expr (pe_bm PySem.F.plainAttrs_list PySem.F.slot_list_append PySem.F.type_list_append mt_append (pv 1) (pa_cons (pe_tup (pa_cons pe_str (pa_cons (Vc.pe_xfT (pv 0)) (pa_cons (Vc.pe_xfT (pv 0)) pa_nil)))) pa_nil)))) pss_nil) (pss_cons (ps_if (pt_val (pe_callB Vc.call_isTT (by rfl) T.n_isinstance (by decide +kernel) (pa_cons (pv 0) (pa_cons (pe_tup (pa_cons (pe_glob (v := .ref A.C_BadCodes) (by rfl) T.g_BadCodes rfl) (pa_cons (pe_glob (v := .ref A.C_BadLayout) (by rfl) T.g_BadLayout rfl) (pa_cons (pe_glob (v := .ref A.C_BadRewrite) (by rfl) T.g_BadRewrite rfl) (pa_cons (pe_glob (v := .ref A.C_BadStep) (by rfl) T.g_BadStep rfl) (pa_cons (pe_glob (v := .ref A.C_BadText) (by rfl) T.g_BadText rfl) (pa_cons (pe_glob (v := .ref A.C_NotRight) (by rfl) T.g_NotRight rfl) (pa_cons (pe_glob (v := .ref A.C_NoWay) (by rfl) T.g_NoWay rfl) pa_nil)))))))) pa_nil)))) (pss_one (ps_ret (pe_tup (pa_cons pe_str pa_nil)))) pss_nil) (pss_cons (ps_if (PW.pt (pw_or (pt_cmpR op_ne (pe_callB call_len_seq (by rfl) T.n_len (by decide +kernel) (pa_cons (pv 1) pa_nil)) pe_int (nomark _)) (pw_or (pt_not (pt_val (pe_callB Vc.call_isT (by rfl) T.n_isinstance (by decide +kernel) (pa_cons (pv 0) (pa_cons (pe_glob (v := .ref A.C_BadInput) (by rfl) T.g_BadInput rfl) pa_nil))))) (pw_or1 (pt_not (pt_val (pe_callB Vc.call_isT (by rfl) T.n_isinstance (by decide +kernel) (pa_cons (pv 0) (pa_cons (pe_bltn (v := .ty "ValueError") (by rfl) T.n_ValueError (by decide +kernel) rfl) pa_nil))))))))) (pss_one (ps_ret (pe_tup (pa_cons pe_str pa_nil)))) pss_nil) (pss_one (ps_ret (pe_ix ix_list (pv 1) pe_int (fun _ _ => rfl)))))))))), ?_⟩
    cases e with
    | addr z =>
      have hE : Vc.ErrAt H a A.C_BadAddress [("at", .int z)] := hE
      have ec := T.ec_BadAddress
      have xf := T.xf_BadAddress
      have kt0 := T.kit_BadAddress_BadAddress
      have kt1 := T.kit_BadAddress_BadByte
      have kt2 := T.kit_BadAddress_UnlikeLengths
      have kt3 := T.kit_BadAddress_BadCodes
      have kt4 := T.kit_BadAddress_BadLayout
      have kt5 := T.kit_BadAddress_BadRewrite
      have kt6 := T.kit_BadAddress_BadStep
      have kt7 := T.kit_BadAddress_BadText
      have kt8 := T.kit_BadAddress_NotRight
      have kt9 := T.kit_BadAddress_NoWay
      have kta := T.kit_BadAddress_BadInput
      have ktb := T.kit_BadAddress_ValueError
      have no0 := T.no_BadAddress_at
      walk_at "go"
      intro f nf
      generalize hu1 : upd _ f _ = H1
      obtain ⟨e1, hf⟩ := Vc.alloc hu1 nf
      have hE1 := Vc.ErrAt.ed0 e1 hE
      walk_at "go"
      intro t nt
      generalize hu2 : upd _ t _ = H2
      obtain ⟨e2, ht⟩ := Vc.alloc hu2 nt
      have hf2 := e2.at0 hf
      walk_at "go"
      generalize hu3 : upd _ f _ = H3
      obtain ⟨e3, hf3⟩ := Vc.chg hu3 hf2
      have hf3 : H3 f = some (.lst [.ref t]) := hf3
      have e03 : Vc.Ed [] H H3 := (e1.ex e2).one e3 (.inr nf)
      have hE3 := Vc.ErrAt.ed0 e03 hE
      have ht3 := e3.tup _ _ ht
      clear hE1 hf hf2 e1 e2 e3 hu1 hu2 hu3
      walk_at "go"
      intro p np
      generalize hu4 : upd _ p _ = H4
      obtain ⟨e4, hp⟩ := Vc.alloc hu4 np
      have hE4 := Vc.ErrAt.ed0 e4 hE3
      have hp : H4 p = some (.tup (([A.C_BadCodes, A.C_BadLayout, A.C_BadRewrite, A.C_BadStep, A.C_BadText, A.C_NotRight, A.C_NoWay] : List Addr).map V.ref)) := hp
      have hf4 := e4.at0 hf3
      have ht4 := e4.at0 ht3
      walk_at "go"
      refine Vc.go_isNo hE4 ec hp (fun c hc => ?_) ?_
      · simp only [List.mem_cons, List.not_mem_nil, or_false] at hc
        rcases hc with rfl | rfl | rfl | rfl | rfl | rfl | rfl <;> assumption
      walk_at "go"
      refine Vc.go_itenF' (by rfl) ?_
      walk_at "goo"
      exact k t H4 (e03.ex e4) ht4
    | byte z =>
      have hE : Vc.ErrAt H a A.C_BadByte [("at", .int z)] := hE
      have ec := T.ec_BadByte
      have xf := T.xf_BadByte
      have kt0 := T.kit_BadByte_BadByte
      have kt1 := T.kit_BadByte_BadAddress
      have kt2 := T.kit_BadByte_UnlikeLengths
      have kt3 := T.kit_BadByte_BadCodes
      have kt4 := T.kit_BadByte_BadLayout
      have kt5 := T.kit_BadByte_BadRewrite
      have kt6 := T.kit_BadByte_BadStep
      have kt7 := T.kit_BadByte_BadText
      have kt8 := T.kit_BadByte_NotRight
      have kt9 := T.kit_BadByte_NoWay
      have kta := T.kit_BadByte_BadInput
      have ktb := T.kit_BadByte_ValueError
      have no0 := T.no_BadByte_at
      walk_at "go"
      intro f nf
      generalize hu1 : upd _ f _ = H1
      obtain ⟨e1, hf⟩ := Vc.alloc hu1 nf
      have hE1 := Vc.ErrAt.ed0 e1 hE
      walk_at "go"
      intro t nt
      generalize hu2 : upd _ t _ = H2
      obtain ⟨e2, ht⟩ := Vc.alloc hu2 nt
      have hf2 := e2.at0 hf
      walk_at "go"
      generalize hu3 : upd _ f _ = H3
      obtain ⟨e3, hf3⟩ := Vc.chg hu3 hf2
      have hf3 : H3 f = some (.lst [.ref t]) := hf3
      have e03 : Vc.Ed [] H H3 := (e1.ex e2).one e3 (.inr nf)
      have hE3 := Vc.ErrAt.ed0 e03 hE
      have ht3 := e3.tup _ _ ht
      clear hE1 hf hf2 e1 e2 e3 hu1 hu2 hu3
      walk_at "go"
      intro p np
      generalize hu4 : upd _ p _ = H4
      obtain ⟨e4, hp⟩ := Vc.alloc hu4 np
      have hE4 := Vc.ErrAt.ed0 e4 hE3
      have hp : H4 p = some (.tup (([A.C_BadCodes, A.C_BadLayout, A.C_BadRewrite, A.C_BadStep, A.C_BadText, A.C_NotRight, A.C_NoWay] : List Addr).map V.ref)) := hp
      have hf4 := e4.at0 hf3
      have ht4 := e4.at0 ht3
      walk_at "go"
      refine Vc.go_isNo hE4 ec hp (fun c hc => ?_) ?_
      · simp only [List.mem_cons, List.not_mem_nil, or_false] at hc
        rcases hc with rfl | rfl | rfl | rfl | rfl | rfl | rfl <;> assumption
      walk_at "go"
      refine Vc.go_itenF' (by rfl) ?_
      walk_at "goo"
      exact k t H4 (e03.ex e4) ht4
    | len z z2 =>
      have hE : Vc.ErrAt H a A.C_UnlikeLengths [("other", .int z2), ("one", .int z)] := hE
      have ec := T.ec_UnlikeLengths
      have xf := T.xf_UnlikeLengths
      have kt0 := T.kit_UnlikeLengths_UnlikeLengths
      have kt1 := T.kit_UnlikeLengths_BadAddress
      have kt2 := T.kit_UnlikeLengths_BadByte
      have kt3 := T.kit_UnlikeLengths_BadCodes
      have kt4 := T.kit_UnlikeLengths_BadLayout
      have kt5 := T.kit_UnlikeLengths_BadRewrite
      have kt6 := T.kit_UnlikeLengths_BadStep
      have kt7 := T.kit_UnlikeLengths_BadText
      have kt8 := T.kit_UnlikeLengths_NotRight
      have kt9 := T.kit_UnlikeLengths_NoWay
      have kta := T.kit_UnlikeLengths_BadInput
      have ktb := T.kit_UnlikeLengths_ValueError
      have no0 := T.no_UnlikeLengths_one
      have no1 := T.no_UnlikeLengths_other
      walk_at "go"
      intro f nf
      generalize hu1 : upd _ f _ = H1
      obtain ⟨e1, hf⟩ := Vc.alloc hu1 nf
      have hE1 := Vc.ErrAt.ed0 e1 hE
      walk_at "go"
      intro t nt
      generalize hu2 : upd _ t _ = H2
      obtain ⟨e2, ht⟩ := Vc.alloc hu2 nt
      have hf2 := e2.at0 hf
      walk_at "go"
      generalize hu3 : upd _ f _ = H3
      obtain ⟨e3, hf3⟩ := Vc.chg hu3 hf2
      have hf3 : H3 f = some (.lst [.ref t]) := hf3
      have e03 : Vc.Ed [] H H3 := (e1.ex e2).one e3 (.inr nf)
      have hE3 := Vc.ErrAt.ed0 e03 hE
      have ht3 := e3.tup _ _ ht
      clear hE1 hf hf2 e1 e2 e3 hu1 hu2 hu3
      walk_at "go"
      intro p np
      generalize hu4 : upd _ p _ = H4
      obtain ⟨e4, hp⟩ := Vc.alloc hu4 np
      have hE4 := Vc.ErrAt.ed0 e4 hE3
      have hp : H4 p = some (.tup (([A.C_BadCodes, A.C_BadLayout, A.C_BadRewrite, A.C_BadStep, A.C_BadText, A.C_NotRight, A.C_NoWay] : List Addr).map V.ref)) := hp
      have hf4 := e4.at0 hf3
      have ht4 := e4.at0 ht3
      walk_at "go"
      refine Vc.go_isNo hE4 ec hp (fun c hc => ?_) ?_
      · simp only [List.mem_cons, List.not_mem_nil, or_false] at hc
        rcases hc with rfl | rfl | rfl | rfl | rfl | rfl | rfl <;> assumption
      walk_at "go"
      refine Vc.go_itenF' (by rfl) ?_
      walk_at "goo"
      exact k t H4 (e03.ex e4) ht4
end
/-- what an error that comes out of the lambda asks -/
def HeardE (A : Ad) (Q : VK) : XK := fun cls d H' => ∃ (e : WErr) (dd : Addr), cls = .ref (e.cls A) ∧ d = some dd ∧ H' dd = some (.xd e.fld) ∧ ∀ p H'', Vc.Ed [] H' H'' → H'' p = some (.tup e.tup) → Q (.ref p) H''
def HeardR (Q : VK) : VK := fun v H' => ∀ p H'', Vc.Ed [] H' H'' → H'' p = some (.lst [v]) → Q (.ref p) H''
def THeard (A : Ad) (tl : XK → Hp → VK → Prop) (H : Hp) (Q : VK) : Prop := ∀ (E : XK) (R : VK), (∀ cls d H', HeardE A Q cls d H' → E cls d H') → (∀ v H', HeardR Q v H' → R v H') → tl E H R
theorem gives__law_heard {X : Cx} {A : Ad} {q : Str} (T : Txt X.K X.mg A) (cdg : Value) : Vc.GivesS 9 X ["_law_asked", "_law_caught", "_law_found", "_law_error"] "_law_heard" (defScope s__law_heard) A.f__law_heard cdg (defBody s__law_heard) "_law_asked" q (THeard A) := by
  have G__law_word := ok__law_word (P := X.prog) (w := X.w) (base := X.base) T
  intro f c' s H Q tl hr act hc h
  refine ⟨_, (pss_cons (ps_set (i := 1) sc__law_heard.nd rfl (Or.inl rfl) pe_non) (pss_cons (ps_set (i := 2) sc__law_heard.nd rfl (Or.inl rfl) pe_non) (pss_cons (Vc.ps_tryX (i := 3) rfl rfl sc__law_heard.nd rfl rfl ⟨rfl, by decide, .inl T.g_CodeError⟩ takes0 (fun W pn xe tk po => (pss_one (ps_set (i := 2) sc__law_heard.nd rfl (Or.inl rfl) (act W pn xe _ _ tk)))) (fun a pn => (pss_one (ps_set (i := 1) sc__law_heard.nd rfl (Or.inl rfl) (pv 3))))) (pss_cons (ps_if (pt_cmpR op_isN (pv 1) pe_non (nomark _)) (pss_one (ps_ret (pe_lst (pa_cons (pv 2) pa_nil)))) pss_nil) (pss_one (ps_ret (pe_call G__law_word (by exact hr.mono (by decide)) (by rfl) T.g__law_word T.F__law_word.kp T.b__law_word .nil pass0 (pa_cons (pv 1) pa_nil)))))))), ?_⟩
  walk_at "go"
  refine ⟨rfl, hc, h _ _ (fun cls d H' he => ?_) fun v H' hv => ?_⟩
  · obtain ⟨e, dd, rfl, rfl, hd, k⟩ := he
    have ex : PySem.W.exmOne X.K (.ref (e.cls A)) (.ref A.C_CodeError) = some true := by
      cases e
      · exact T.exm_BadAddress_CodeError
      · exact T.exm_BadByte_CodeError
      · exact T.exm_UnlikeLengths_CodeError
    refine Vc.go_wX ex fun a H3 na e3 ha => ?_
    have hE := Vc.ErrAt.of ha e3 hd
    walk_at "go"
    exact ⟨a, e, rfl, hE, fun p H4 e4 hp => k p H4 (e3.ex e4) hp⟩
  · walk_at "go"
    intro p np
    generalize hu1 : upd _ p _ = H1
    obtain ⟨e1, hp⟩ := Vc.alloc hu1 np
    exact hv p H1 e1 hp

end My
namespace My
open PySem PySem.Spec PyProof.Rows L2
/-! ### is_byte -/
def spIsByte : Sp := fun vs H Q _ => ∃ n : Int, vs = [.int n] ∧ ∀ H', Vc.Ed [] H H' → Q (.bl (decide (0 ≤ n ∧ n ≤ 255))) H'
section
variable {P : Program} {w : World} {K : PySem.W.Frag} {mg : Str → Option Value} {base : Heap} {A : Ad}
theorem ok_is_byte (T : Txt K mg A) : FnOk P w K mg base CX0 1 A.f_is_byte A.d_is_byte ["value"] spIsByte := by
  refine T.F_is_byte.ok sc_is_byte (fun vs H Q E h => ?_) (fun cdv Ar outer s H vs Q E hr h => ?_)
  · obtain ⟨n, rfl, _⟩ := h
    rfl
  · obtain ⟨n, rfl, k⟩ := h
    refine ⟨_, (pss_one (ps_ret (pe_and (pe_callB call_isi (by rfl) T.n_isinstance (by decide +kernel) (pa_cons (pv 0) (pa_cons (pe_bltn (v := .ty "int") (by rfl) T.n_int (by decide +kernel) rfl) pa_nil))) (pe_and (pe_not (pe_callB call_isi (by rfl) T.n_isinstance (by decide +kernel) (pa_cons (pv 0) (pa_cons (pe_bltn (v := .ty "bool") (by rfl) T.n_bool (by decide +kernel) rfl) pa_nil)))) (pe_one (pe_chain op_le op_le pe_int (pv 0) pe_int)))))), ?_⟩
    walk_at "go"
    refine Vc.go_ite (fun h1 => ?_) (fun h1 => ?_)
    · walk_at "go"
      have e : decide (0 ≤ n ∧ n ≤ 255) = decide (n ≤ 255) := by rw [Bool.eq_iff_iff]; simp [h1]
      have := k H Vc.Ed.refl
      rw [e] at this
      exact this
    · have e : decide (0 ≤ n ∧ n ≤ 255) = false := decide_eq_false (by omega)
      have := k H Vc.Ed.refl
      rw [e] at this
      exact this
end

end My
namespace My
open PySem PySem.Spec PyProof.Rows L2
/-! ### images: made of bytes, walked by a list's iterator, asked for their length -/
def imgF (l : Addr) : List (Str × V) := [("cells", .ref l)]
theorem img_cells {l : Addr} : (imgF l).lookup ("cells" : Str) = some (.ref l) := rfl
structure ImgAt (A : Ad) (H : Hp) (p l : Addr) (vals : List Int) : Prop where
  ob : ∃ dx, H p = some (.ins A.C_Image dx (imgF l))
  ls : H l = some (.lst (vals.map V.int))
theorem ImgAt.ed {A : Ad} {H H' : Hp} {p l : Addr} {vals : List Int} {S : List Addr} (h : ImgAt A H p l vals) (e : Vc.Ed S H H') (n1 : p ∉ S) (n2 : l ∉ S) : ImgAt A H' p l vals := by
  obtain ⟨⟨dx, h1⟩, h2⟩ := h
  exact ⟨⟨dx, e.keep _ _ n1 h1⟩, e.keep _ _ n2 h2⟩
theorem ImgAt.ed0 {A : Ad} {H H' : Hp} {p l : Addr} {vals : List Int} (e : Vc.Ed [] H H') (h : ImgAt A H p l vals) : ImgAt A H' p l vals := h.ed e (fun z => nomatch z) (fun z => nomatch z)
def spImgLen (A : Ad) : Sp := fun vs H Q _ => ∃ (p l : Addr) (vals : List Int), vs = [.ref p] ∧ ImgAt A H p l vals ∧ Q (.int vals.length) H
def spImgIter (A : Ad) : Sp := fun vs H Q _ => ∃ (p l : Addr) (vals : List Int), vs = [.ref p] ∧ ImgAt A H p l vals ∧ ∀ it, H it = none → Q (.ref it) (upd H it (ItO l it 0))
section
variable {P : Program} {w : World} {K : PySem.W.Frag} {mg : Str → Option Value} {base : Heap} {A : Ad}
theorem ok_Imageu_lenu (T : Txt K mg A) : FnOk P w K mg base CX0 1 A.f_Imageu_lenu A.d_Imageu_lenu ["self"] (spImgLen A) := by
  refine T.F_Imageu_lenu.ok sc_Imageu_lenu (fun vs H Q E h => ?_) (fun cdv Ar outer s H vs Q E hr h => ?_)
  · obtain ⟨p, l, vals, rfl, _⟩ := h
    rfl
  · obtain ⟨p, l, vals, rfl, X, k⟩ := h
    have cl := T.cl_Image
    have no1 := T.no_Image_cells
    obtain ⟨⟨dx, hx⟩, ho⟩ := X
    have l1 := img_cells (l := l)
    refine ⟨_, (pss_one (ps_ret (pe_callB call_len_seq (by rfl) T.n_len (by decide +kernel) (pa_cons (pe_fld (pv 0) rfl) pa_nil)))), ?_⟩
    walk_at "go"
    rw [List.length_map]
    exact k
theorem ok_Imageu_iteru (T : Txt K mg A) : FnOk P w K mg base CX0 1 A.f_Imageu_iteru A.d_Imageu_iteru ["self"] (spImgIter A) := by
  refine T.F_Imageu_iteru.ok sc_Imageu_iteru (fun vs H Q E h => ?_) (fun cdv Ar outer s H vs Q E hr h => ?_)
  · obtain ⟨p, l, vals, rfl, _⟩ := h
    rfl
  · obtain ⟨p, l, vals, rfl, X, k⟩ := h
    have cl := T.cl_Image
    have no1 := T.no_Image_cells
    obtain ⟨⟨dx, hx⟩, ho⟩ := X
    have l1 := img_cells (l := l)
    refine ⟨_, (pss_one (ps_ret (pe_callB call_iterL (by rfl) T.n_iter (by decide +kernel) (pa_cons (pe_fld (pv 0) rfl) pa_nil)))), ?_⟩
    walk_at "go"
    exact ⟨l, _, rfl, .of ho, fun it nit => k it nit⟩
/-- an image read by list(..) -/
theorem img_run {H : Hp} {p l q : Addr} {vals : List Int} (X : ImgAt A H p l vals) (l1000 : vals.length ≤ 1000) (hq : l ≠ q) : Vc.LiRun K (spImgIter A) (spImgLen A) p q (vals.map V.int) H fun _ => True := by
  refine ⟨p, l, vals, rfl, X, fun it nit => ⟨l, it, rfl, .new nit, nit, upd_same, .of ?_, hq, ne_of_none X.ls nit, ?_⟩⟩
  · rw [upd_ne (ne_of_none X.ls nit)]; exact X.ls
  · exact ⟨p, l, vals, rfl, X.ed0 (.new nit), _, rfl, by omega, by omega, .refl, trivial⟩
end

end My
namespace My
open PySem PySem.Spec PyProof.Rows L2
/-! ### images made -/
def spCheckB (K : PySem.W.Frag) : Sp := fun vs H Q _ => ∃ (l : Addr) (vals : List Int), vs = [.ref l] ∧ SqL K H l (vals.map V.int) ∧ (∀ x ∈ vals, 0 ≤ x ∧ x ≤ 255) ∧ ∀ H', Vc.Ed [] H H' → Q .non H'
section
variable {P : Program} {w : World} {K : PySem.W.Frag} {mg : Str → Option Value} {base : Heap} {A : Ad}
theorem ok_check_bytes (T : Txt K mg A) : FnOk P w K mg base CX0 2 A.f_check_bytes A.d_check_bytes ["values"] (spCheckB K) := by
  have G_is_byte := ok_is_byte (P := P) (w := w) (base := base) T
  refine T.F_check_bytes.ok sc_check_bytes (fun vs H Q E h => ?_) (fun cdv Ar outer s H vs Q E hr h => ?_)
  · obtain ⟨l, vals, rfl, _⟩ := h
    rfl
  · obtain ⟨l, vals, rfl, hl, hb, k⟩ := h
    refine ⟨_, (pss_one (ps_for PassesOwn.never rfl (pi_enum (by rfl) T.n_enumerate (pa_cons (pv 0) pa_nil)) (pg_tup rfl (pgs_cons (pg_name (i := 1) sc_check_bytes.nd rfl (Or.inl rfl)) (pgs_cons (pg_name (i := 2) sc_check_bytes.nd rfl (Or.inl rfl)) pgs_nil))) (pss_one (ps_if (pt_not (pt_val (pe_call G_is_byte (by exact hr.mono (by decide)) (by rfl) T.g_is_byte T.F_is_byte.kp T.b_is_byte .nil pass0 (pa_cons (pv 2) pa_nil)))) (pss_one ps_never) pss_nil)))), ?_⟩
    walk_at "go"
    show tCons (tVar 0) tNil _ H _
    walk_at "go"
    refine ⟨l, _, rfl, hl, for_it walk_enum (fun i σ H' => ∃ y z : Option V, σ = [some (.ref l), y, z] ∧ Vc.Ed [] H H') ⟨none, none, rfl, .refl⟩ (fun i σ' H' _ h => (by obtain ⟨_, _, _, e⟩ := h; exact Vc.Ed.sql0 e hl)) (fun i v σ' H' H2 hi hp hy => ?_) fun σ' H' hp => ?_⟩
    · obtain ⟨y, z, rfl, e⟩ := hp
      obtain ⟨t, a, b, rfl, nt, rfl, ha, hbx⟩ := hy
      cases ha
      have hbx : (vals.map V.int)[i]? = some b := hbx
      rw [List.getElem?_map] at hbx
      obtain ⟨n, hn, rfl⟩ := Option.map_eq_some_iff.mp hbx
      have hnb := hb n (List.mem_of_getElem? hn)
      generalize hu : upd _ t _ = H3
      obtain ⟨e3, ht⟩ := Vc.alloc hu nt
      refine ⟨t, _, rfl, .of ht, rfl, _, _, rfl, ?_⟩
      walk_at "go"
      refine ⟨_, _, rfl, ?_⟩
      walk_at "go"
      refine ⟨rfl, ?_⟩
      walk_at "go"
      refine ⟨n, rfl, fun H4 e4 => ?_⟩
      rw [decide_eq_true hnb]
      walk_at "go"
      exact ⟨_, _, rfl, by walk_at "ed"⟩
    · obtain ⟨y, z, rfl, e⟩ := hp
      walk_at "go"
      exact k H' e
def spImgInit (A : Ad) (K : PySem.W.Frag) : Sp := fun vs H Q _ => ∃ (p dx h : Addr) (vals : List Int), vs = [.ref p, .ref h] ∧ H p = some (.ins A.C_Image dx []) ∧ SqL K H h (vals.map V.int) ∧ vals.length ≤ 1000 ∧ (∀ x ∈ vals, 0 ≤ x ∧ x ≤ 255) ∧
  ∀ l H', Vc.Ed [p] H H' → H l = none → ImgAt A H' p l vals → Q .non H'
theorem ok_Imageu_initu (T : Txt K mg A) : FnOk P w K mg base CX0 3 A.f_Imageu_initu A.d_Imageu_initu ["self", "values"] (spImgInit A K) := by
  have G_check_bytes := ok_check_bytes (P := P) (w := w) (base := base) T
  refine T.F_Imageu_initu.ok sc_Imageu_initu (fun vs H Q E h => ?_) (fun cdv Ar outer s H vs Q E hr h => ?_)
  · obtain ⟨p, dx, h, vals, rfl, _⟩ := h
    rfl
  · obtain ⟨p, dx, h, vals, rfl, hp, hh, vl, hb, k⟩ := h
    have cl := T.cl_Image
    have no1 := T.no_Image_cells
    refine ⟨_, (pss_cons (ps_set (i := 2) sc_Imageu_initu.nd rfl (Or.inl rfl) (pe_callTy Vc.call_lstD (by rfl) T.n_list (by decide +kernel) (pa_cons (pv 1) pa_nil))) (pss_cons (ps_expr (pe_call G_check_bytes (by exact hr.mono (by decide)) (by rfl) T.g_check_bytes T.F_check_bytes.kp T.b_check_bytes .nil pass0 (pa_cons (pv 2) pa_nil))) (pss_one (ps_fld (pv 0) (pv 2) rfl)))), ?_⟩
    walk_at "go"
    intro L nL
    generalize hu1 : upd _ L _ = H1
    obtain ⟨e1, hL⟩ := Vc.alloc hu1 nL
    walk_at "go"
    refine ⟨L, vals, rfl, .of hL, hb, fun H2 e2 => ?_⟩
    have hp2 := e2.at0 (e1.at0 hp)
    have nLp : L ≠ p := fun z => by rw [z, hp] at nL; cases nL
    walk_at "go"
    generalize hu3 : upd _ p _ = H3
    obtain ⟨e3, hp3⟩ := Vc.chg hu3 hp2
    walk_at "go"
    exact k L H3 (by walk_at "ed") nL ⟨⟨dx, hp3⟩, e3.at1 nLp (e2.at0 hL)⟩
end

end My
namespace My
open PySem PySem.Spec PyProof.Rows L2
/-! ### bytes of an image from one address to another -/
theorem cut_all {xs : List Int} : cutV (xs.map V.int) (some 0) (some (xs.length : Int)) = xs.map V.int := by
  have e := Vc.cut_take (xs.map V.int) xs.length
  rw [List.take_of_length_le (by rw [List.length_map]; exact Nat.le_refl _)] at e
  exact e
def spSpanT : Sp := fun vs H Q _ => ∃ (t : Addr) (lo hi size : Int), vs = [.ref t, .int size] ∧ H t = some (.tup [.int lo, .int hi]) ∧ 0 ≤ lo ∧ lo ≤ hi ∧ hi ≤ size ∧ ∀ t H', Vc.Ed [] H H' → H' t = some (.tup [.int lo, .int hi]) → Q (.ref t) H'
def spImgGetT (A : Ad) : Sp := fun vs H Q _ => ∃ (p l t : Addr) (vals : List Int), vs = [.ref p, .ref t] ∧ ImgAt A H p l vals ∧ vals.length ≤ 1000 ∧ H t = some (.tup [.int 0, .int vals.length]) ∧ ∀ L H', Vc.Ed [] H H' → H L = none → H' L = some (.lst (vals.map V.int)) → Q (.ref L) H'
section
variable {P : Program} {w : World} {K : PySem.W.Frag} {mg : Str → Option Value} {base : Heap} {A : Ad}
theorem ok_span_of (T : Txt K mg A) : FnOk P w K mg base CX0 1 A.f_span_of A.d_span_of ["at", "size"] spSpanT := by
  refine T.F_span_of.ok sc_span_of (fun vs H Q E h => ?_) (fun cdv Ar outer s H vs Q E hr h => ?_)
  · obtain ⟨t, lo, hi, z, rfl, _⟩ := h
    rfl
  · obtain ⟨t, lo, hi, z, rfl, ht, h0, h1, h2, k⟩ := h
    refine ⟨_, (pss_cons (ps_if (pt_not (pt_val (pe_callB call_isi (by rfl) T.n_isinstance (by decide +kernel) (pa_cons (pv 0) (pa_cons (pe_bltn (v := .ty "tuple") (by rfl) T.n_tuple (by decide +kernel) rfl) pa_nil))))) (pss_cons ps_never (pss_one ps_never)) pss_nil) (pss_cons (ps_asg (pv 0) (pg_tup rfl (pgs_cons (pg_name (i := 2) sc_span_of.nd rfl (Or.inl rfl)) (pgs_cons (pg_name (i := 3) sc_span_of.nd rfl (Or.inl rfl)) pgs_nil)))) (pss_cons (ps_if (PW.pt (pw_or (pt_cmpR op_lt (pv 2) pe_int (nomark _)) (pw_or1 (pt_cmpR op_gt (pv 2) (pv 1) (nomark _))))) (pss_one ps_never) pss_nil) (pss_cons (ps_if (PW.pt (pw_or (pt_cmpR op_lt (pv 3) (pv 2) (nomark _)) (pw_or1 (pt_cmpR op_gt (pv 3) (pv 1) (nomark _))))) (pss_one ps_never) pss_nil) (pss_one (ps_ret (pe_tup (pa_cons (pv 2) (pa_cons (pv 3) pa_nil))))))))), ?_⟩
    walk_at "go"
    refine ⟨t, _, rfl, .of ht, rfl, _, _, rfl, ?_⟩
    walk_at "go"
    refine ⟨_, _, rfl, ?_⟩
    walk_at "go"
    refine ⟨rfl, ?_⟩
    walk_at "goo"
    intro q nq
    generalize hu : upd _ q _ = H1
    obtain ⟨e1, hq⟩ := Vc.alloc hu nq
    walk_at "go"
    exact k q H1 e1 hq
theorem ok_Imageu_getitemu (T : Txt K mg A) : FnOk P w K mg base CX0 2 A.f_Imageu_getitemu A.d_Imageu_getitemu ["self", "at"] (spImgGetT A) := by
  have G_span_of := ok_span_of (P := P) (w := w) (base := base) T
  refine T.F_Imageu_getitemu.ok sc_Imageu_getitemu (fun vs H Q E h => ?_) (fun cdv Ar outer s H vs Q E hr h => ?_)
  · obtain ⟨p, l, t, vals, rfl, _⟩ := h
    rfl
  · obtain ⟨p, l, t, vals, rfl, X, vl, ht, k⟩ := h
    have cl := T.cl_Image
    have no1 := T.no_Image_cells
    obtain ⟨⟨dx, hx⟩, ho⟩ := X
    have l1 := img_cells (l := l)
    refine ⟨_, (pss_cons (ps_asg (pe_call G_span_of (by exact hr.mono (by decide)) (by rfl) T.g_span_of T.F_span_of.kp T.b_span_of .nil pass0 (pa_cons (pv 1) (pa_cons (pe_callB call_len_seq (by rfl) T.n_len (by decide +kernel) (pa_cons (pe_fld (pv 0) rfl) pa_nil)) pa_nil))) (pg_tup rfl (pgs_cons (pg_name (i := 2) sc_Imageu_getitemu.nd rfl (Or.inl rfl)) (pgs_cons (pg_name (i := 3) sc_Imageu_getitemu.nd rfl (Or.inl rfl)) pgs_nil)))) (pss_cons (ps_if (pt_val (pe_callB call_isi (by rfl) T.n_isinstance (by decide +kernel) (pa_cons (pv 1) (pa_cons (pe_bltn (v := .ty "tuple") (by rfl) T.n_tuple (by decide +kernel) rfl) pa_nil)))) (pss_one (ps_ret (pe_slice sl_list (pe_fld (pv 0) rfl) (po_some (pv 2)) (po_some (pv 3))))) pss_nil) (pss_one ps_never))), ?_⟩
    walk_at "go"
    rw [List.length_map]
    refine ⟨t, 0, _, _, rfl, ht, by omega, by omega, Int.le_refl _, fun t2 H1 e1 ht2 => ?_⟩
    have hx1 := e1.at0 hx
    have ho1 := e1.at0 ho
    have ht1 := e1.at0 ht
    walk_at "go"
    refine ⟨t2, _, rfl, .of ht2, rfl, _, _, rfl, ?_⟩
    walk_at "go"
    refine ⟨_, _, rfl, ?_⟩
    walk_at "go"
    refine ⟨rfl, ?_⟩
    walk_at "go"
    intro q nq
    generalize hu : upd _ q _ = H2
    obtain ⟨e2, hq⟩ := Vc.alloc hu nq
    rw [cut_all] at hq
    walk_at "go"
    exact k q H2 (e1.ex e2) (e1.dom _ nq) hq
end

end My
namespace My
open PySem PySem.Spec PyProof.Rows L2
/-! ### what is handed as values of a rewrite: a list, a tuple, an image -/
def Given (A : Ad) (K : PySem.W.Frag) (H : Hp) (h : Addr) (vals : List Int) : Prop := SqL K H h (vals.map V.int) ∨ SqT K H h (vals.map V.int) ∨ ∃ l, ImgAt A H h l vals
theorem Given.ed0 {A : Ad} {K : PySem.W.Frag} {H H' : Hp} {h : Addr} {vals : List Int} (e : Vc.Ed [] H H') (X : Given A K H h vals) : Given A K H' h vals := by
  rcases X with X | X | ⟨l, X⟩
  · exact .inl (e.sql0 X)
  · exact .inr (.inl (e.sqt X))
  · exact .inr (.inr ⟨l, X.ed0 e⟩)
/-- the new instance gets its fields -/
theorem Given.ins {A : Ad} {K : PySem.W.Frag} {H H' : Hp} {h p C dx : Addr} {vals : List Int} (hp : H p = some (.ins C dx [])) (e : Vc.Ed [p] H H') (X : Given A K H h vals) : Given A K H' h vals := by
  rcases X with X | X | ⟨l, X⟩
  · exact .inl (e.sqlk hp (fun ys z => by cases z) X)
  · exact .inr (.inl (e.sqt X))
  · refine .inr (.inr ⟨l, X.ed e (fun z => ?_) (fun z => ?_)⟩)
    · obtain ⟨dy, h1⟩ := X.ob
      rw [List.mem_singleton.mp z, hp] at h1; cases h1
    · have := X.ls
      rw [List.mem_singleton.mp z, hp] at this; cases this
theorem given_any {A : Ad} {K : PySem.W.Frag} {H : Hp} {Q : VK} {h : Addr} {vals : List Int} (X : Given A K H h vals) (l1 : vals.length ≤ 1000) (k : ∀ L H', H L = none → Vc.Ed [] H H' → H' L = some (.lst (vals.map V.int)) → Q (.ref L) H') :
    Vc.rLstOf K [.ref h] H Q ∨ Vc.rListLi K A.C_Image (spImgIter A) (spImgLen A) [.ref h] H Q := by
  rcases X with X | X | ⟨l, X⟩
  · exact .inl (Vc.go_lstD X fun L nL => k L _ nL (.new nL) upd_same)
  · exact .inl (Vc.go_lstDT X fun L nL => k L _ nL (.new nL) upd_same)
  · obtain ⟨dy, h1⟩ := X.ob
    exact .inr ⟨h, dy, imgF l, _, rfl, h1, by rw [List.length_map]; exact l1, fun q H1 nq e => img_run (X.ed0 e) l1 (ne_of_none X.ls nq), k⟩

end My
namespace My
open PySem PySem.Spec PyProof.Rows L2
/-! ### patches of bytes at addresses -/
abbrev PL := List (Int × Int)
def ptF (d : Addr) : List (Str × V) := [("pairs", .ref d)]
theorem pt_pairs {d : Addr} : (ptF d).lookup ("pairs" : Str) = some (.ref d) := rfl
def kvsP (l : PL) : List (Key × V) := l.map fun q => (.inl q.1, .int q.2)
theorem kvsP_len (l : PL) : (kvsP l).length = l.length := List.length_map _
theorem keys_kvsP (l : PL) : ((kvsP l).map fun kv => kV kv.1) = (l.map (·.1)).map V.int := by
  unfold kvsP
  rw [List.map_map, List.map_map]; rfl
theorem valP_none {l : PL} {a : Int} (h : a ∉ l.map (·.1)) : valV (kvsP l) (.inl a) = none := by
  unfold valV kvsP
  rw [Option.map_eq_none_iff, List.find?_eq_none]
  intro x hx
  obtain ⟨q, hq, rfl⟩ := List.mem_map.mp hx
  intro z
  exact h (List.mem_map.mpr ⟨q, hq, Sum.inl.inj (of_decide_eq_true z)⟩)
theorem valP_mem {l : PL} {q : Int × Int} (nd : (l.map (·.1)).Nodup) (hm : q ∈ l) : valV (kvsP l) (.inl q.1) = some (.int q.2) := by
  induction l with
  | nil => cases hm
  | cons x r ih =>
    rw [List.map_cons, List.nodup_cons] at nd
    unfold valV kvsP
    rw [List.map_cons, List.find?_cons]
    by_cases e : x.1 = q.1
    · have : x = q := by
        rcases List.mem_cons.mp hm with h | h
        · exact h.symm
        · exact (nd.1 (e ▸ List.mem_map.mpr ⟨q, h, rfl⟩)).elim
      subst this
      simp
    · have h2 : q ∈ r := (List.mem_cons.mp hm).resolve_left fun z => e (by rw [z])
      have n : ¬ (decide ((Sum.inl x.1 : Key) = Sum.inl q.1) = true) := by
        intro z
        exact e (Sum.inl.inj (of_decide_eq_true z))
      rw [show decide ((Sum.inl x.1 : Key) = Sum.inl q.1) = false from Bool.eq_false_iff.mpr n]
      exact ih nd.2 h2
theorem putP {l : PL} {a b : Int} (h : a ∉ l.map (·.1)) : putK (kvsP l) (.inl a) (.int b) = kvsP (l ++ [(a, b)]) := by
  rw [putK_new _ (valP_none h)]
  unfold kvsP
  rw [List.map_append]; rfl
structure PatAt (A : Ad) (H : Hp) (p d : Addr) (l : PL) : Prop where
  ob : ∃ dx, H p = some (.ins A.C_Patch dx (ptF d))
  ds : H d = some (.dK (kvsP l))
theorem PatAt.ed {A : Ad} {H H' : Hp} {p d : Addr} {l : PL} {S : List Addr} (h : PatAt A H p d l) (e : Vc.Ed S H H') (n1 : p ∉ S) (n2 : d ∉ S) : PatAt A H' p d l := by
  obtain ⟨⟨dx, h1⟩, h2⟩ := h
  exact ⟨⟨dx, e.keep _ _ n1 h1⟩, e.keep _ _ n2 h2⟩
theorem PatAt.ed0 {A : Ad} {H H' : Hp} {p d : Addr} {l : PL} (e : Vc.Ed [] H H') (h : PatAt A H p d l) : PatAt A H' p d l := h.ed e (fun z => nomatch z) (fun z => nomatch z)
theorem PatAt.edx {A : Ad} {H H' : Hp} {p d : Addr} {l : PL} (e : Vc.EdX [] H H') (h : PatAt A H p d l) : PatAt A H' p d l := by
  obtain ⟨⟨dx, h1⟩, h2⟩ := h
  exact ⟨⟨dx, e.at0 h1⟩, e.at0 h2⟩
/-- the pairs of a dict, ascending -/
structure Asc (l l0 : PL) : Prop where
  pw : (l.map (·.1)).Pairwise (· < ·)
  pm : l.Perm l0
theorem asc_nodup {l : List Int} (h : l.Pairwise (· < ·)) : l.Nodup := h.imp fun h => by omega
theorem asc_of_perm {ms : List Int} {l0 : PL} (nd : (l0.map (·.1)).Nodup) (p : ms.Perm (l0.map (·.1))) (s : ms.Pairwise (· ≤ ·)) : ∃ l : PL, Asc l l0 ∧ l.map (·.1) = ms := by
  have nm : ms.Nodup := p.nodup_iff.mpr nd
  have pw : ms.Pairwise (· < ·) := (s.and nm).imp fun ⟨h, n⟩ => by omega
  obtain ⟨l, pl, el⟩ : ∃ l : PL, l.Perm l0 ∧ l.map (·.1) = ms := by
    clear s nm pw
    induction ms generalizing l0 with
    | nil =>
      have : l0 = [] := by
        have := p.length_eq
        rw [List.length_map] at this
        exact List.eq_nil_of_length_eq_zero this.symm
      exact ⟨[], by rw [this], rfl⟩
    | cons m r ih =>
      have hm : m ∈ l0.map (·.1) := p.mem_iff.mp List.mem_cons_self
      obtain ⟨q, hq, rfl⟩ := List.mem_map.mp hm
      have p2 : l0.Perm (q :: l0.erase q) := List.perm_cons_erase hq
      have p3 : (q.1 :: r).Perm (q.1 :: (l0.erase q).map (·.1)) := p.trans (p2.map _)
      obtain ⟨l, h1, h2⟩ := ih (l0 := l0.erase q) ((List.nodup_cons.mp ((p2.map (·.1)).nodup_iff.mp nd)).2) (List.Perm.cons_inv p3)
      exact ⟨q :: l, (h1.cons q).trans p2.symm, by rw [List.map_cons, h2]⟩
  exact ⟨l, ⟨by rw [el]; exact pw, pl⟩, el⟩
structure PtOk (l : PL) : Prop where
  nd : (l.map (·.1)).Nodup
  lo : ∀ q ∈ l, 0 ≤ q.1
  by_ : ∀ q ∈ l, 0 ≤ q.2 ∧ q.2 ≤ 255
  few : l.length < 64
/-- what Patch raises of a dict: the least address below 0, else the least one with no byte -/
inductive PBad (l : PL) : Bool → Int → Prop where
  | addr (a : Int) (h : a ∈ l.map (·.1)) (n : a < 0) (lo : ∀ b ∈ l.map (·.1), a ≤ b) : PBad l true a
  | byte (q : Int × Int) (h : q ∈ l) (p : ∀ b ∈ l.map (·.1), 0 ≤ b) (n : ¬ (0 ≤ q.2 ∧ q.2 ≤ 255)) (lo : ∀ r ∈ l, r.1 < q.1 → 0 ≤ r.2 ∧ r.2 ≤ 255) : PBad l false q.1
def spPatInit (A : Ad) : Sp := fun vs H Q E => ∃ (p dx g : Addr) (l0 : PL), vs = [.ref p, .ref g] ∧ H p = some (.ins A.C_Patch dx []) ∧ H g = some (.dK (kvsP l0)) ∧ (l0.map (·.1)).Nodup ∧ l0.length < 64 ∧
  (∀ b a dd H', PBad l0 b a → Vc.Ed [] H H' → H' dd = some (.xd [("at", .int a)]) → E (.ref (if b = true then A.C_BadAddress else A.C_BadByte)) (some dd) H') ∧
  (PtOk l0 → ∀ d l H', Vc.Ed [p] H H' → H d = none → PatAt A H' p d l → Asc l l0 → Q .non H')
section
variable {w : World} {K : PySem.W.Frag} {mg : Str → Option Value} {base : Heap} {A : Ad}
theorem ok_Patchu_initu (T : Txt K mg A) : FnOk PG w K mg base (CX PG w) 4 A.f_Patchu_initu A.d_Patchu_initu ["self", "pairs"] (spPatInit A) := by
  have G_is_byte := ok_is_byte (P := PG) (w := w) (base := base) T
  have G_BadAddressu_initu := ok_BadAddressu_initu (w := w) (base := base) T
  have G_BadByteu_initu := ok_BadByteu_initu (w := w) (base := base) T
  refine T.F_Patchu_initu.okX sc_Patchu_initu (fun vs H Q E h => ?_) (fun cdv Ar outer s H vs Q E hr h => ?_)
  · obtain ⟨p, dx, g, l0, rfl, _⟩ := h
    rfl
  · obtain ⟨p, dx, g, l0, rfl, hp, hg, nd, few, kE, kQ⟩ := h
    have hu := hu_of hr
    have cl := T.cl_Patch
    have no1 := T.no_Patch_pairs
    refine ⟨_, (pss_cons (ps_set (i := 2) sc_Patchu_initu.nd rfl (Or.inl rfl) (pe_callB cr_sorted (by rfl) T.n_sorted (by decide +kernel) (pa_cons (pe_callTy (call_list_dK rfl) (by rfl) T.n_list (by decide +kernel) (pa_cons (pv 1) pa_nil)) pa_nil))) (pss_cons (ps_for (passes_of rfl) rfl (pi_list (pv 2)) (pg_name (i := 3) sc_Patchu_initu.nd rfl (Or.inl rfl)) (pss_one (ps_if (pt_cmpR op_lt (pv 3) pe_int (nomark _)) (pss_one (Vc.ps_raiseT rfl (takes_of rfl rfl rfl rfl) (pmk_oex T.ox_BadAddress T.i_BadAddress T.ti_BadAddress G_BadAddressu_initu (by exact hr.mono (by decide)) T.b_BadAddressu_initu .nil pass0 (by rfl) T.g_BadAddress (pa_cons (pv 3) pa_nil)))) pss_nil))) (pss_cons (ps_for (passes_of rfl) rfl (pi_list (pv 2)) (pg_name (i := 3) sc_Patchu_initu.nd rfl (Or.inl rfl)) (pss_one (ps_if (pt_not (pt_val (pe_call G_is_byte (by exact hr.mono (by decide)) (by rfl) T.g_is_byte T.F_is_byte.kp T.b_is_byte .nil pass0 (pa_cons (pe_dget (by exact hu) (pv 1) (pv 3) (fun _ _ => rfl)) pa_nil)))) (pss_one (Vc.ps_raiseT rfl (takes_of rfl rfl rfl rfl) (pmk_oex T.ox_BadByte T.i_BadByte T.ti_BadByte G_BadByteu_initu (by exact hr.mono (by decide)) T.b_BadByteu_initu .nil pass0 (by rfl) T.g_BadByte (pa_cons (pv 3) pa_nil)))) pss_nil))) (pss_one (ps_fld (pv 0) (pe_dc (own := [("at", 3)]) (g := gName 3) rfl sc_Patchu_initu.nd (pi_list (pv 2)) (blkOk_by (own := [("at", 3)]) (N := ["self", "pairs", "order", "at"]) (sc := defScope s_Patchu_initu) (by decide +kernel)) (fun _ _ _ _ _ => by exact (pg_name (i := 3) sc_Patchu_initu.nd rfl (Or.inl rfl))) (fun _ _ _ _ _ => by exact pts_nil) (fun _ _ _ _ _ => by (refine' Vc.blkE ?h ?q; (case h => exact (pv 3)); (case q => first | exact rfl | (dsimp only; done) | (dsimp only; exact rfl)))) (fun _ _ _ _ _ => by (refine' Vc.blkE ?h ?q; (case h => exact (pe_dget (by exact hu) (pv 1) (pv 3) (fun _ _ => rfl))); (case q => first | exact rfl | (dsimp only; done) | (dsimp only; exact rfl))))) rfl))))), ?_⟩
    walk_at "go"
    intro q1 nq1
    generalize hu1 : upd _ q1 _ = H1
    obtain ⟨e1, hq1⟩ := Vc.alloc hu1 nq1
    rw [keys_kvsP] at hq1
    walk_at "go"
    refine Vc.go_sorted (.of hq1) (by rw [List.length_map]; exact few) fun ms o perm srt no => ?_
    generalize hu2 : upd _ o _ = H2
    obtain ⟨e2, ho⟩ := Vc.alloc hu2 no
    obtain ⟨l, asc, el⟩ := asc_of_perm nd perm srt
    have e02 := e1.ex e2
    have inm : ∀ (j : Nat) (x : Int), ms[j]? = some x → ∃ q, l[j]? = some q ∧ q.1 = x ∧ q ∈ l0 := fun j x h => by
      rw [← el, List.getElem?_map] at h
      obtain ⟨q, hq, e⟩ := Option.map_eq_some_iff.mp h
      exact ⟨q, hq, e, asc.pm.mem_iff.mp (List.mem_of_getElem? hq)⟩
    have sorted_lt : ∀ (i j : Nat) (x y : Int), i ≤ j → ms[i]? = some x → ms[j]? = some y → x ≤ y := fun i j x y h hx hy => by
      obtain ⟨h1, h2⟩ := List.getElem?_eq_some_iff.mp hx
      obtain ⟨h3, h4⟩ := List.getElem?_eq_some_iff.mp hy
      rcases Nat.lt_or_eq_of_le h with h | h
      · have := List.pairwise_iff_getElem.mp srt i j h1 h3 h
        rw [h2, h4] at this
        exact this
      · subst h
        rw [hx] at hy
        injection hy with hy
        omega
    walk_at "go"
    refine ⟨⟨_, .of ho⟩, for_list (xs := ms.map V.int) (fun j σ H' => (∃ y : Option V, σ = [some (.ref p), some (.ref g), some (.ref o), y]) ∧ H' = H2 ∧ ∀ (i : Nat) (x : Int), i < j → ms[i]? = some x → 0 ≤ x) ⟨⟨_, rfl⟩, rfl, fun i x h => (by omega)⟩ (fun j σ H' _ ⟨_, e, _⟩ => (by rw [e]; exact .of ho)) ?_ ?_⟩
    · rintro j y σ H3 hj ⟨⟨y3, rfl⟩, rfl, pos⟩
      rw [List.getElem?_map] at hj
      obtain ⟨x, hx, rfl⟩ := Option.map_eq_some_iff.mp hj
      walk_at "go"
      refine Vc.go_ite (fun g1 => ?_) (fun g1 => ?_)
      · walk_at "go"
        intro dd H4 _ e4 hdd
        refine kE true x dd H4 (.addr x (perm.mem_iff.mp (List.mem_of_getElem? hx)) g1 fun b hb => ?_) (e02.ex e4) hdd
        obtain ⟨i, hi⟩ := List.getElem?_of_mem (perm.mem_iff.mpr hb)
        rcases Nat.lt_or_ge i j with h | h
        · have := pos i b h hi
          omega
        · exact sorted_lt j i x b h hx hi
      · walk_at "go"
        refine ⟨⟨_, rfl⟩, rfl, fun i z hi hz => ?_⟩
        by_cases e : i = j
        · subst e
          rw [hx] at hz
          injection hz with hz
          omega
        · exact pos i z (by omega) hz
    rintro σ H3 ⟨⟨y3, rfl⟩, rfl, pos⟩
    have allpos : ∀ b ∈ l0.map (·.1), 0 ≤ b := fun b hb => by
      have : b ∈ ms := perm.mem_iff.mpr hb
      obtain ⟨i, hi⟩ := List.getElem?_of_mem this
      exact pos i b (by rw [List.length_map]; exact (List.getElem?_eq_some_iff.mp hi).1) hi
    walk_at "go"
    refine ⟨⟨_, .of ho⟩, for_list (xs := ms.map V.int) (fun j σ H' => (∃ y : Option V, σ = [some (.ref p), some (.ref g), some (.ref o), y]) ∧ Vc.Ed [] H3 H' ∧ ∀ (i : Nat) (q : Int × Int), i < j → l[i]? = some q → 0 ≤ q.2 ∧ q.2 ≤ 255) ⟨⟨_, rfl⟩, .refl, fun i x h => (by omega)⟩ (fun j σ H' _ ⟨_, e, _⟩ => .of (e.at0 ho)) ?_ ?_⟩
    · rintro j y σ H4 hj ⟨⟨y3, rfl⟩, e4, byt⟩
      rw [List.getElem?_map] at hj
      obtain ⟨x, hx, rfl⟩ := Option.map_eq_some_iff.mp hj
      obtain ⟨q, hq, rfl, hq0⟩ := inm j x hx
      have hg4 := e4.at0 (e02.at0 hg)
      have hv := valP_mem nd hq0
      walk_at "go"
      refine ⟨q.2, rfl, fun H5 e5 => ?_⟩
      walk_at "go"
      refine Vc.go_iten (fun g1 => ?_) (fun g1 => ?_)
      · walk_at "go"
        intro dd H6 _ e6 hdd
        refine kE false q.1 dd H6 (.byte q hq0 allpos g1 fun r hr hlt => ?_) ((e02.ex e4).ex (e5.ex e6)) hdd
        obtain ⟨i, hi⟩ := List.getElem?_of_mem (asc.pm.mem_iff.mpr hr)
        have hmi : ms[i]? = some r.1 := by rw [← el, List.getElem?_map, hi]; rfl
        rcases Nat.lt_or_ge i j with h | h
        · exact byt i r h hi
        · have := sorted_lt j i q.1 r.1 h hx hmi
          omega
      · walk_at "go"
        refine ⟨⟨_, rfl⟩, e4.ex e5, fun i r hi hr => ?_⟩
        by_cases e : i = j
        · subst e
          rw [hq] at hr
          injection hr with hr
          rw [← hr]; exact g1
        · exact byt i r (by omega) hr
    rintro σ H4 ⟨⟨y3, rfl⟩, e4, byt⟩
    have ok : PtOk l0 := ⟨nd, fun q hq => allpos _ (List.mem_map.mpr ⟨q, hq, rfl⟩), fun q hq => by
      obtain ⟨i, hi⟩ := List.getElem?_of_mem (asc.pm.mem_iff.mpr hq)
      have hil := (List.getElem?_eq_some_iff.mp hi).1
      refine byt i q ?_ hi
      rw [List.length_map, ← el, List.length_map]; exact hil, few⟩
    have k := kQ ok
    have ho4 := e4.at0 ho
    have hg4 := e4.at0 (e02.at0 hg)
    have hp4 := e4.at0 (e02.at0 hp)
    walk_at "go"
    refine ⟨⟨_, .of ho4⟩, Vc.dc_by (walk_list (xs := ms.map V.int)) (fun t j H' => Vc.Ed [] H4 H' ∧ H' t = some (.dK (kvsP (l.take j)))) (fun t H5 nt e5 ht => ⟨e5, ht⟩) (fun t j H5 _ _ q => .of (q.1.at0 ho4)) ?_ ?_⟩
    · rintro t j y H5 H6 nt hj ⟨e5, ht⟩ ⟨rfl, hy⟩
      rw [List.getElem?_map] at hy
      obtain ⟨x, hx, rfl⟩ := Option.map_eq_some_iff.mp hy
      obtain ⟨q, hq, rfl, hq0⟩ := inm j x hx
      have hg5 := e5.at0 hg4
      have hv := valP_mem ok.nd hq0
      walk_at "go"
      refine ⟨rfl, ?_⟩
      walk_at "go"
      refine ⟨_, .inl q.1, rfl, ht, small1000 (by rw [kvsP_len, List.length_take, asc.pm.length_eq]; omega), ?_⟩
      generalize hu7 : upd _ t _ = H7
      obtain ⟨e7, ht7⟩ := Vc.chg hu7 ht
      have fresh : q.1 ∉ (l.take j).map (·.1) := fun z => by
        rw [List.map_take, el] at z
        obtain ⟨m, hm, e⟩ := List.mem_take_iff_getElem.mp z
        have h1 : ms[m]? = some q.1 := by rw [List.getElem?_eq_getElem (by omega), e]
        have := (List.getElem?_inj (by omega) (perm.nodup_iff.mpr ok.nd)).mp (h1.trans hx.symm)
        omega
      rw [putP fresh] at ht7
      refine ⟨e5.one e7 (.inr nt), ?_⟩
      rw [ht7, List.take_add_one, hq]; rfl
    · rintro t H5 nt ⟨e5, ht⟩
      rw [List.length_map, show ms.length = l.length by rw [← el, List.length_map], List.take_length] at ht
      have hp5 := e5.at0 hp4
      walk_at "go"
      generalize hu6 : upd _ p _ = H6
      obtain ⟨e6, hp6⟩ := Vc.chg hu6 hp5
      have e05 := (e02.ex e4).ex e5
      have nt0 : H t = none := (e02.ex e4).dom _ nt
      exact k t l H6 ((e05.mono fun _ z => nomatch z).one e6 (.inl (by simp))) nt0 ⟨⟨dx, hp6⟩, e6.at1 (ne_of_none hp nt0).symm ht⟩ asc
end

end My
namespace My
open PySem PySem.Spec PyProof.Rows L2
/-! ### rows with the bytes of a patch -/
/-- the bytes with those of a patch -/
def byteP (l : PL) (i : Int) (b : Int) : Int := ((l.find? fun q => decide (q.1 = i)).map (·.2)).getD b
def laterP (l : PL) (vals : List Int) : List Int := (List.range vals.length).map fun i : Nat => byteP l (i : Int) (vals.getD i 0)
theorem valP_find (l : PL) (a : Int) : valV (kvsP l) (.inl a) = (l.find? fun q => decide (q.1 = a)).map fun q => V.int q.2 := by
  induction l with
  | nil => rfl
  | cons x r ih =>
    unfold valV kvsP at ih ⊢
    rw [List.map_cons, List.find?_cons, List.find?_cons]
    by_cases e : x.1 = a
    · rw [decide_eq_true e, show decide ((Sum.inl x.1 : Key) = Sum.inl a) = true from decide_eq_true (by rw [e])]
      rfl
    · rw [decide_eq_false e, show decide ((Sum.inl x.1 : Key) = Sum.inl a) = false from decide_eq_false fun z => e (Sum.inl.inj z)]
      exact ih
theorem getP (l : PL) (a n : Int) : (valV (kvsP l) (.inl a)).getD (.int n) = .int (byteP l a n) := by
  rw [valP_find]
  unfold byteP
  cases l.find? fun q => decide (q.1 = a) <;> rfl
theorem laterP_len (l : PL) (vals : List Int) : (laterP l vals).length = vals.length := by unfold laterP; rw [List.length_map, List.length_range]
theorem laterP_get {l : PL} {vals : List Int} {j : Nat} {n : Int} (h : vals[j]? = some n) : (laterP l vals)[j]? = some (byteP l j n) := by
  have lt := (List.getElem?_eq_some_iff.mp h).1
  unfold laterP
  rw [List.getElem?_map, List.getElem?_range lt]
  show some (byteP l j (vals.getD j 0)) = _
  rw [List.getD_eq_getElem?_getD, h]; rfl
theorem at_nat {xs : List Int} {j : Nat} (h : j < xs.length) : atI (xs.map V.int) (j : Int) = some (.int (xs.getD j 0)) :=
  at_of (z := (j : Int)) (j := j) (by omega) (by rw [List.getElem?_map, List.getElem?_eq_getElem h, List.getD_eq_getElem?_getD, List.getElem?_eq_getElem h]; rfl)
theorem findP_mem {l : PL} {q : Int × Int} (nd : (l.map (·.1)).Nodup) (hm : q ∈ l) : (l.find? fun x => decide (x.1 = q.1)) = some q := by
  induction l with
  | nil => cases hm
  | cons x r ih =>
    rw [List.map_cons, List.nodup_cons] at nd
    rw [List.find?_cons]
    by_cases e : x.1 = q.1
    · have : x = q := by
        rcases List.mem_cons.mp hm with h | h
        · exact h.symm
        · exact (nd.1 (e ▸ List.mem_map.mpr ⟨q, h, rfl⟩)).elim
      subst this
      rw [decide_eq_true rfl]
    · rw [decide_eq_false e]
      exact ih nd.2 ((List.mem_cons.mp hm).resolve_left fun z => e (by rw [z]))
theorem findP_none {l : PL} {a : Int} (h : a ∉ l.map (·.1)) : (l.find? fun x => decide (x.1 = a)) = none := by
  rw [List.find?_eq_none]
  intro x hx z
  exact h (List.mem_map.mpr ⟨x, hx, of_decide_eq_true z⟩)
theorem byteP_perm {l ls : PL} (nd : (l.map (·.1)).Nodup) (p : ls.Perm l) (i b : Int) : byteP ls i b = byteP l i b := by
  unfold byteP
  have nd' : (ls.map (·.1)).Nodup := (p.map (·.1)).nodup_iff.mpr nd
  by_cases h : i ∈ l.map (·.1)
  · obtain ⟨q, hq, rfl⟩ := List.mem_map.mp h
    rw [findP_mem nd hq, findP_mem nd' (p.mem_iff.mpr hq)]
  · rw [findP_none h, findP_none fun z => h ((p.map (·.1)).mem_iff.mp z)]
theorem laterP_perm {l ls : PL} (nd : (l.map (·.1)).Nodup) (p : ls.Perm l) (vals : List Int) : laterP ls vals = laterP l vals := by
  unfold laterP
  exact List.map_congr_left fun i _ => byteP_perm nd p _ _
theorem laterP_by {l : PL} {vals : List Int} (h1 : ∀ q ∈ l, 0 ≤ q.2 ∧ q.2 ≤ 255) (h2 : ∀ v ∈ vals, 0 ≤ v ∧ v ≤ 255) : ∀ v ∈ laterP l vals, 0 ≤ v ∧ v ≤ 255 := by
  intro v hv
  obtain ⟨j, hj⟩ := List.getElem?_of_mem hv
  have jl := (List.getElem?_eq_some_iff.mp hj).1
  rw [laterP_len] at jl
  have hn : vals[j]? = some (vals[j]'jl) := List.getElem?_eq_getElem jl
  rw [laterP_get hn] at hj
  obtain rfl := Option.some.inj hj
  unfold byteP
  cases e : l.find? fun q => decide (q.1 = (j : Int)) with
  | none => exact h2 _ (List.getElem_mem jl)
  | some q => exact h1 q (List.mem_of_find?_eq_some e)

end My
namespace My
open PySem PySem.Spec PyProof.Rows L2
/-! ### pairs put into pairs -/
def putPL (l : PL) (a b : Int) : PL := if a ∈ l.map (·.1) then l.map (fun q => if q.1 = a then (q.1, b) else q) else l ++ [(a, b)]
theorem kvsP_put (l : PL) (a b : Int) : putK (kvsP l) (.inl a) (.int b) = kvsP (putPL l a b) := by
  unfold putPL
  by_cases h : a ∈ l.map (·.1)
  · rw [if_pos h]
    obtain ⟨q, hq, rfl⟩ := List.mem_map.mp h
    unfold putK
    rw [if_pos (show (kvsP l).any (fun kv => decide (kv.1 = Sum.inl q.1)) = true from List.any_eq_true.mpr ⟨((Sum.inl q.1 : Key), V.int q.2), List.mem_map.mpr ⟨q, hq, rfl⟩, decide_eq_true rfl⟩)]
    unfold kvsP
    rw [List.map_map, List.map_map]
    refine List.map_congr_left fun x _ => ?_
    show (if (Sum.inl x.1 : Key) = Sum.inl q.1 then ((Sum.inl x.1 : Key), V.int b) else (Sum.inl x.1, V.int x.2)) = (Sum.inl (if x.1 = q.1 then (x.1, b) else x).1, V.int (if x.1 = q.1 then (x.1, b) else x).2)
    by_cases e : x.1 = q.1
    · rw [if_pos e, if_pos (congrArg Sum.inl e)]
    · rw [if_neg e, if_neg (fun z => e (Sum.inl.inj z))]
  · rw [if_neg h]
    exact putP h
theorem putPL_keys (l : PL) (a b : Int) : (putPL l a b).map (·.1) = if a ∈ l.map (·.1) then l.map (·.1) else l.map (·.1) ++ [a] := by
  unfold putPL
  by_cases h : a ∈ l.map (·.1)
  · rw [if_pos h, if_pos h, List.map_map]
    exact List.map_congr_left fun q _ => by show (if q.1 = a then (q.1, b) else q).1 = q.1; split <;> rfl
  · rw [if_neg h, if_neg h, List.map_append]; rfl
theorem putPL_nd {l : PL} (h : (l.map (·.1)).Nodup) (a b : Int) : ((putPL l a b).map (·.1)).Nodup := by
  rw [putPL_keys]
  split
  · exact h
  · rename_i n
    rw [List.nodup_append]
    exact ⟨h, List.nodup_cons.mpr ⟨List.not_mem_nil, .nil⟩, fun x hx y hy e => n (by have : y = a := List.mem_singleton.mp hy; rw [← this, ← e]; exact hx)⟩
theorem putPL_mem {l : PL} {a b : Int} {q : Int × Int} (h : q ∈ putPL l a b) : q = (a, b) ∨ q ∈ l := by
  unfold putPL at h
  split at h
  · obtain ⟨x, hx, rfl⟩ := List.mem_map.mp h
    by_cases e : x.1 = a
    · rw [if_pos e, e]; exact .inl rfl
    · rw [if_neg e]; exact .inr hx
  · rcases List.mem_append.mp h with h | h
    · exact .inr h
    · exact .inl (List.mem_singleton.mp h)
theorem putPL_len (l : PL) (a b : Int) : (putPL l a b).length ≤ l.length + 1 := by
  unfold putPL
  split
  · rw [List.length_map]; exact Nat.le_succ _
  · rw [List.length_append]; exact Nat.le_refl _
def joinP (l m : PL) : PL := m.foldl (fun acc q => putPL acc q.1 q.2) l
theorem merge_kvs (m : PL) : ∀ l : PL, mergeK (kvsP l) (kvsP m) = kvsP (joinP l m) := by
  induction m with
  | nil => intro l; rfl
  | cons q m ih =>
    intro l
    show mergeK (putK (kvsP l) (.inl q.1) (.int q.2)) (kvsP m) = kvsP (joinP (putPL l q.1 q.2) m)
    rw [kvsP_put, ih]
theorem joinP_nd (m : PL) : ∀ {l : PL}, (l.map (·.1)).Nodup → ((joinP l m).map (·.1)).Nodup := by
  induction m with
  | nil => exact fun h => h
  | cons q m ih => exact fun h => ih (putPL_nd h q.1 q.2)
theorem joinP_mem (m : PL) : ∀ {l : PL} {q : Int × Int}, q ∈ joinP l m → q ∈ l ∨ q ∈ m := by
  induction m with
  | nil => exact fun h => .inl h
  | cons x m ih =>
    intro l q h
    rcases ih h with h | h
    · rcases putPL_mem h with h | h
      · exact .inr (by rw [h]; exact List.mem_cons_self)
      · exact .inl h
    · exact .inr (List.mem_cons_of_mem _ h)
theorem joinP_len (m : PL) : ∀ l : PL, (joinP l m).length ≤ l.length + m.length := by
  induction m with
  | nil => exact fun l => Nat.le_refl _
  | cons q m ih =>
    intro l
    have h1 := ih (putPL l q.1 q.2)
    have h2 := putPL_len l q.1 q.2
    show (joinP (putPL l q.1 q.2) m).length ≤ l.length + (m.length + 1)
    omega
theorem joinP_fresh (m : PL) : ∀ {l : PL}, ((l ++ m).map (·.1)).Nodup → joinP l m = l ++ m := by
  induction m with
  | nil => intro l _; rw [List.append_nil]; rfl
  | cons q m ih =>
    intro l h
    have n : q.1 ∉ l.map (·.1) := fun z => by
      rw [List.map_append, List.nodup_append] at h
      exact h.2.2 _ z _ (List.mem_map.mpr ⟨q, List.mem_cons_self, rfl⟩) rfl
    have e : putPL l q.1 q.2 = l ++ [q] := by unfold putPL; rw [if_neg n]
    show joinP (putPL l q.1 q.2) m = l ++ q :: m
    rw [e, ih (by rw [List.append_assoc]; exact h), List.append_assoc]; rfl
theorem merge_self {l : PL} (h : (l.map (·.1)).Nodup) : mergeK [] (kvsP l) = kvsP l := by
  have := merge_kvs l []
  rw [joinP_fresh l (by rw [List.nil_append]; exact h)] at this
  exact this
theorem joinP_ok {l m : PL} (h1 : PtOk l) (h2 : PtOk m) (few : l.length + m.length < 64) : PtOk (joinP l m) where
  nd := joinP_nd m h1.nd
  lo := fun q hq => (joinP_mem m hq).elim (h1.lo q) (h2.lo q)
  by_ := fun q hq => (joinP_mem m hq).elim (h1.by_ q) (h2.by_ q)
  few := Nat.lt_of_le_of_lt (joinP_len m l) few

end My
namespace My
open PySem PySem.Spec PyProof.Rows L2
/-! ### patches joined: which pairs there are, what rows become -/
theorem putPL_iff {l : PL} {a b : Int} {q : Int × Int} : q ∈ putPL l a b ↔ q = (a, b) ∨ (q ∈ l ∧ q.1 ≠ a) := by
  unfold putPL
  by_cases h : a ∈ l.map (·.1)
  · rw [if_pos h]
    constructor
    · intro hq
      obtain ⟨x, hx, rfl⟩ := List.mem_map.mp hq
      by_cases e : x.1 = a
      · rw [if_pos e, e]; exact .inl rfl
      · rw [if_neg e]; exact .inr ⟨hx, e⟩
    · rintro (rfl | ⟨hq, n⟩)
      · obtain ⟨x, hx, e⟩ := List.mem_map.mp h
        have e : x.1 = a := e
        exact List.mem_map.mpr ⟨x, hx, by rw [if_pos e, e]⟩
      · exact List.mem_map.mpr ⟨q, hq, if_neg n⟩
  · rw [if_neg h, List.mem_append, List.mem_singleton]
    constructor
    · rintro (hq | rfl)
      · exact .inr ⟨hq, fun z => h (z ▸ List.mem_map.mpr ⟨q, hq, rfl⟩)⟩
      · exact .inl rfl
    · rintro (rfl | ⟨hq, _⟩)
      · exact .inr rfl
      · exact .inl hq
theorem joinP_iff (m : PL) : ∀ {l : PL} {q : Int × Int}, (m.map (·.1)).Nodup → (q ∈ joinP l m ↔ q ∈ m ∨ (q ∈ l ∧ q.1 ∉ m.map (·.1))) := by
  induction m with
  | nil => intro l q _; exact ⟨fun h => .inr ⟨h, fun z => nomatch z⟩, fun h => h.elim (fun z => nomatch z) fun h => h.1⟩
  | cons x m ih =>
    intro l q nd
    rw [List.map_cons, List.nodup_cons] at nd
    show q ∈ joinP (putPL l x.1 x.2) m ↔ _
    rw [ih nd.2, putPL_iff, List.map_cons, List.mem_cons, List.mem_cons]
    constructor
    · rintro (h | ⟨h | ⟨h, n⟩, k⟩)
      · exact .inl (.inr h)
      · exact .inl (.inl h)
      · exact .inr ⟨h, fun z => z.elim n k⟩
    · rintro ((h | h) | ⟨h, n⟩)
      · exact .inr ⟨.inl h, by rw [h]; exact nd.1⟩
      · exact .inl h
      · exact .inr ⟨.inr ⟨h, fun z => n (.inl z)⟩, fun z => n (.inr z)⟩
theorem nd_of_keys {l : PL} (h : (l.map (·.1)).Nodup) : l.Nodup := by
  induction l with
  | nil => exact .nil
  | cons x r ih =>
    rw [List.map_cons, List.nodup_cons] at h
    exact List.nodup_cons.mpr ⟨fun z => h.1 (List.mem_map.mpr ⟨x, z, rfl⟩), ih h.2⟩
theorem nd_perm {l m : PL} (h1 : (l.map (·.1)).Nodup) (h2 : (m.map (·.1)).Nodup) (h : ∀ q, q ∈ l ↔ q ∈ m) : l.Perm m := (List.perm_ext_iff_of_nodup (nd_of_keys h1) (nd_of_keys h2)).mpr h
theorem joinP_perm {l l' m m' : PL} (h1 : (l.map (·.1)).Nodup) (h2 : (m.map (·.1)).Nodup) (p1 : l'.Perm l) (p2 : m'.Perm m) : (joinP l' m').Perm (joinP l m) := by
  have k1 := (p1.map (·.1)).nodup_iff.mpr h1
  have k2 := (p2.map (·.1)).nodup_iff.mpr h2
  refine nd_perm (joinP_nd m' k1) (joinP_nd m h1) fun q => ?_
  rw [joinP_iff m' k2, joinP_iff m h2, p1.mem_iff, p2.mem_iff, (p2.map (·.1)).mem_iff]
theorem joinP_asc {l l' m m' n : PL} (h1 : (l.map (·.1)).Nodup) (h2 : (m.map (·.1)).Nodup) (a1 : Asc l' l) (a2 : Asc m' m) (a : Asc n (joinP l' m')) : Asc n (joinP l m) := ⟨a.pw, a.pm.trans (joinP_perm h1 h2 a1.pm a2.pm)⟩
theorem joinP_assoc {l m n : PL} (h1 : (l.map (·.1)).Nodup) (h2 : (m.map (·.1)).Nodup) (h3 : (n.map (·.1)).Nodup) : (joinP (joinP l m) n).Perm (joinP l (joinP m n)) := by
  refine nd_perm (joinP_nd n (joinP_nd m h1)) (joinP_nd _ h1) fun q => ?_
  have kmn : q.1 ∈ (joinP m n).map (·.1) ↔ q.1 ∈ n.map (·.1) ∨ q.1 ∈ m.map (·.1) := by
    constructor
    · intro z
      obtain ⟨x, hx, e⟩ := List.mem_map.mp z
      have e : x.1 = q.1 := e
      rcases (joinP_iff n h3).mp hx with h | ⟨h, _⟩
      · exact .inl (e ▸ List.mem_map.mpr ⟨x, h, rfl⟩)
      · exact .inr (e ▸ List.mem_map.mpr ⟨x, h, rfl⟩)
    · rintro (z | z)
      · obtain ⟨x, hx, e⟩ := List.mem_map.mp z
        exact List.mem_map.mpr ⟨x, (joinP_iff n h3).mpr (.inl hx), e⟩
      · by_cases c : q.1 ∈ n.map (·.1)
        · obtain ⟨x, hx, e⟩ := List.mem_map.mp c
          exact List.mem_map.mpr ⟨x, (joinP_iff n h3).mpr (.inl hx), e⟩
        · obtain ⟨x, hx, e⟩ := List.mem_map.mp z
          have e : x.1 = q.1 := e
          exact List.mem_map.mpr ⟨x, (joinP_iff n h3).mpr (.inr ⟨hx, by rw [e]; exact c⟩), e⟩
  rw [joinP_iff n h3, joinP_iff m h2, joinP_iff _ (joinP_nd n h2), joinP_iff n h3, kmn]
  constructor
  · rintro (h | ⟨h | ⟨h, k⟩, n'⟩)
    · exact .inl (.inl h)
    · exact .inl (.inr ⟨h, n'⟩)
    · exact .inr ⟨h, fun z => z.elim n' k⟩
  · rintro ((h | ⟨h, k⟩) | ⟨h, k⟩)
    · exact .inl h
    · exact .inr ⟨.inl h, k⟩
    · exact .inr ⟨.inr ⟨h, fun z => k (.inr z)⟩, fun z => k (.inl z)⟩
theorem joinP_same {l : PL} (h : (l.map (·.1)).Nodup) : (joinP l l).Perm l := by
  refine nd_perm (joinP_nd l h) h fun q => ?_
  rw [joinP_iff l h]
  exact ⟨fun z => z.elim id fun z => z.1, .inl⟩
theorem byteP_mem {l : PL} {q : Int × Int} (nd : (l.map (·.1)).Nodup) (h : q ∈ l) (b : Int) : byteP l q.1 b = q.2 := by unfold byteP; rw [findP_mem nd h]; rfl
theorem byteP_none {l : PL} {i : Int} (h : i ∉ l.map (·.1)) (b : Int) : byteP l i b = b := by unfold byteP; rw [findP_none h]; rfl
theorem byteP_join {l m : PL} (h1 : (l.map (·.1)).Nodup) (h2 : (m.map (·.1)).Nodup) (i b : Int) : byteP (joinP l m) i b = byteP m i (byteP l i b) := by
  have nj := joinP_nd m h1
  by_cases c : i ∈ m.map (·.1)
  · obtain ⟨q, hq, rfl⟩ := List.mem_map.mp c
    rw [byteP_mem nj ((joinP_iff m h2).mpr (.inl hq)), byteP_mem h2 hq]
  · rw [byteP_none c]
    by_cases d : i ∈ l.map (·.1)
    · obtain ⟨q, hq, rfl⟩ := List.mem_map.mp d
      rw [byteP_mem nj ((joinP_iff m h2).mpr (.inr ⟨hq, c⟩)), byteP_mem h1 hq]
    · rw [byteP_none d, byteP_none fun z => ?_]
      obtain ⟨x, hx, e⟩ := List.mem_map.mp z
      have e : x.1 = i := e
      rcases (joinP_iff m h2).mp hx with h | ⟨h, _⟩
      · exact c (e ▸ List.mem_map.mpr ⟨x, h, rfl⟩)
      · exact d (e ▸ List.mem_map.mpr ⟨x, h, rfl⟩)
theorem laterP_join {l m : PL} (h1 : (l.map (·.1)).Nodup) (h2 : (m.map (·.1)).Nodup) (vals : List Int) : laterP (joinP l m) vals = laterP m (laterP l vals) := by
  refine List.ext_getElem? fun j => ?_
  by_cases h : j < vals.length
  · have h1' : vals[j]? = some (vals.getD j 0) := by rw [List.getD_eq_getElem?_getD, List.getElem?_eq_getElem h]; rfl
    rw [laterP_get h1', laterP_get (laterP_get h1'), byteP_join h1 h2]
  · rw [List.getElem?_eq_none (by rw [laterP_len]; omega), List.getElem?_eq_none (by rw [laterP_len, laterP_len]; omega)]
/-- a patch with the present bytes -/
def undP (l : PL) (vals : List Int) : PL := l.map fun q => (q.1, vals.getD q.1.toNat 0)
theorem undP_keys (l : PL) (vals : List Int) : (undP l vals).map (·.1) = l.map (·.1) := by unfold undP; rw [List.map_map]; rfl
theorem undP_len (l : PL) (vals : List Int) : (undP l vals).length = l.length := List.length_map _
theorem undP_ok {l : PL} {vals : List Int} (ok : PtOk l) (h : ∀ a ∈ l.map (·.1), a < (vals.length : Int)) (by_ : ∀ v ∈ vals, 0 ≤ v ∧ v ≤ 255) : PtOk (undP l vals) where
  nd := by rw [undP_keys]; exact ok.nd
  lo := fun q hq => by
    obtain ⟨x, hx, rfl⟩ := List.mem_map.mp hq
    exact ok.lo x hx
  by_ := fun q hq => by
    obtain ⟨x, hx, rfl⟩ := List.mem_map.mp hq
    have h1 := ok.lo x hx
    have h2 := h x.1 (List.mem_map.mpr ⟨x, hx, rfl⟩)
    refine by_ _ ?_
    show vals.getD x.1.toNat 0 ∈ vals
    rw [List.getD_eq_getElem?_getD, List.getElem?_eq_getElem (by omega)]
    exact List.getElem_mem _
  few := by rw [undP_len]; exact ok.few
theorem undP_back {l : PL} {vals : List Int} (ok : PtOk l) : laterP (undP l vals) (laterP l vals) = vals := by
  refine List.ext_getElem? fun j => ?_
  by_cases h : j < vals.length
  · have h1 : vals[j]? = some (vals.getD j 0) := by rw [List.getD_eq_getElem?_getD, List.getElem?_eq_getElem h]; rfl
    rw [laterP_get (laterP_get h1), h1]
    by_cases c : (j : Int) ∈ l.map (·.1)
    · obtain ⟨q, hq, e⟩ := List.mem_map.mp c
      have e : q.1 = (j : Int) := e
      have hm : (q.1, vals.getD q.1.toNat 0) ∈ undP l vals := List.mem_map.mpr ⟨q, hq, rfl⟩
      have := byteP_mem (by rw [undP_keys]; exact ok.nd) hm (byteP l (j : Int) (vals.getD j 0))
      rw [← e] at this ⊢
      rw [this, show q.1.toNat = j by omega]
    · rw [byteP_none (by rw [undP_keys]; exact c), byteP_none c]
  · rw [List.getElem?_eq_none (by rw [laterP_len, laterP_len]; omega), List.getElem?_eq_none (by omega)]
theorem undP_und {l : PL} {vals : List Int} (ok : PtOk l) (h : ∀ a ∈ l.map (·.1), a < (vals.length : Int)) : undP (undP l vals) (laterP l vals) = l := by
  unfold undP
  rw [List.map_map]
  refine (List.map_congr_left fun q hq => ?_).trans (List.map_id l)
  have h1 := ok.lo q hq
  have h2 := h q.1 (List.mem_map.mpr ⟨q, hq, rfl⟩)
  have h3 : vals[q.1.toNat]? = some (vals.getD q.1.toNat 0) := by rw [List.getD_eq_getElem?_getD, List.getElem?_eq_getElem (by omega)]; rfl
  have h4 := laterP_get (l := l) h3
  rw [show ((q.1.toNat : Nat) : Int) = q.1 by omega, byteP_mem ok.nd hq] at h4
  show (q.1, (laterP l vals).getD q.1.toNat 0) = q
  rw [List.getD_eq_getElem?_getD, h4]; rfl
theorem asc_eq {l1 l2 l : PL} (a : Asc l1 l) (b : Asc l2 l) : l1 = l2 := by
  have f : ∀ l : PL, (l.map (·.1)).Pairwise (· < ·) → l.Pairwise fun x y : Int × Int => x.1 < y.1 := fun l h => List.pairwise_map.mp h
  exact (a.pm.trans b.pm.symm).eq_of_pairwise (le := fun x y => x.1 < y.1) (fun x y _ _ h1 h2 => by omega) (f _ a.pw) (f _ b.pw)
theorem asc_self {l l0 : PL} (a : Asc l l0) (p : (l0.map (·.1)).Pairwise (· < ·)) : l = l0 := asc_eq a ⟨p, .refl _⟩
theorem Asc.ok {l l0 : PL} (a : Asc l l0) (h : PtOk l0) : PtOk l := ⟨asc_nodup a.pw, fun q hq => h.lo q (a.pm.mem_iff.mp hq), fun q hq => h.by_ q (a.pm.mem_iff.mp hq), by rw [a.pm.length_eq]; exact h.few⟩
theorem Asc.keys {l l0 : PL} (a : Asc l l0) {x : Int} : x ∈ l.map (·.1) ↔ x ∈ l0.map (·.1) := (a.pm.map (·.1)).mem_iff

end My
namespace My
open PySem PySem.Spec PyProof.Rows L2
/-! ### patches asked and compared, with any value -/
theorem valP_is (l : PL) (a : Int) : (valV (kvsP l) (.inl a)).isSome = decide (a ∈ l.map (·.1)) := by
  by_cases h : a ∈ l.map (·.1)
  · rw [decide_eq_true h, valP_find, Option.isSome_map, List.find?_isSome]
    obtain ⟨q, hq, e⟩ := List.mem_map.mp h
    exact ⟨q, hq, decide_eq_true e⟩
  · rw [decide_eq_false h, valP_none h]; rfl
/-- a value that is no int (a bool counts as none) -/
def NotInt (K : PySem.W.Frag) (H : Hp) (v : V) : Prop := (∃ b, v = .bl b) ∨ ∃ n, TyX K H v (.type n) ∧ kitB n "int" = some false
def spPatLen (A : Ad) : Sp := fun vs H Q _ => ∃ (p d : Addr) (l : PL), vs = [.ref p] ∧ PatAt A H p d l ∧ Q (.int (l.length : Int)) H
def spPatAddr (A : Ad) : Sp := fun vs H Q _ => ∃ (p d : Addr) (l : PL), vs = [.ref p] ∧ PatAt A H p d l ∧ ∀ L H', Vc.Ed [] H H' → H L = none → H' L = some (.lst ((l.map (·.1)).map V.int)) → Q (.ref L) H'
def spPatGet (A : Ad) : Sp := fun vs H Q E => ∃ (p d : Addr) (l : PL) (a : Int), vs = [.ref p, .int a] ∧ PatAt A H p d l ∧ (l.map (·.1)).Nodup ∧
  (a ∉ l.map (·.1) → ∀ dd H', Vc.Ed [] H H' → H' dd = some (.xd [("at", .int a)]) → E (.ref A.C_BadAddress) (some dd) H') ∧ (∀ q ∈ l, q.1 = a → Q (.int q.2) H)
def spPatIn (A : Ad) (K : PySem.W.Frag) : Sp := fun vs H Q _ => ∃ (p d : Addr) (l : PL) (v : V), vs = [.ref p, v] ∧ PatAt A H p d l ∧ ((∃ a, v = .int a ∧ Q (.bl (decide (a ∈ l.map (·.1)))) H) ∨ (NotInt K H v ∧ Q (.bl false) H))
def spPatEq (A : Ad) (K : PySem.W.Frag) : Sp := fun vs H Q _ => ∃ (p d : Addr) (l : PL) (v : V), vs = [.ref p, v] ∧ PatAt A H p d l ∧
  ((∃ q e m, v = .ref q ∧ PatAt A H q e m ∧ Q (.bl (Vc.eqI l m)) H) ∨ (∃ t, TyX K H v t ∧ PySem.W.kitOne K t (.ref A.C_Patch) = some false ∧ Q (.bl false) H))
section
variable {P : Program} {w : World} {K : PySem.W.Frag} {mg : Str → Option Value} {base : Heap} {A : Ad}
theorem ok_Patchu_lenu (T : Txt K mg A) : FnOk P w K mg base CX0 1 A.f_Patchu_lenu A.d_Patchu_lenu ["self"] (spPatLen A) := by
  refine T.F_Patchu_lenu.ok sc_Patchu_lenu (fun vs H Q E h => ?_) (fun cdv Ar outer s H vs Q E hr h => ?_)
  · obtain ⟨p, d, l, rfl, _⟩ := h
    rfl
  · obtain ⟨p, d, l, rfl, ⟨⟨dx, hp⟩, hd⟩, k⟩ := h
    have cl := T.cl_Patch
    have no1 := T.no_Patch_pairs
    have l1 := pt_pairs (d := d)
    refine ⟨_, (pss_one (ps_ret (pe_callB call_lenD (by rfl) T.n_len (by decide +kernel) (pa_cons (pe_fld (pv 0) rfl) pa_nil)))), ?_⟩
    walk_at "go"
    rw [kvsP_len]
    exact k
theorem ok_Patch_addresses (T : Txt K mg A) : FnOk P w K mg base CX0 1 A.f_Patch_addresses A.d_Patch_addresses ["self"] (spPatAddr A) := by
  refine T.F_Patch_addresses.ok sc_Patch_addresses (fun vs H Q E h => ?_) (fun cdv Ar outer s H vs Q E hr h => ?_)
  · obtain ⟨p, d, l, rfl, _⟩ := h
    rfl
  · obtain ⟨p, d, l, rfl, ⟨⟨dx, hp⟩, hd⟩, k⟩ := h
    have cl := T.cl_Patch
    have no1 := T.no_Patch_pairs
    have l1 := pt_pairs (d := d)
    refine ⟨_, (pss_one (ps_ret (pe_callTy (call_list_dK rfl) (by rfl) T.n_list (by decide +kernel) (pa_cons (pe_fld (pv 0) rfl) pa_nil)))), ?_⟩
    walk_at "go"
    intro q nq
    generalize hu : upd _ q _ = H1
    obtain ⟨e1, hq⟩ := Vc.alloc hu nq
    rw [keys_kvsP] at hq
    exact k q H1 e1 nq hq
theorem ok_Patchu_containsu (T : Txt K mg A) : FnOk P w K mg base CX0 1 A.f_Patchu_containsu A.d_Patchu_containsu ["self", "address"] (spPatIn A K) := by
  refine T.F_Patchu_containsu.ok sc_Patchu_containsu (fun vs H Q E h => ?_) (fun cdv Ar outer s H vs Q E hr h => ?_)
  · obtain ⟨p, d, l, v, rfl, _⟩ := h
    rfl
  · obtain ⟨p, d, l, v, rfl, ⟨⟨dx, hp⟩, hd⟩, k⟩ := h
    have hu := hu_of hr
    have cl := T.cl_Patch
    have no1 := T.no_Patch_pairs
    have l1 := pt_pairs (d := d)
    refine ⟨_, (pss_one (ps_ret (pe_and (pe_callB call_isi (by rfl) T.n_isinstance (by decide +kernel) (pa_cons (pv 1) (pa_cons (pe_bltn (v := .ty "int") (by rfl) T.n_int (by decide +kernel) rfl) pa_nil))) (pe_and (pe_not (pe_callB call_isi (by rfl) T.n_isinstance (by decide +kernel) (pa_cons (pv 1) (pa_cons (pe_bltn (v := .ty "bool") (by rfl) T.n_bool (by decide +kernel) rfl) pa_nil)))) (pe_one (pe_cmp (pc_din (by exact hu) (pv 1) (pe_fld (pv 0) rfl)) rfl)))))), ?_⟩
    rcases k with ⟨a, rfl, k⟩ | ⟨⟨b, rfl⟩ | ⟨n, ty, kn⟩, k⟩
    · walk_at "go"
      rw [valP_is]
      exact k
    · walk_at "go"
      exact k
    · walk_at "go"
      refine Vc.go_isi ty kn ?_
      walk_at "go"
      exact k
theorem ok_Patchu_equ (T : Txt K mg A) : FnOk P w K mg base CX0 1 A.f_Patchu_equ A.d_Patchu_equ ["self", "other"] (spPatEq A K) := by
  refine T.F_Patchu_equ.ok sc_Patchu_equ (fun vs H Q E h => ?_) (fun cdv Ar outer s H vs Q E hr h => ?_)
  · obtain ⟨p, d, l, v, rfl, _⟩ := h
    rfl
  · obtain ⟨p, d, l, v, rfl, ⟨⟨dx, hp⟩, hd⟩, k⟩ := h
    have hu := hu_of hr
    have cl := T.cl_Patch
    have no1 := T.no_Patch_pairs
    have l1 := pt_pairs (d := d)
    refine ⟨_, (pss_cons (ps_if (pt_not (pt_val (pe_callB call_isi (by rfl) T.n_isinstance (by decide +kernel) (pa_cons (pv 1) (pa_cons (pe_glob (v := .ref A.C_Patch) (by rfl) T.g_Patch rfl) pa_nil))))) (pss_one (ps_ret pe_bl)) pss_nil) (pss_one (ps_ret (pe_cmpR (Vc.op_eqDI (by exact Vc.room66 hr)) (pe_fld (pv 0) rfl) (pe_fld (pv 1) rfl) (nomark _))))), ?_⟩
    rcases k with ⟨q, e, m, rfl, ⟨⟨dy, hq⟩, he⟩, k⟩ | ⟨t, ty, kn, k⟩
    · have l2 := pt_pairs (d := e)
      walk_at "go"
      refine Vc.go_isiC (Vc.ty_ins hq T.ic_Patch) T.ic_Patch.me ?_
      walk_at "go"
      exact ⟨d, e, l, m, rfl, rfl, hd, he, k⟩
    · walk_at "go"
      refine Vc.go_isiC ty kn ?_
      walk_at "go"
      exact k
end
section
variable {w : World} {K : PySem.W.Frag} {mg : Str → Option Value} {base : Heap} {A : Ad}
theorem ok_Patchu_getitemu (T : Txt K mg A) : FnOk PG w K mg base (CX PG w) 3 A.f_Patchu_getitemu A.d_Patchu_getitemu ["self", "address"] (spPatGet A) := by
  have G_BadAddressu_initu := ok_BadAddressu_initu (w := w) (base := base) T
  refine T.F_Patchu_getitemu.okX sc_Patchu_getitemu (fun vs H Q E h => ?_) (fun cdv Ar outer s H vs Q E hr h => ?_)
  · obtain ⟨p, d, l, a, rfl, _⟩ := h
    rfl
  · obtain ⟨p, d, l, a, rfl, ⟨⟨dx, hp⟩, hd⟩, nd, kE, kQ⟩ := h
    have hu := hu_of hr
    have cl := T.cl_Patch
    have no1 := T.no_Patch_pairs
    have l1 := pt_pairs (d := d)
    refine ⟨_, (pss_cons (ps_if (pt_cmp (pc_dnotin (by exact hu) (pv 1) (pe_fld (pv 0) rfl))) (pss_one (Vc.ps_raiseT rfl (takes_of rfl rfl rfl rfl) (pmk_oex T.ox_BadAddress T.i_BadAddress T.ti_BadAddress G_BadAddressu_initu (by exact hr.mono (by decide)) T.b_BadAddressu_initu .nil pass0 (by rfl) T.g_BadAddress (pa_cons (pv 1) pa_nil)))) pss_nil) (pss_one (ps_ret (pe_dget (by exact hu) (pe_fld (pv 0) rfl) (pv 1) (fun _ _ => rfl))))), ?_⟩
    walk_at "go"
    by_cases c : a ∈ l.map (·.1)
    · obtain ⟨q, hq, rfl⟩ := List.mem_map.mp c
      have hv := valP_mem nd hq
      rw [hv]
      walk_at "go"
      exact kQ q hq rfl
    · rw [valP_none c]
      walk_at "go"
      intro dd H1 _ e1 hdd
      exact kE c dd H1 e1 hdd
end

end My
namespace My
open PySem PySem.Spec PyProof.Rows L2
/-! ### rows and patches shown -/
def spCells (A : Ad) (K : PySem.W.Frag) : Sp := fun vs H Q _ => ∃ (h : Addr) (vals : List Int), vs = [.ref h] ∧ Given A K H h vals ∧ vals.length ≤ 24 ∧ ∀ L H', Vc.Ed [] H H' → H' L = some (.lst (vals.map V.int)) → Q (.ref L) H'
/-- pairs as tuples in a list -/
structure PrsAt (H : Hp) (L : Addr) (l : PL) : Prop where
  ex : ∃ ts : List Addr, H L = some (.lst (ts.map V.ref)) ∧ ts.length = l.length ∧ ∀ (j : Nat) (t : Addr) (q : Int × Int), ts[j]? = some t → l[j]? = some q → H t = some (.tup [.int q.1, .int q.2])
def prD (l : PL) : PyData := .list (l.map fun q => .tuple [.int q.1, .int q.2])
theorem prs_all {K : PySem.W.Frag} {H : Hp} : ∀ (ts : List Addr) (l : PL), ts.length = l.length → (∀ (j : Nat) (t : Addr) (q : Int × Int), ts[j]? = some t → l[j]? = some q → H t = some (.tup [.int q.1, .int q.2])) → DpAll K H (ts.map V.ref) (l.map fun q => .tuple [.int q.1, .int q.2])
  | [], [], _, _ => .nil
  | t :: ts, q :: l, e, h => .cons (.tup (.of (h 0 t q rfl rfl)) (.cons (.int _) (.cons (.int _) .nil))) (prs_all ts l (Nat.succ.inj e) fun j t q a b => h (j + 1) t q a b)
theorem PrsAt.dp {K : PySem.W.Frag} {H : Hp} {L : Addr} {l : PL} (h : PrsAt H L l) : Dp K H (.ref L) (prD l) := by
  obtain ⟨ts, h1, h2, h3⟩ := h
  exact .lst (.of h1) (prs_all ts l h2 h3)
theorem PrsAt.ed {S : List Addr} {H H' : Hp} {L : Addr} {l : PL} (h : PrsAt H L l) (e : Vc.Ed S H H') (n : L ∉ S) : PrsAt H' L l := by
  obtain ⟨ts, h1, h2, h3⟩ := h
  exact ⟨ts, e.keep _ _ n h1, h2, fun j t q a b => e.tup _ _ (h3 j t q a b)⟩
theorem prs_snoc {S : List Addr} {H H' : Hp} {L t : Addr} {ts : List Addr} {l : PL} {q : Int × Int} (h2 : ts.length = l.length) (h3 : ∀ (j : Nat) (t : Addr) (q : Int × Int), ts[j]? = some t → l[j]? = some q → H t = some (.tup [.int q.1, .int q.2]))
    (e : Vc.Ed S H H') (hL : H' L = some (.lst ((ts ++ [t]).map V.ref))) (ht : H' t = some (.tup [.int q.1, .int q.2])) : PrsAt H' L (l ++ [q]) := by
  refine ⟨ts ++ [t], hL, by rw [List.length_append, List.length_append, h2]; rfl, fun j u p hu hp => ?_⟩
  by_cases hj : j < ts.length
  · rw [List.getElem?_append_left hj] at hu
    rw [List.getElem?_append_left (by rw [← h2]; exact hj)] at hp
    exact e.tup _ _ (h3 j u p hu hp)
  · have hj : ts.length ≤ j := Nat.le_of_not_lt hj
    rw [List.getElem?_append_right hj] at hu
    rw [List.getElem?_append_right (by rw [← h2]; exact hj), ← h2] at hp
    cases hk : j - ts.length with
    | zero =>
      rw [hk] at hu hp
      obtain rfl := Option.some.inj hu
      obtain rfl := Option.some.inj hp
      exact ht
    | succ k => rw [hk] at hu; cases hu
def spShown (A : Ad) : Sp := fun vs H Q _ => ∃ (p d : Addr) (l : PL), vs = [.ref p] ∧ PatAt A H p d l ∧ (l.map (·.1)).Nodup ∧ l.length < 64 ∧ ∀ L H', Vc.Ed [] H H' → PrsAt H' L l → Q (.ref L) H'
section
variable {P : Program} {w : World} {K : PySem.W.Frag} {mg : Str → Option Value} {base : Heap} {A : Ad}
theorem ok__law_cells (T : Txt K mg A) : FnOk P w K mg base CX0 4 A.f__law_cells A.d__law_cells ["_law_row"] (spCells A K) := by
  have G_Imageu_getitemu := ok_Imageu_getitemu (P := P) (w := w) (base := base) T
  have G_Imageu_lenu := ok_Imageu_lenu (P := P) (w := w) (base := base) T
  refine T.F__law_cells.ok sc__law_cells (fun vs H Q E h => ?_) (fun cdv Ar outer s H vs Q E hr h => ?_)
  · obtain ⟨h, vals, rfl, _⟩ := h
    rfl
  · obtain ⟨h, vals, rfl, G, v24, k⟩ := h
    refine ⟨_, (pss_cons (ps_if (pt_val (pe_callB call_isi (by rfl) T.n_isinstance (by decide +kernel) (pa_cons (pv 0) (pa_cons (pe_glob (v := .ref A.C_Image) (by rfl) T.g_Image rfl) pa_nil)))) (pss_one (ps_ret (Vc.pe_ixO (pv 0) (pe_tup (pa_cons pe_int (pa_cons (pe_callB (Vc.call_lenO G_Imageu_lenu (by exact hr.mono (by decide)) T.sp_Image_Imageu_lenu T.b_Imageu_lenu) (by rfl) T.n_len (by decide +kernel) (pa_cons (pv 0) pa_nil)) pa_nil))) T.sp_Image_Imageu_getitemu T.spf_Imageu_getitemu G_Imageu_getitemu (by exact hr.mono (by decide)) T.b_Imageu_getitemu (Vc.passS0 (E := fun _ => E0))))) pss_nil) (pss_one (ps_ret (pe_callTy Vc.call_lstD (by rfl) T.n_list (by decide +kernel) (pa_cons (pv 0) pa_nil))))), ?_⟩
    rcases G with G | G | ⟨l, G⟩
    · walk_at "go"
      refine Vc.go_isiC (Vc.tyL G) T.kt_list_Image ?_
      walk_at "go"
      intro L nL
      generalize hu : upd _ L _ = H1
      obtain ⟨e1, hL⟩ := Vc.alloc hu nL
      exact k L H1 e1 hL
    · walk_at "go"
      refine Vc.go_isiC (Vc.tyT G) T.kt_tuple_Image ?_
      walk_at "go"
      intro L nL
      generalize hu : upd _ L _ = H1
      obtain ⟨e1, hL⟩ := Vc.alloc hu nL
      exact k L H1 e1 hL
    · obtain ⟨⟨dx, hx⟩, hl⟩ := id G
      walk_at "go"
      refine Vc.go_isiC (Vc.ty_ins hx T.ic_Image) T.ic_Image.me ?_
      walk_at "go"
      refine ⟨h, l, vals, rfl, G, ⟨_, rfl, by omega, Int.lt_of_le_of_lt (b := 24) (by omega) (by decide), ?_⟩⟩
      walk_at "go"
      intro t nt
      generalize hu : upd _ t _ = H1
      obtain ⟨e1, ht⟩ := Vc.alloc hu nt
      have hx1 := e1.at0 hx
      walk_at "go"
      refine ⟨h, l, t, vals, rfl, G.ed0 e1, by omega, ht, fun L H2 e2 nL hL => ?_⟩
      walk_at "go"
      exact k L H2 (e1.ex e2) hL
end
theorem inj_on_nd {l : PL} (nd : (l.map (·.1)).Nodup) {a b : Int × Int} (ha : a ∈ l) (hb : b ∈ l) (e : a.1 = b.1) : a = b := by
  have h1 := valP_mem nd ha
  have h2 := valP_mem nd hb
  rw [e, h2] at h1
  have := V.int.inj (Option.some.inj h1)
  exact Prod.ext e this.symm
section
variable {w : World} {K : PySem.W.Frag} {mg : Str → Option Value} {base : Heap} {A : Ad}
theorem ok__law_shown (T : Txt K mg A) : FnOk PG w K mg base CX0 5 A.f__law_shown A.d__law_shown ["_law_patch"] (spShown A) := by
  have G_Patchu_getitemu := ok_Patchu_getitemu (w := w) (base := base) T
  have G_Patch_addresses := ok_Patch_addresses (P := PG) (w := w) (base := base) T
  refine T.F__law_shown.ok sc__law_shown (fun vs H Q E h => ?_) (fun cdv Ar outer s H vs Q E hr h => ?_)
  · obtain ⟨p, d, l, rfl, _⟩ := h
    rfl
  · obtain ⟨p, d, l, rfl, X, nd, few, k⟩ := h
    obtain ⟨dx, hp⟩ := X.ob
    have cl := T.cl_Patch
    refine ⟨_, (pss_one (ps_ret (pe_lc (own := [("_law_at", 1)]) (g := gName 1) rfl sc__law_shown.nd (pi_list (pe_meth0 (pv 0) T.cl_Patch T.m_Patch_addresses G_Patch_addresses (by exact hr.mono (by decide)) T.b_Patch_addresses .nil pass0)) (blkOk_by (own := [("_law_at", 1)]) (N := ["_law_patch", "_law_at"]) (sc := defScope s__law_shown) (by decide +kernel)) (fun _ _ _ _ _ => by exact (pg_name (i := 1) sc__law_shown.nd rfl (Or.inl rfl))) (fun _ _ _ _ _ => by exact pts_nil) (fun _ _ _ _ _ => by (refine' Vc.blkE ?h ?q; (case h => exact (pe_tup (pa_cons (pv 1) (pa_cons (Vc.pe_ixO (pv 0) (pv 1) T.sp_Patch_Patchu_getitemu T.spf_Patchu_getitemu G_Patchu_getitemu (by exact hr.mono (by decide)) T.b_Patchu_getitemu Vc.passSL) pa_nil)))); (case q => first | exact rfl | (dsimp only; done) | (dsimp only; exact rfl))))))), ?_⟩
    walk_at "go"
    refine ⟨p, d, l, rfl, X, fun B H1 e1 _ hB => ?_⟩
    walk_at "go"
    refine ⟨⟨_, .of hB⟩, Vc.lc_by (walk_list (xs := (l.map (·.1)).map V.int)) (fun D j H' => Vc.Ed [] H1 H' ∧ PrsAt H' D (l.take j)) (fun D H2 nD e2 hD => ⟨e2, [], hD, rfl, fun j t q z => (by simp at z)⟩) (fun D j H' _ _ q => .of (q.1.at0 hB)) ?_ ?_⟩
    · rintro D j y H2 H3 nD hj ⟨e2, PD⟩ ⟨rfl, hy⟩
      rw [List.getElem?_map, List.getElem?_map] at hy
      obtain ⟨x, hx, rfl⟩ := Option.map_eq_some_iff.mp hy
      obtain ⟨q, hq, rfl⟩ := Option.map_eq_some_iff.mp hx
      have X2 := X.ed0 (e1.ex e2)
      have hp2 := (e1.ex e2).at0 hp
      walk_at "go"
      refine ⟨rfl, ?_⟩
      walk_at "go"
      refine ⟨p, d, l, q.1, rfl, X2, nd, fun c => (c (List.mem_map.mpr ⟨q, List.mem_of_getElem? hq, rfl⟩)).elim, fun q' hq' eq' => ?_⟩
      have zq : q = q' := (inj_on_nd nd hq' (List.mem_of_getElem? hq) eq').symm
      subst zq
      walk_at "go"
      intro t nt
      generalize hu4 : upd _ t _ = H4
      obtain ⟨e4, ht⟩ := Vc.alloc hu4 nt
      obtain ⟨ts, p1, p2, p3⟩ := PD
      have nDt := ne_of_none p1 nt
      have p1 := e4.at0 p1
      refine ⟨_, p1, by rw [List.length_map, p2, List.length_take]; exact small1000 (by omega), ?_⟩
      generalize hu5 : upd _ D _ = H5
      obtain ⟨e5, hD5⟩ := Vc.chg hu5 p1
      refine ⟨(e2.ex e4).one e5 (.inr nD), ?_⟩
      have := prs_snoc (q := q) (t := t) p2 p3 ((e4.mono fun _ z => nomatch z).trans e5 fun a z => .inl z) (by rw [hD5, List.map_append]; rfl) (e5.at1 nDt.symm ht)
      rw [List.take_add_one, hq]; exact this
    · rintro D H2 nD ⟨e2, PD⟩
      rw [List.length_map, List.length_map, List.take_length] at PD
      walk_at "go"
      exact k D H2 (e1.ex e2) PD
end
theorem pr_pl (l : PL) : Pl 2 (prD l) := pl_lst fun x hx => by
  obtain ⟨q, _, rfl⟩ := List.mem_map.mp hx
  exact pl_tup fun y hy => by
    rcases List.mem_cons.mp hy with rfl | hy
    · exact pl_int _
    · rw [List.mem_singleton.mp hy]; exact pl_int _
theorem go_nePr {K : PySem.W.Frag} {H : Hp} {Q : VK} {x y : Addr} {l : PL} (hx : PrsAt H x l) (hy : PrsAt H y l) (q : Q (.bl false) H) : rNeD K (.ref x) (.ref y) H Q :=
  go_nePl (p := True) hx.dp hy.dp (pr_pl l) (pr_pl l) (by decide) (by simp) (by rw [decide_eq_true trivial]; exact q)
theorem prD_nil {l : PL} : prD l = PyData.list [] ↔ l = [] := by
  constructor
  · intro h
    cases l with
    | nil => rfl
    | cons a r => unfold prD at h; simp at h
  · intro h
    subst h; rfl
/-- a list of pairs and an empty list -/
theorem go_neNil {K : PySem.W.Frag} {H : Hp} {Q : VK} {x y : Addr} {l : PL} (hx : PrsAt H x l) (hy : H y = some (.lst [])) (q : Q (.bl (!decide (l = []))) H) : rNeD K (.ref x) (.ref y) H Q :=
  go_nePl (n := 2) (d := prD l) (e := .list []) (p := l = []) hx.dp (.lst (.of hy) .nil) (pr_pl l) (pl_lst fun x hx => nomatch hx) (by decide) prD_nil q
theorem go_eqPr {K : PySem.W.Frag} {H : Hp} {Q : VK} {x y : Addr} {l : PL} (hx : PrsAt H x l) (hy : PrsAt H y l) (q : Q (.bl true) H) : rEqD K (.ref x) (.ref y) H Q :=
  go_eqPl (p := True) hx.dp hy.dp (pr_pl l) (pr_pl l) (by decide) (by simp) (by rw [decide_eq_true trivial]; exact q)

end My
namespace My
open PySem PySem.Spec PyProof.Rows L2
/-! ### the patch between two rows -/
def diffP (vs ws : List Int) (n : Nat) : PL := ((List.range n).filter fun i : Nat => decide (ws.getD i 0 ≠ vs.getD i 0)).map fun i : Nat => ((i : Int), ws.getD i 0)
theorem diffP_succ (vs ws : List Int) (n : Nat) : diffP vs ws (n + 1) = diffP vs ws n ++ if ws.getD n 0 ≠ vs.getD n 0 then [((n : Int), ws.getD n 0)] else [] := by
  unfold diffP
  rw [List.range_succ, List.filter_append, List.map_append, List.filter_cons, List.filter_nil]
  by_cases h : ws.getD n 0 ≠ vs.getD n 0
  · rw [if_pos (decide_eq_true h), if_pos h]; rfl
  · rw [if_neg (by rw [decide_eq_true_eq]; exact h), if_neg h]; rfl
theorem diffP_keys {vs ws : List Int} {n : Nat} {a : Int} (h : a ∈ (diffP vs ws n).map (·.1)) : 0 ≤ a ∧ a < n := by
  obtain ⟨q, hq, rfl⟩ := List.mem_map.mp h
  obtain ⟨i, hi, rfl⟩ := List.mem_map.mp hq
  have := List.mem_range.mp (List.mem_filter.mp hi).1
  exact ⟨Int.natCast_nonneg i, by show (i : Int) < n; omega⟩
theorem diffP_pw (vs ws : List Int) : ∀ n : Nat, ((diffP vs ws n).map (·.1)).Pairwise (· < ·)
  | 0 => .nil
  | n + 1 => by
    rw [diffP_succ, List.map_append]
    refine List.pairwise_append.mpr ⟨diffP_pw vs ws n, ?_, fun a ha b hb => ?_⟩
    · split
      · exact List.pairwise_singleton _ _
      · exact .nil
    · have := diffP_keys ha
      split at hb
      · have : b = (n : Int) := List.mem_singleton.mp hb
        omega
      · cases hb
theorem diffP_len (vs ws : List Int) (n : Nat) : (diffP vs ws n).length ≤ n := by
  unfold diffP
  rw [List.length_map]
  exact Nat.le_trans (List.length_filter_le _ _) (by rw [List.length_range]; exact Nat.le_refl _)
theorem getD_mem {ws : List Int} {i : Nat} (h : i < ws.length) : ws.getD i 0 ∈ ws := by
  rw [List.getD_eq_getElem?_getD, List.getElem?_eq_getElem h]
  exact List.getElem_mem h
theorem diffP_ok {vs ws : List Int} (by_ : ∀ b ∈ ws, 0 ≤ b ∧ b ≤ 255) (few : ws.length < 64) : PtOk (diffP vs ws ws.length) where
  nd := asc_nodup (diffP_pw vs ws _)
  lo := fun q hq => (diffP_keys (List.mem_map.mpr ⟨q, hq, rfl⟩)).1
  by_ := fun q hq => by
    obtain ⟨i, hi, rfl⟩ := List.mem_map.mp hq
    exact by_ _ (getD_mem (List.mem_range.mp (List.mem_filter.mp hi).1))
  few := Nat.lt_of_le_of_lt (diffP_len vs ws _) few
theorem diffP_find (vs ws : List Int) (n : Nat) (i : Nat) : ((diffP vs ws n).find? fun q => decide (q.1 = (i : Int))) = if i < n ∧ ws.getD i 0 ≠ vs.getD i 0 then some ((i : Int), ws.getD i 0) else none := by
  induction n with
  | zero => rw [if_neg (fun z => by omega)]; rfl
  | succ n ih =>
    rw [diffP_succ, List.find?_append, ih]
    by_cases c : i < n ∧ ws.getD i 0 ≠ vs.getD i 0
    · rw [if_pos c, if_pos (show i < n + 1 ∧ ws.getD i 0 ≠ vs.getD i 0 from ⟨by omega, c.2⟩)]; rfl
    · rw [if_neg c, Option.none_or]
      by_cases d : ws.getD n 0 ≠ vs.getD n 0
      · rw [if_pos d, List.find?_cons]
        by_cases e : i = n
        · subst e
          rw [if_pos ⟨by omega, d⟩, show decide ((i : Int) = (i : Int)) = true from decide_eq_true rfl]
        · rw [show decide ((n : Int) = (i : Int)) = false from decide_eq_false (by omega), if_neg (fun z => c ⟨by omega, z.2⟩)]; rfl
      · rw [if_neg d, if_neg (fun z => ?_)]; rfl
        by_cases e : i = n
        · subst e; exact d z.2
        · exact c ⟨by omega, z.2⟩
theorem later_diff {vs ws : List Int} (e : ws.length = vs.length) : laterP (diffP vs ws ws.length) vs = ws := by
  refine List.ext_getElem? fun i => ?_
  by_cases h : i < ws.length
  · have h2 : vs[i]? = some (vs.getD i 0) := by rw [List.getD_eq_getElem?_getD, List.getElem?_eq_getElem (by omega)]; rfl
    rw [laterP_get h2]
    unfold byteP
    rw [diffP_find]
    have h3 : ws[i]? = some (ws.getD i 0) := by rw [List.getD_eq_getElem?_getD, List.getElem?_eq_getElem h]; rfl
    rw [h3]
    by_cases d : ws.getD i 0 ≠ vs.getD i 0
    · rw [if_pos ⟨h, d⟩]; rfl
    · rw [if_neg (fun z => d z.2), Decidable.not_not.mp d]; rfl
  · rw [List.getElem?_eq_none (by rw [laterP_len]; omega), List.getElem?_eq_none (by omega)]

end My
namespace My
open PySem PySem.Spec PyProof.Rows L2
/-! ### patches made of bytes in a row, and between two rows -/
theorem PBad.no {l : PL} {b : Bool} {a : Int} (ok : PtOk l) (h : PBad l b a) : False := by
  cases h with
  | addr _ hm n lo =>
    obtain ⟨q, hq, e⟩ := List.mem_map.mp hm
    have := ok.lo q hq
    omega
  | byte q hq p n lo => exact n (ok.by_ q hq)
def badC (A : Ad) (b : Bool) : Addr := if b = true then A.C_BadAddress else A.C_BadByte
theorem mk_patchE {A : Ad} {H : Hp} {R : Addr → Hp → Prop} {E : XK} {d : Addr} {l : PL} (hd : H d = some (.dK (kvsP l))) (nd : (l.map (·.1)).Nodup) (few : l.length < 64)
    (kE : ∀ b a dd H', PBad l b a → Vc.Ed [] H H' → H' dd = some (.xd [("at", .int a)]) → E (.ref (if b = true then A.C_BadAddress else A.C_BadByte)) (some dd) H')
    (k : PtOk l → ∀ p f n H', Vc.Ed [] H H' → H p = none → H f = none → PatAt A H' p f n → Asc n l → R p H') :
    ∀ x dx, H x = none → H dx = none → dx ≠ x → spPatInit A (.ref x :: [.ref d]) (upd (upd H dx (.own x)) x (.ins A.C_Patch dx [])) (fun v H2 => v = .non ∧ R x H2) E := by
  intro x dx nx ndx ne
  generalize hu : upd (upd H dx (.own x)) x (.ins A.C_Patch dx []) = H1
  obtain ⟨e1, h1, _⟩ := Vc.allocI hu nx ndx ne
  exact ⟨x, dx, d, l, rfl, h1, e1.at0 hd, nd, few, fun b a dd H2 bad e2 h2 => kE b a dd H2 bad (e1.ex e2) h2, fun ok f n H2 e2 nf Z asc => ⟨rfl, k ok x f n H2 (e1.trans e2 fun a ha => .inr (by rw [List.mem_singleton.mp ha]; exact nx)) nx (e1.dom _ nf) Z asc⟩⟩
theorem mk_patch {A : Ad} {H : Hp} {R : Addr → Hp → Prop} {E : XK} {d : Addr} {l : PL} (hd : H d = some (.dK (kvsP l))) (ok : PtOk l) (k : ∀ p f n H', Vc.Ed [] H H' → H p = none → H f = none → PatAt A H' p f n → Asc n l → R p H') :
    ∀ x dx, H x = none → H dx = none → dx ≠ x → spPatInit A (.ref x :: [.ref d]) (upd (upd H dx (.own x)) x (.ins A.C_Patch dx [])) (fun v H2 => v = .non ∧ R x H2) E :=
  mk_patchE hd ok.nd ok.few (fun b a dd H' bad _ _ => (PBad.no ok bad).elim) fun _ => k
/-- bytes in a row from an address on -/
def ofP (a : Int) (vals : List Int) : Nat → PL
  | 0 => []
  | n + 1 => ofP a vals n ++ [(a + (n : Int), vals.getD n 0)]
theorem ofP_len (a : Int) (vals : List Int) : ∀ n, (ofP a vals n).length = n
  | 0 => rfl
  | n + 1 => by
    show (ofP a vals n ++ _).length = _
    rw [List.length_append, ofP_len a vals n]; rfl
theorem ofP_keys {a : Int} {vals : List Int} : ∀ {n : Nat} {q : Int × Int}, q ∈ ofP a vals n → ∃ i, i < n ∧ q = (a + (i : Int), vals.getD i 0)
  | 0, q, h => nomatch h
  | n + 1, q, h => by
    rcases List.mem_append.mp h with h | h
    · obtain ⟨i, hi, e⟩ := ofP_keys h
      exact ⟨i, by omega, e⟩
    · exact ⟨n, by omega, List.mem_singleton.mp h⟩
theorem ofP_pw (a : Int) (vals : List Int) : ∀ n, ((ofP a vals n).map (·.1)).Pairwise (· < ·)
  | 0 => .nil
  | n + 1 => by
    show ((ofP a vals n ++ _).map _).Pairwise _
    rw [List.map_append]
    refine List.pairwise_append.mpr ⟨ofP_pw a vals n, List.pairwise_singleton _ _, fun x hx y hy => ?_⟩
    obtain ⟨q, hq, rfl⟩ := List.mem_map.mp hx
    obtain ⟨i, hi, rfl⟩ := ofP_keys hq
    rw [List.mem_singleton.mp hy]
    show a + (i : Int) < a + (n : Int)
    omega
theorem ofP_fresh {a : Int} {vals : List Int} {n : Nat} : a + (n : Int) ∉ (ofP a vals n).map (·.1) := fun z => by
  obtain ⟨q, hq, e⟩ := List.mem_map.mp z
  obtain ⟨i, hi, rfl⟩ := ofP_keys hq
  have : a + (i : Int) = a + (n : Int) := e
  omega
def spPatOf (A : Ad) : Sp := fun vs H Q E => ∃ (a : Int) (vals : List Int) (t : Addr), vs = [.ref A.C_Patch, .int a, .ref t] ∧ H t = some (.tup (vals.map V.int)) ∧ vals.length ≤ 24 ∧
  (∀ b x dd H', PBad (ofP a vals vals.length) b x → Vc.Ed [] H H' → H' dd = some (.xd [("at", .int x)]) → E (.ref (if b = true then A.C_BadAddress else A.C_BadByte)) (some dd) H') ∧
  (PtOk (ofP a vals vals.length) → ∀ p d H', Vc.Ed [] H H' → H p = none → PatAt A H' p d (ofP a vals vals.length) → Q (.ref p) H')
def spBetween (A : Ad) (K : PySem.W.Frag) : Sp := fun vs H Q E => ∃ (f g : Addr) (us ws : List Int), vs = [.ref f, .ref g] ∧ Given A K H f us ∧ Given A K H g ws ∧ us.length ≤ 24 ∧ ws.length ≤ 24 ∧ (∀ b ∈ ws, 0 ≤ b ∧ b ≤ 255) ∧
  (us.length ≠ ws.length → ∀ dd H', Vc.Ed [] H H' → H' dd = some (.xd [("other", .int (ws.length : Int)), ("one", .int (us.length : Int))]) → E (.ref A.C_UnlikeLengths) (some dd) H') ∧
  (us.length = ws.length → ∀ p d H', Vc.Ed [] H H' → H p = none → PatAt A H' p d (diffP us ws ws.length) → Q (.ref p) H')
theorem walk_enumT {K : PySem.W.Frag} {a : Addr} {xs : List V} : Walk (Vc.IteT K a) xs.length (fun H => SqT K H a xs) (YPair (fun i => some (.int (i : Nat))) (fun i => xs[i]?)) := by
  refine ⟨fun i _ hi q => ⟨xs, xs[i], q, by simp [hi]⟩, fun _ q => ⟨xs, q, Nat.le_refl _⟩, fun i H v H' _ q y => ?_⟩
  obtain ⟨T, x, h1, h2, h3, h4⟩ := y
  exact ⟨T, .int (i : Nat), x, h1, h2, h3, rfl, h4 xs q⟩
section
variable {w : World} {K : PySem.W.Frag} {mg : Str → Option Value} {base : Heap} {A : Ad}
theorem ok_Patch_of (T : Txt K mg A) : FnR PG w K mg base (CX PG w) 7 A.f_Patch_of (Vc.spV 2 (spPatOf A)) := by
  have G_Patchu_initu := ok_Patchu_initu (w := w) (base := base) T
  refine Vc.Fun.okV T.F_Patch_of T.b_Patch_of sc_Patch_of (fun cdv Ar outer s H vs Q E hr h => ?_)
  obtain ⟨a, vals, t, rfl, ht, v24, kE, kQ⟩ := h
  have hu := hu_of hr
  refine ⟨_, (pss_one (ps_ret (Vc.pe_makeC T.mk_Patch G_Patchu_initu (by exact hr.mono (by decide)) T.b_Patchu_initu (fun σ => passAt (takes_of rfl rfl rfl rfl) σ) (pv 0) (pa_cons (pe_dc (own := [("k", 3), ("value", 4)]) (g := gTup K 2 (gCons (gName 3) (gCons (gName 4) gNil))) rfl sc_Patch_of.nd (Vc.pi_enumT (by rfl) T.n_enumerate (pa_cons (pv 2) pa_nil)) (blkOk_by (own := [("k", 3), ("value", 4)]) (N := ["cls", "address", "values", "k", "value"]) (sc := defScope s_Patch_of) (by decide +kernel)) (fun _ _ _ _ _ => by exact (pg_tup rfl (pgs_cons (pg_name (i := 3) sc_Patch_of.nd rfl (Or.inl rfl)) (pgs_cons (pg_name (i := 4) sc_Patch_of.nd rfl (Or.inl rfl)) pgs_nil)))) (fun _ _ _ _ _ => by exact pts_nil) (fun _ _ _ _ _ => by (refine' Vc.blkE ?h ?q; (case h => exact (pe_op op_add (pv 1) (pv 3))); (case q => first | exact rfl | (dsimp only; done) | (dsimp only; exact rfl)))) (fun _ _ _ _ _ => by (refine' Vc.blkE ?h ?q; (case h => exact (pv 4)); (case q => first | exact rfl | (dsimp only; done) | (dsimp only; exact rfl))))) pa_nil)))), ?_⟩
  walk_at "go"
  show tCons (tVar 2) tNil _ _ _
  walk_at "go"
  refine ⟨t, _, rfl, .of ht, Vc.dc_by walk_enumT (fun D j H' => Vc.Ed [] H H' ∧ H' D = some (.dK (kvsP (ofP a vals j)))) (fun D H3 nt e3 ht => ⟨e3, ht⟩) (fun D j H3 _ _ q => .of (q.1.at0 ht)) ?_ ?_⟩
  · rintro D j y H3 H4 nD hj ⟨e3, hD⟩ hy
    obtain ⟨u, x, b, rfl, nt, rfl, ha, hbx⟩ := hy
    cases ha
    have hbx : (vals.map V.int)[j]? = some b := hbx
    rw [List.getElem?_map] at hbx
    obtain ⟨n, hn, rfl⟩ := Option.map_eq_some_iff.mp hbx
    have jl := (List.getElem?_eq_some_iff.mp hn).1
    have en : vals.getD j 0 = n := by rw [List.getD_eq_getElem?_getD, hn]; rfl
    generalize hu4 : upd _ u _ = H4
    obtain ⟨e4, hu'⟩ := Vc.alloc hu4 nt
    refine ⟨u, _, rfl, .of hu', rfl, _, _, rfl, ?_⟩
    walk_at "go"
    refine ⟨_, _, rfl, ?_⟩
    walk_at "go"
    refine ⟨rfl, ?_⟩
    walk_at "go"
    refine ⟨rfl, ?_⟩
    walk_at "go"
    have hD4 := e4.at0 hD
    refine ⟨_, .inl (a + (j : Int)), rfl, hD4, small1000 (by rw [kvsP_len, ofP_len]; omega), ?_⟩
    generalize hu5 : upd _ D _ = H5
    obtain ⟨e5, hD5⟩ := Vc.chg hu5 hD4
    refine ⟨(e3.ex e4).one e5 (.inr nD), ?_⟩
    rw [putP ofP_fresh] at hD5
    rw [hD5, ← en]; rfl
  rintro D H3 nD ⟨e3, hD⟩
  rw [List.length_map] at hD
  walk_at "go"
  refine mk_patchE (R := fun p H' => Q (.ref p) H') hD (asc_nodup (ofP_pw _ _ _)) (by rw [ofP_len]; omega) (fun b x dd H4 bad e4 hdd => kE b x dd H4 bad (e3.ex e4) hdd) fun ok p f n H4 e4 np nf Z asc => ?_
  rw [asc_self asc (ofP_pw _ _ _)] at Z
  exact kQ ok p f H4 (e3.ex e4) (e3.dom _ np) Z
theorem ok_Patch_between (T : Txt K mg A) : FnOk PG w K mg base (CX PG w) 7 A.f_Patch_between A.d_Patch_between ["old", "new"] (spBetween A K) := by
  have G_Patchu_initu := ok_Patchu_initu (w := w) (base := base) T
  have G_Imageu_iteru := ok_Imageu_iteru (P := PG) (w := w) (base := base) T
  have G_Imageu_lenu := ok_Imageu_lenu (P := PG) (w := w) (base := base) T
  have G_UnlikeLengthsu_initu := ok_UnlikeLengthsu_initu (w := w) (base := base) T
  refine T.F_Patch_between.okX sc_Patch_between (fun vs H Q E h => ?_) (fun cdv Ar outer s H vs Q E hr h => ?_)
  · obtain ⟨f, g, us, ws, rfl, _⟩ := h
    rfl
  · obtain ⟨f, g, us, ws, rfl, hf, hg, u24, w24, by_, kE, kQ⟩ := h
    have hu := hu_of hr
    refine ⟨_, (pss_cons (ps_set (i := 2) sc_Patch_between.nd rfl (Or.inr rfl) (pe_callTy (Vc.call_or Vc.call_lstD (Vc.call_listLi (by rfl) G_Imageu_iteru T.sp_Image_Imageu_iteru T.b_Imageu_iteru G_Imageu_lenu T.sp_Image_Imageu_lenu T.b_Imageu_lenu (by exact hr.mono (by decide)))) (by rfl) T.n_list (by decide +kernel) (pa_cons (pv 0) pa_nil))) (pss_cons (ps_set (i := 3) sc_Patch_between.nd rfl (Or.inl rfl) (pe_callTy (Vc.call_or Vc.call_lstD (Vc.call_listLi (by rfl) G_Imageu_iteru T.sp_Image_Imageu_iteru T.b_Imageu_iteru G_Imageu_lenu T.sp_Image_Imageu_lenu T.b_Imageu_lenu (by exact hr.mono (by decide)))) (by rfl) T.n_list (by decide +kernel) (pa_cons (pv 1) pa_nil))) (pss_cons (ps_if (pt_cmpR op_ne (pe_callB call_len_seq (by rfl) T.n_len (by decide +kernel) (pa_cons (pv 2) pa_nil)) (pe_callB call_len_seq (by rfl) T.n_len (by decide +kernel) (pa_cons (pv 3) pa_nil)) (nomark _)) (pss_one (Vc.ps_raiseT rfl (takes_of rfl rfl rfl rfl) (pmk_oex T.ox_UnlikeLengths T.i_UnlikeLengths T.ti_UnlikeLengths G_UnlikeLengthsu_initu (by exact hr.mono (by decide)) T.b_UnlikeLengthsu_initu .nil pass0 (by rfl) T.g_UnlikeLengths (pa_cons (pe_callB call_len_seq (by rfl) T.n_len (by decide +kernel) (pa_cons (pv 2) pa_nil)) (pa_cons (pe_callB call_len_seq (by rfl) T.n_len (by decide +kernel) (pa_cons (pv 3) pa_nil)) pa_nil))))) pss_nil) (pss_one (ps_ret (Vc.pe_makeS T.mk_Patch G_Patchu_initu (by exact hr.mono (by decide)) (by rfl) T.g_Patch T.b_Patchu_initu (fun σ => passAt (takes_of rfl rfl rfl rfl) σ) (pa_cons (pe_dc (own := [("at", 4), ("byte", 5)]) (g := gTup K 2 (gCons (gName 4) (gCons (gName 5) gNil))) rfl sc_Patch_between.nd (pi_enum (by rfl) T.n_enumerate (pa_cons (pv 3) pa_nil)) (blkOk_by (own := [("at", 4), ("byte", 5)]) (N := ["old", "new", "first", "second", "at", "byte"]) (sc := defScope s_Patch_between) (by decide +kernel)) (fun _ _ _ _ _ => by exact (pg_tup rfl (pgs_cons (pg_name (i := 4) sc_Patch_between.nd rfl (Or.inl rfl)) (pgs_cons (pg_name (i := 5) sc_Patch_between.nd rfl (Or.inl rfl)) pgs_nil)))) (fun _ _ _ _ _ => by (refine' Vc.blkT ?h ?q; (case h => exact pts_one (pt_cmpR op_ne (pv 5) (pe_ix ix_list (pv 2) (pv 4) (fun _ _ => rfl)) (nomark _))); (case q => first | exact rfl | (dsimp only; done) | (dsimp only; exact rfl)))) (fun _ _ _ _ _ => by (refine' Vc.blkE ?h ?q; (case h => exact (pv 4)); (case q => first | exact rfl | (dsimp only; done) | (dsimp only; exact rfl)))) (fun _ _ _ _ _ => by (refine' Vc.blkE ?h ?q; (case h => exact (pv 5)); (case q => first | exact rfl | (dsimp only; done) | (dsimp only; exact rfl))))) pa_nil))))))), ?_⟩
    walk_at "go"
    refine given_any hf (by omega) fun q1 H1 nq1 e1 hq1 => ?_
    have hg1 := hg.ed0 e1
    walk_at "go"
    refine given_any hg1 (by omega) fun q2 H2 nq2 e2 hq2 => ?_
    have hq12 := e2.at0 hq1
    have e12 := e1.ex e2
    walk_at "go"
    rw [List.length_map, List.length_map]
    by_cases e : us.length = ws.length
    · rw [decide_eq_true (show (us.length : Int) = (ws.length : Int) by omega)]
      walk_at "go"
      show tCons (tVar 3) tNil _ _ _
      walk_at "go"
      refine ⟨q2, _, rfl, .of hq2, Vc.dc_by walk_enum (fun t j H' => Vc.Ed [] H2 H' ∧ H' t = some (.dK (kvsP (diffP us ws j)))) (fun t H3 nt e3 ht => ⟨e3, ht⟩) (fun t j H3 _ _ q => .of (q.1.at0 hq2)) ?_ ?_⟩
      · rintro D j y H3 H4 nD hj ⟨e3, hD⟩ hy
        obtain ⟨t, a, b, rfl, nt, rfl, ha, hbx⟩ := hy
        cases ha
        have hbx : (ws.map V.int)[j]? = some b := hbx
        rw [List.getElem?_map] at hbx
        obtain ⟨n, hn, rfl⟩ := Option.map_eq_some_iff.mp hbx
        have jl := (List.getElem?_eq_some_iff.mp hn).1
        have en : ws.getD j 0 = n := by rw [List.getD_eq_getElem?_getD, hn]; rfl
        generalize hu4 : upd _ t _ = H4
        obtain ⟨e4, ht⟩ := Vc.alloc hu4 nt
        have g1 := at_nat (xs := us) (j := j) (by omega)
        have hf4 := (e3.ex e4).at0 hq12
        refine ⟨t, _, rfl, .of ht, rfl, _, _, rfl, ?_⟩
        walk_at "go"
        refine ⟨_, _, rfl, ?_⟩
        walk_at "go"
        refine ⟨rfl, ?_⟩
        walk_at "go"
        refine ⟨rfl, ?_⟩
        walk_at "go"
        have hD4 := e4.at0 hD
        refine Vc.go_iten (fun q1 => ?_) (fun q1 => ?_)
        · walk_at "go"
          refine ⟨_, .inl (j : Int), rfl, hD4, small1000 (by rw [kvsP_len]; have := diffP_len us ws j; omega), ?_⟩
          generalize hu5 : upd _ D _ = H5
          obtain ⟨e5, hD5⟩ := Vc.chg hu5 hD4
          refine ⟨(e3.ex e4).one e5 (.inr nD), ?_⟩
          rw [putP (fun z => by have := diffP_keys z; omega)] at hD5
          rw [hD5, diffP_succ, if_pos (by rw [en]; exact q1), en]
        · refine ⟨e3.ex e4, ?_⟩
          rw [hD4, diffP_succ, if_neg (by rw [en]; exact fun z => z q1), List.append_nil]
      rintro D H3 nD ⟨e3, hD⟩
      rw [List.length_map] at hD
      walk_at "go"
      have e03 := e12.ex e3
      refine mk_patch (R := fun p H' => Q (.ref p) H') hD (diffP_ok (vs := us) by_ (by omega)) fun p f n H4 e4 np nf Z asc => ?_
      rw [asc_self asc (diffP_pw us ws _)] at Z
      exact kQ e p f H4 (e03.ex e4) (e03.dom _ np) Z
    · rw [decide_eq_false (show ¬ (us.length : Int) = (ws.length : Int) by omega)]
      walk_at "go"
      rw [List.length_map, List.length_map]
      intro dd H3 _ e3 hdd
      exact kE e dd H3 (e12.ex e3) hdd
end

end My
namespace My
open PySem PySem.Spec PyProof.Rows L2
/-! ### dicts of pairs: drawn, and what a patch of them is due -/
/-- ints of at most 30 digits -/
def SmallI (x : Int) : Prop := -1000000000000000000000000000000 ≤ x ∧ x ≤ 1000000000000000000000000000000
structure PrK (l : PL) (n : Nat) : Prop where
  nd : (l.map (·.1)).Nodup
  lo : ∀ q ∈ l, SmallI q.1 ∧ q.1 < 24
  by_ : ∀ q ∈ l, SmallI q.2
  few : l.length ≤ n
theorem PrK.nil : PrK [] 0 := ⟨.nil, fun _ h => (nomatch h), fun _ h => (nomatch h), Nat.le_refl _⟩
theorem PrK.up {l : PL} {n m : Nat} (h : PrK l n) (e : n ≤ m) : PrK l m := ⟨h.nd, h.lo, h.by_, Nat.le_trans h.few e⟩
theorem PrK.put {l : PL} {n : Nat} {a b : Int} (h : PrK l n) (a1 : SmallI a) (a2 : a < 24) (b1 : SmallI b) : PrK (putPL l a b) (n + 1) where
  nd := putPL_nd h.nd a b
  lo := fun q hq => by
    rcases putPL_mem hq with rfl | hq
    · exact ⟨a1, a2⟩
    · exact h.lo q hq
  by_ := fun q hq => by
    rcases putPL_mem hq with rfl | hq
    · exact b1
    · exact h.by_ q hq
  few := Nat.le_trans (putPL_len l a b) (Nat.succ_le_succ h.few)
def spPairsK : Sp := fun vs H Q _ => ∃ (b c : Addr) (n : Nat), vs = [.ref b] ∧ Pen H b c n ∧ n + 80 ≤ LIM ∧
  ∀ d l H', Vc.Ed [b] H H' → Pen H' b c (n + 80) → H d = none → H' d = some (.dK (kvsP l)) → PrK l 10 → Q (.ref d) H'
/-- the keys of a dict that are below, above, .. -/
def keysF (l : PL) (p : Int → Bool) : List Int := (l.map (·.1)).filter p
theorem keysF_take {l : PL} {p : Int → Bool} {i : Nat} {q : Int × Int} (h : l[i]? = some q) : keysF (l.take (i + 1)) p = keysF (l.take i) p ++ if p q.1 = true then [q.1] else [] := by
  unfold keysF
  rw [List.take_add_one, h, List.map_append, List.filter_append]
  show _ ++ List.filter p [q.1] = _
  rw [List.filter_cons]
  split <;> rfl
theorem keysF_len (l : PL) (p : Int → Bool) : (keysF l p).length ≤ l.length := Nat.le_trans (List.length_filter_le _ _) (by rw [List.length_map]; exact Nat.le_refl _)
def spDue : Sp := fun vs H Q _ => ∃ (d : Addr) (l : PL), vs = [.ref d] ∧ H d = some (.dK (kvsP l)) ∧ (l.map (·.1)).Nodup ∧ l.length < 64 ∧
  (∀ b a t H', PBad l b a → Vc.Ed [] H H' → H t = none → H' t = some (.tup [.str (if b = true then "address" else "byte"), .int a]) → Q (.ref t) H') ∧
  (PtOk l → ∀ t L n H', Vc.Ed [] H H' → H t = none → H' t = some (.lst [.ref L]) → PrsAt H' L n → Asc n l → Q (.ref t) H')
section
variable {P : Program} {w : World} {K : PySem.W.Frag} {mg : Str → Option Value} {base : Heap} {A : Ad}
theorem ok__law_due (T : Txt K mg A) : FnOk P w K mg base CX0 1 A.f__law_due A.d__law_due ["_law_pairs_here"] spDue := by
  refine T.F__law_due.ok sc__law_due (fun vs H Q E h => ?_) (fun cdv Ar outer s H vs Q E hr h => ?_)
  · obtain ⟨d, l, rfl, _⟩ := h
    rfl
  · obtain ⟨d, l, rfl, hd, nd, few, kB, kN⟩ := h
    have hu := hu_of hr
    refine ⟨_, (pss_cons (ps_lock (ps_setLc (i := 1) (own := [("_law_at", 3)]) (g := gName 3) rfl sc__law_due.nd rfl rfl (sw_true rfl rfl rfl (by decide +kernel)) (pi_keys (pv 0)) (blkOk_by (own := [("_law_at", 3)]) (N := ["_law_pairs_here", "_law_below", "_law_bad", "_law_at"]) (sc := defScope s__law_due) (by decide +kernel)) (fun _ _ _ _ _ => by exact (pg_name (i := 3) sc__law_due.nd rfl (Or.inl rfl))) (fun _ _ _ _ _ => by (refine' Vc.blkT ?h ?q; (case h => exact pts_one (pt_cmpR op_lt (pv 3) pe_int (nomark _))); (case q => first | exact rfl | (dsimp only; done) | (dsimp only; exact rfl)))) (fun _ _ _ _ _ => by (refine' Vc.blkE ?h ?q; (case h => exact (pv 3)); (case q => first | exact rfl | (dsimp only; done) | (dsimp only; exact rfl)))))) (pss_cons (ps_if (pt_cmpR (op_neD (by exact hr.units)) (pv 1) (pe_lst pa_nil) (nomark _)) (pss_one (ps_ret (pe_tup (pa_cons pe_str (pa_cons (pe_callB (cr_min rfl) (by rfl) T.n_min (by decide +kernel) (pa_cons (pv 1) pa_nil)) pa_nil))))) pss_nil) (pss_cons (ps_lock (ps_setLc (i := 2) (own := [("_law_at", 3)]) (g := gName 3) rfl sc__law_due.nd rfl rfl (sw_true rfl rfl rfl (by decide +kernel)) (pi_keys (pv 0)) (blkOk_by (own := [("_law_at", 3)]) (N := ["_law_pairs_here", "_law_below", "_law_bad", "_law_at"]) (sc := defScope s__law_due) (by decide +kernel)) (fun _ _ _ _ _ => by exact (pg_name (i := 3) sc__law_due.nd rfl (Or.inl rfl))) (fun _ _ _ _ _ => by (refine' Vc.blkT ?h ?q; (case h => exact pts_one (pt_not (pt_chain op_le op_le pe_int (pe_dget (by exact hu) (pv 0) (pv 3) (fun _ _ => rfl)) pe_int))); (case q => first | exact rfl | (dsimp only; done) | (dsimp only; exact rfl)))) (fun _ _ _ _ _ => by (refine' Vc.blkE ?h ?q; (case h => exact (pv 3)); (case q => first | exact rfl | (dsimp only; done) | (dsimp only; exact rfl)))))) (pss_cons (ps_if (pt_cmpR (op_neD (by exact hr.units)) (pv 2) (pe_lst pa_nil) (nomark _)) (pss_one (ps_ret (pe_tup (pa_cons pe_str (pa_cons (pe_callB (cr_min rfl) (by rfl) T.n_min (by decide +kernel) (pa_cons (pv 2) pa_nil)) pa_nil))))) pss_nil) (pss_one (ps_ret (pe_lst (pa_cons (pe_lc (own := [("_law_at", 3)]) (g := gName 3) rfl sc__law_due.nd (pi_list (pe_callB cr_sorted (by rfl) T.n_sorted (by decide +kernel) (pa_cons (pe_callTy (call_list_dK rfl) (by rfl) T.n_list (by decide +kernel) (pa_cons (pv 0) pa_nil)) pa_nil))) (blkOk_by (own := [("_law_at", 3)]) (N := ["_law_pairs_here", "_law_below", "_law_bad", "_law_at"]) (sc := defScope s__law_due) (by decide +kernel)) (fun _ _ _ _ _ => by exact (pg_name (i := 3) sc__law_due.nd rfl (Or.inl rfl))) (fun _ _ _ _ _ => by exact pts_nil) (fun _ _ _ _ _ => by (refine' Vc.blkE ?h ?q; (case h => exact (pe_tup (pa_cons (pv 3) (pa_cons (pe_dget (by exact hu) (pv 0) (pv 3) (fun _ _ => rfl)) pa_nil)))); (case q => first | exact rfl | (dsimp only; done) | (dsimp only; exact rfl))))) pa_nil)))))))), ?_⟩
    walk_at "go"
    refine Vc.lockA_keys rfl hd [] (fun H1 L i H' => Vc.Ed [] H1 H' ∧ H' L = some (.lst ((keysF (l.take i) fun a => decide (a < 0)).map V.int))) (fun _ _ _ _ h => h.1) (fun H1 od L H2 e1 h1 nL e2 hL => ⟨e2, hL⟩) ?_ ?_
    · rintro H1 od D i kk ww H2 e1 nD hd2 hk ⟨e2, hD⟩
      unfold kvsP at hk
      rw [List.getElem?_map] at hk
      obtain ⟨q, hq, e⟩ := Option.map_eq_some_iff.mp hk
      obtain ⟨rfl, rfl⟩ := Prod.mk.inj e
      have fl := keysF_len (l.take i) fun a => decide (a < 0)
      rw [List.length_take] at fl
      change gName 3 (V.int q.1) _ _ _
      walk_at "go"
      refine ⟨rfl, ?_⟩
      walk_at "go"
      refine Vc.go_ite (fun g => ?_) (fun g => ?_)
      · walk_at "go"
        refine ⟨_, hD, by rw [List.length_map]; exact small1000 (by omega), ?_⟩
        generalize hu7 : upd _ D _ = H7
        obtain ⟨e7, hD7⟩ := Vc.chg hu7 hD
        refine ⟨e2.one e7 (.inr nD), ?_⟩
        rw [hD7, keysF_take hq, if_pos (decide_eq_true g), List.map_append]; rfl
      · refine ⟨e2, ?_⟩
        rw [hD, keysF_take hq, if_neg (by rw [decide_eq_true_eq]; exact g), List.append_nil]
    rintro H1 lo H2 H3 nlo ⟨e2, hlo⟩ e3 hd3 k3
    rw [kvsP_len, List.take_length] at hlo
    have hlo3 := k3 lo _ (fun z => by rw [z, hd] at nlo; cases nlo) hlo
    clear e2 hlo k3
    have nlod : lo ≠ d := fun z => by rw [z, hd] at nlo; cases nlo
    generalize hLO : (keysF l fun a => decide (a < 0)) = LO at hlo3
    have lom : ∀ a, a ∈ LO ↔ a ∈ l.map (·.1) ∧ a < 0 := fun a => by rw [← hLO]; unfold keysF; rw [List.mem_filter, decide_eq_true_eq]
    walk_at "go"
    intro z1 nz1
    generalize hu7 : upd _ z1 _ = H7
    obtain ⟨e7, hz1⟩ := Vc.alloc hu7 nz1
    have hlo7 := e7.at0 hlo3
    have hd7 := e7.at0 hd3
    refine go_neLs (ns := LO) (ms := []) (.inl (.of hlo7)) (.inl (.of hz1)) ?_
    have e07 := e3.ex e7
    walk_at "go"
    refine Vc.go_iten (fun g => ?_) (fun g => ?_)
    · walk_at "go"
      refine ⟨lo, _, rfl, .of hlo7, List.length_pos_iff.mpr g, fun m hm hle => ?_⟩
      walk_at "go"
      intro t nt
      generalize hu8 : upd _ t _ = H8
      obtain ⟨e8, ht⟩ := Vc.alloc hu8 nt
      walk_at "go"
      have h1 := (lom m).mp hm
      exact kB true m t H8 (.addr m h1.1 h1.2 fun b hb => by
        by_cases c : b < 0
        · exact hle b ((lom b).mpr ⟨hb, c⟩)
        · have := h1.2
          omega) (e07.ex e8) (e07.dom _ nt) ht
    have pos : ∀ b ∈ l.map (·.1), 0 ≤ b := fun b hb => by
      by_cases c : b < 0
      · have := (lom b).mpr ⟨hb, c⟩
        rw [g] at this; cases this
      · omega
    clear hlo7 hz1 hlo3 e3 hd3 e7
    walk_at "go"
    refine Vc.lockA_keys rfl hd7 [] (fun H1 L i H' => Vc.Ed [] H1 H' ∧ H' L = some (.lst (((l.take i).filter fun q => !decide (0 ≤ q.2 ∧ q.2 ≤ 255)).map fun q => V.int q.1))) (fun _ _ _ _ h => h.1) (fun H1 od L H2 e1 h1 nL e2 hL => ⟨e2, hL⟩) ?_ ?_
    · rintro H4 od D i kk ww H5 e4 nD hd5 hk ⟨e5, hD⟩
      unfold kvsP at hk
      rw [List.getElem?_map] at hk
      obtain ⟨q, hq, e⟩ := Option.map_eq_some_iff.mp hk
      obtain ⟨rfl, rfl⟩ := Prod.mk.inj e
      have hv := valP_mem nd (List.mem_of_getElem? hq)
      have fl : ((l.take i).filter fun q => !decide (0 ≤ q.2 ∧ q.2 ≤ 255)).length ≤ l.length := Nat.le_trans (List.length_filter_le _ _) (by rw [List.length_take]; omega)
      have tk : (l.take (i + 1)).filter (fun q => !decide (0 ≤ q.2 ∧ q.2 ≤ 255)) = ((l.take i).filter fun q => !decide (0 ≤ q.2 ∧ q.2 ≤ 255)) ++ if 0 ≤ q.2 ∧ q.2 ≤ 255 then [] else [q] := by
        rw [List.take_add_one, hq, List.filter_append]
        show _ ++ List.filter _ [q] = _
        rw [List.filter_cons]
        by_cases c : 0 ≤ q.2 ∧ q.2 ≤ 255
        · rw [if_pos c, decide_eq_true c]; rfl
        · rw [if_neg c, decide_eq_false c]; rfl
      have yes : (0 ≤ q.2 ∧ q.2 ≤ 255) → (Vc.Ed [] H4 H5 ∧ H5 D = some (.lst (((l.take (i + 1)).filter fun q => !decide (0 ≤ q.2 ∧ q.2 ≤ 255)).map fun q => V.int q.1))) := fun c => ⟨e5, by rw [hD, tk, if_pos c, List.append_nil]⟩
      have no : ¬ (0 ≤ q.2 ∧ q.2 ≤ 255) → ∃ acc, H5 D = some (.lst acc) ∧ acc.length < sizeLine ∧ (Vc.Ed [] H4 (upd H5 D (.lst (acc ++ [V.int q.1]))) ∧ upd H5 D (.lst (acc ++ [V.int q.1])) D = some (.lst (((l.take (i + 1)).filter fun q => !decide (0 ≤ q.2 ∧ q.2 ≤ 255)).map fun q => V.int q.1))) := fun c => by
        refine ⟨_, hD, by rw [List.length_map]; exact small1000 (by omega), ?_⟩
        generalize hu7 : upd _ D _ = H7
        obtain ⟨e7, hD7⟩ := Vc.chg hu7 hD
        refine ⟨e5.one e7 (.inr nD), ?_⟩
        rw [hD7, tk, if_neg c, List.map_append]; rfl
      change gName 3 (V.int q.1) _ _ _
      walk_at "go"
      refine ⟨rfl, ?_⟩
      walk_at "go"
      refine Vc.go_ite (c := 0 ≤ q.2) (fun g => ?_) (fun g => ?_)
      · walk_at "go"
        refine Vc.go_iten (c := q.2 ≤ 255) (fun g2 => ?_) (fun g2 => ?_)
        · walk_at "go"
          exact no fun z => g2 z.2
        · exact yes ⟨g, g2⟩
      · walk_at "go"
        exact no fun z => g z.1
    rintro H4 bd H5 H6 nbd ⟨e5, hbd⟩ e6 hd6 k6
    rw [kvsP_len, List.take_length] at hbd
    have hbd6 := k6 bd _ (fun z => by rw [z, hd7] at nbd; cases nbd) hbd
    have e06 := e07.ex e6
    clear e5 hbd k6 e6
    have bdm : (l.filter fun q => !decide (0 ≤ q.2 ∧ q.2 ≤ 255)).map (fun q => V.int q.1) = ((l.filter fun q => !decide (0 ≤ q.2 ∧ q.2 ≤ 255)).map (·.1)).map V.int := by rw [List.map_map]; rfl
    rw [bdm] at hbd6
    generalize hBD : (l.filter fun q => !decide (0 ≤ q.2 ∧ q.2 ≤ 255)) = BD at hbd6
    have bdmem : ∀ q, q ∈ BD ↔ q ∈ l ∧ ¬ (0 ≤ q.2 ∧ q.2 ≤ 255) := fun q => by rw [← hBD, List.mem_filter]; simp only [Bool.not_eq_true', decide_eq_false_iff_not]
    walk_at "go"
    intro z2 nz2
    generalize hu8 : upd _ z2 _ = H8
    obtain ⟨e8, hz2⟩ := Vc.alloc hu8 nz2
    have hbd8 := e8.at0 hbd6
    have hd8 := e8.at0 hd6
    refine go_neLs (ns := BD.map (·.1)) (ms := []) (.inl (.of hbd8)) (.inl (.of hz2)) ?_
    have e08 := e06.ex e8
    walk_at "go"
    refine Vc.go_iten (fun g2 => ?_) (fun g2 => ?_)
    · walk_at "go"
      refine ⟨bd, _, rfl, .of hbd8, List.length_pos_iff.mpr g2, fun m hm hle => ?_⟩
      obtain ⟨q, hq, rfl⟩ := List.mem_map.mp hm
      obtain ⟨q1, q2⟩ := (bdmem q).mp hq
      walk_at "go"
      intro t nt
      generalize hu9 : upd _ t _ = H9
      obtain ⟨e9, ht⟩ := Vc.alloc hu9 nt
      walk_at "go"
      exact kB false q.1 t H9 (.byte q q1 pos q2 fun r hr hlt => by
        by_cases c : 0 ≤ r.2 ∧ r.2 ≤ 255
        · exact c
        · have := hle r.1 (List.mem_map.mpr ⟨r, (bdmem r).mpr ⟨hr, c⟩, rfl⟩)
          omega) (e08.ex e9) (e08.dom _ nt) ht
    have by_ : ∀ q ∈ l, 0 ≤ q.2 ∧ q.2 ≤ 255 := fun q hq => by
      by_cases c : 0 ≤ q.2 ∧ q.2 ≤ 255
      · exact c
      · have : q.1 ∈ BD.map (·.1) := List.mem_map.mpr ⟨q, (bdmem q).mpr ⟨hq, c⟩, rfl⟩
        rw [g2] at this; cases this
    have okl : PtOk l := ⟨nd, fun q hq => pos q.1 (List.mem_map.mpr ⟨q, hq, rfl⟩), by_, few⟩
    clear hbd8 hz2 hbd6 e8 hd6 hd7
    walk_at "go"
    intro q1 nq1
    generalize hu1 : upd _ q1 _ = H11
    obtain ⟨e11, hq1⟩ := Vc.alloc hu1 nq1
    rw [keys_kvsP] at hq1
    walk_at "go"
    refine Vc.go_sorted (.of hq1) (by rw [List.length_map]; exact few) fun ms o perm srt no => ?_
    generalize hu2 : upd _ o _ = H12
    obtain ⟨e12, ho⟩ := Vc.alloc hu2 no
    obtain ⟨ls, asc, el⟩ := asc_of_perm nd perm srt
    have lsl : ls.length = l.length := asc.pm.length_eq
    have hd2 := (e11.ex e12).at0 hd8
    walk_at "go"
    refine ⟨⟨_, .of ho⟩, Vc.lc_by (walk_list (xs := ms.map V.int)) (fun D j H' => Vc.Ed [] H12 H' ∧ PrsAt H' D (ls.take j)) (fun D H3 nD e3 hD => ⟨e3, [], hD, rfl, fun j t q z => (by simp at z)⟩) (fun D j H' _ _ q => .of (q.1.at0 ho)) ?_ ?_⟩
    · rintro D j y H3 H4 nD hj ⟨e3, PD⟩ ⟨rfl, hy⟩
      rw [← el, List.getElem?_map, List.getElem?_map] at hy
      obtain ⟨x, hx, rfl⟩ := Option.map_eq_some_iff.mp hy
      obtain ⟨q, hq, rfl⟩ := Option.map_eq_some_iff.mp hx
      have hd3 := e3.at0 hd2
      have hv := valP_mem nd (asc.pm.mem_iff.mp (List.mem_of_getElem? hq))
      walk_at "go"
      refine ⟨rfl, ?_⟩
      walk_at "go"
      intro t nt
      generalize hu4 : upd _ t _ = H5
      obtain ⟨e5, ht⟩ := Vc.alloc hu4 nt
      obtain ⟨ts, p1, p2, p3⟩ := PD
      have nDt := ne_of_none p1 nt
      have p1 := e5.at0 p1
      refine ⟨_, p1, by rw [List.length_map, p2, List.length_take]; exact small1000 (by omega), ?_⟩
      generalize hu5 : upd _ D _ = H6
      obtain ⟨e6, hD6⟩ := Vc.chg hu5 p1
      refine ⟨(e3.ex e5).one e6 (.inr nD), ?_⟩
      have := prs_snoc (q := q) (t := t) p2 p3 ((e5.mono fun _ z => nomatch z).trans e6 fun a z => .inl z) (by rw [hD6, List.map_append]; rfl) (e6.at1 nDt.symm ht)
      rw [List.take_add_one, hq]; exact this
    rintro D H3 nD ⟨e3, PD⟩
    rw [List.length_map, show ms.length = ls.length by rw [← el, List.length_map], List.take_length] at PD
    walk_at "go"
    intro t nt
    generalize hu20 : upd _ t _ = H20
    obtain ⟨e20, ht⟩ := Vc.alloc hu20 nt
    have e020 := ((e08.ex e11).ex e12).ex e3
    exact kN okl t D ls H20 (e020.ex e20) (e020.dom _ nt) ht (PD.ed e20 (fun z => nomatch z)) asc
theorem ok__law_pairs (T : Txt K mg A) : FnOk P w K mg base CX0 3 A.f__law_pairs A.d__law_pairs ["_law_pen_here"] spPairsK := by
  have G__law_draw := ok__law_draw (P := P) (w := w) (base := base) T
  have G__law_pick := ok__law_pick (P := P) (w := w) (base := base) T
  refine T.F__law_pairs.ok sc__law_pairs (fun vs H Q E h => ?_) (fun cdv Ar outer s H vs Q E hr h => ?_)
  · obtain ⟨b, c, n, rfl, _⟩ := h
    rfl
  · obtain ⟨b, c, n, rfl, hB, nl, k⟩ := h
    have hu := hu_of hr
    have lim : LIM = 1000000 := rfl
    refine ⟨_, (pss_cons (ps_set (i := 1) sc__law_pairs.nd rfl (Or.inl rfl) pe_dnewK) (pss_cons (ps_for PassesOwn.never rfl (pi_range1 (by rfl) T.n_range (pa_cons (pe_call G__law_draw (by exact hr.mono (by decide)) (by rfl) T.g__law_draw T.F__law_draw.kp T.b__law_draw .nil pass0 (pa_cons (pv 0) (pa_cons pe_int pa_nil))) pa_nil)) (pg_name (i := 2) sc__law_pairs.nd rfl (Or.inl rfl)) (pss_one (ps_dput (by exact hu) (pv 1) (pe_call G__law_draw (by exact hr.mono (by decide)) (by rfl) T.g__law_draw T.F__law_draw.kp T.b__law_draw .nil pass0 (pa_cons (pv 0) (pa_cons pe_int pa_nil))) (pe_call G__law_pick (by exact hr.mono (by decide)) (by rfl) T.g__law_pick T.F__law_pick.kp T.b__law_pick .nil pass0 (pa_cons (pv 0) (pa_cons (pe_lst (pa_cons (pe_call G__law_draw (by exact hr.mono (by decide)) (by rfl) T.g__law_draw T.F__law_draw.kp T.b__law_draw .nil pass0 (pa_cons (pv 0) (pa_cons pe_int pa_nil))) (pa_cons pe_int (pa_cons pe_int pa_nil)))) pa_nil))) rfl))) (pss_cons (ps_for PassesOwn.never rfl (pi_range1 (by rfl) T.n_range (pa_cons (pe_call G__law_pick (by exact hr.mono (by decide)) (by rfl) T.g__law_pick T.F__law_pick.kp T.b__law_pick .nil pass0 (pa_cons (pv 0) (pa_cons (pe_lst (pa_cons pe_int (pa_cons pe_int (pa_cons pe_int (pa_cons pe_int pa_nil))))) pa_nil))) pa_nil)) (pg_name (i := 2) sc__law_pairs.nd rfl (Or.inl rfl)) (pss_cons (ps_set (i := 3) sc__law_pairs.nd rfl (Or.inl rfl) (pe_call G__law_pick (by exact hr.mono (by decide)) (by rfl) T.g__law_pick T.F__law_pick.kp T.b__law_pick .nil pass0 (pa_cons (pv 0) (pa_cons (pe_lst (pa_cons pe_int (pa_cons (pe_un un_neg pe_int) (pa_cons (pe_op op_pow pe_int pe_int) (pa_cons (pe_op op_sub pe_int (pe_op op_pow pe_int pe_int)) (pa_cons pe_int (pa_cons (pe_op op_add pe_int (pe_call G__law_draw (by exact hr.mono (by decide)) (by rfl) T.g__law_draw T.F__law_draw.kp T.b__law_draw .nil pass0 (pa_cons (pv 0) (pa_cons pe_int pa_nil)))) pa_nil))))))) pa_nil)))) (pss_cons (ps_set (i := 4) sc__law_pairs.nd rfl (Or.inl rfl) (pe_call G__law_draw (by exact hr.mono (by decide)) (by rfl) T.g__law_draw T.F__law_draw.kp T.b__law_draw .nil pass0 (pa_cons (pv 0) (pa_cons pe_int pa_nil)))) (Evl.pss_cut (ps_if (pt_cmpR op_gt (pe_callB call_lenD (by rfl) T.n_len (by decide +kernel) (pa_cons (pv 1) pa_nil)) pe_int (nomark _)) (pss_one (ps_set (i := 4) sc__law_pairs.nd rfl (Or.inl rfl) (pe_call G__law_pick (by exact hr.mono (by decide)) (by rfl) T.g__law_pick T.F__law_pick.kp T.b__law_pick .nil pass0 (pa_cons (pv 0) (pa_cons (pe_callB cr_sorted (by rfl) T.n_sorted (by decide +kernel) (pa_cons (pe_callTy (call_list_dK rfl) (by rfl) T.n_list (by decide +kernel) (pa_cons (pv 1) pa_nil)) pa_nil)) pa_nil))))) pss_nil) (Evl.pss_cut (ps_if (pt_cmpR op_eq (pe_call G__law_draw (by exact hr.mono (by decide)) (by rfl) T.g__law_draw T.F__law_draw.kp T.b__law_draw .nil pass0 (pa_cons (pv 0) (pa_cons pe_int pa_nil))) pe_int (nomark _)) (pss_one (ps_set (i := 4) sc__law_pairs.nd rfl (Or.inl rfl) (pe_call G__law_pick (by exact hr.mono (by decide)) (by rfl) T.g__law_pick T.F__law_pick.kp T.b__law_pick .nil pass0 (pa_cons (pv 0) (pa_cons (pe_lst (pa_cons (pe_un un_neg pe_int) (pa_cons (pe_op op_sub (pe_un un_neg pe_int) (pe_call G__law_draw (by exact hr.mono (by decide)) (by rfl) T.g__law_draw T.F__law_draw.kp T.b__law_draw .nil pass0 (pa_cons (pv 0) (pa_cons pe_int pa_nil)))) (pa_cons (pe_op op_sub pe_int (pe_op op_pow pe_int pe_int)) pa_nil)))) pa_nil))))) pss_nil) (pss_one (ps_dput (by exact hu) (pv 1) (pv 4) (pv 3) rfl))))))) (pss_one (ps_ret (pv 1)))))), ?_⟩
    walk_at "go"
    intro d nd
    generalize hu1 : upd _ d _ = H1
    obtain ⟨e1, hd⟩ := Vc.alloc hu1 nd
    have hB1 := hB.ed0 e1
    have nbd := (hB.fb nd).1
    have ncd := (hB.fb nd).2
    walk_at "go"
    refine ⟨b, c, n, _, rfl, hB1, by omega, by decide, by decide, fun m H2 m0 m9 e2 hB2 => ?_⟩
    have hd2 := e2.at1 nbd.symm hd
    walk_at "go"
    refine ⟨by omega, by omega, for_it walk_range (fun j σ H' => ∃ (y3 : Option V) (l : PL), σ = [some (.ref b), some (.ref d), y3, none, none] ∧ Vc.Ed [b] H H' ∧ Pen H' b c (n + 1 + 3 * j) ∧ H' d = some (.dK (kvsP l)) ∧ PrK l j) ⟨none, [], rfl, (e1.mono fun _ z => nomatch z).trans e2 fun a z => .inl z, hB2, hd2, .nil⟩ (fun _ _ _ _ _ => trivial) ?_ ?_⟩
    · rintro j x σ H3 H4 hj ⟨y3, l, rfl, e3, hB3, hd3, ok⟩ ⟨rfl, rfl⟩
      have jm : j < 9 := by omega
      walk_at "go"
      refine ⟨b, c, _, _, rfl, hB3, by omega, by decide, by decide, fun v H4 v0 v1 e4 hB4 => ?_⟩
      walk_at "go"
      intro q nq
      generalize hu7 : upd _ q _ = H7
      obtain ⟨e7, hq⟩ := Vc.alloc hu7 nq
      have hq : H7 q = some (.lst (([v, 0, 255] : List Int).map V.int)) := hq
      walk_at "go"
      refine ⟨b, c, q, _, _, rfl, hB4.ed0 e7, by omega, hq, (hB4.fb nq).1.symm, (by show 1 ≤ 3; omega), (by show 3 ≤ 1000; omega), fun i u H8 hv e8 hB8 => ?_⟩
      rw [List.getElem?_map] at hv
      obtain ⟨z, hz, rfl⟩ := Option.map_eq_some_iff.mp hv
      have zb : 0 ≤ z ∧ z ≤ 255 := by
        have := List.mem_of_getElem? hz
        simp only [List.mem_cons, List.not_mem_nil, or_false] at this
        omega
      walk_at "go"
      refine ⟨b, c, _, _, rfl, hB8, by omega, by decide, by decide, fun a H9 a0 a1 e9 hB9 => ?_⟩
      have e39 := (e4.ex e7).trans (e8.trans e9 fun a z => .inl z) fun a z => .inl z
      have hd9 := e39.at1 nbd.symm hd3
      walk_at "go"
      refine Vc.go_dputI hd9 (by rw [kvsP_len]; have := ok.few; omega) ?_
      rw [kvsP_put]
      generalize hu10 : upd _ d _ = H10
      obtain ⟨e10, hd10⟩ := Vc.chg hu10 hd9
      exact ⟨_, _, rfl, (e3.trans e39 fun a z => .inl z).one e10 (.inr nd), (hB9.ed1 e10 nbd ncd).up (by omega), hd10, ok.put (by unfold SmallI; omega) a1 (by unfold SmallI; omega)⟩
    rintro σ H3 ⟨y3, l, rfl, e3, hB3, hd3, ok⟩
    have ok8 : PrK l 8 := ok.up (by omega)
    walk_at "go"
    intro q nq
    generalize hu4 : upd _ q _ = H4
    obtain ⟨e4, hq⟩ := Vc.alloc hu4 nq
    have hq : H4 q = some (.lst (([0, 0, 1, 2] : List Int).map V.int)) := hq
    walk_at "go"
    refine ⟨b, c, q, _, _, rfl, hB3.ed0 e4, by omega, hq, (hB3.fb nq).1.symm, (by show 1 ≤ 4; omega), (by show 4 ≤ 1000; omega), fun i u H5 hv e5 hB5 => ?_⟩
    rw [List.getElem?_map] at hv
    obtain ⟨z, hz, rfl⟩ := Option.map_eq_some_iff.mp hv
    have zb : 0 ≤ z ∧ z ≤ 2 := by
      have := List.mem_of_getElem? hz
      simp only [List.mem_cons, List.not_mem_nil, or_false] at this
      omega
    have e05 := (e3.ex e4).trans e5 fun a z => .inl z
    have hd5 := e5.at1 nbd.symm (e4.at0 hd3)
    walk_at "go"
    refine ⟨by omega, by omega, for_it walk_range (fun j σ H' => ∃ (y3 y4 y5 : Option V) (l : PL), σ = [some (.ref b), some (.ref d), y3, y4, y5] ∧ Vc.Ed [b] H H' ∧ Pen H' b c (n + 29 + 10 * j) ∧ H' d = some (.dK (kvsP l)) ∧ PrK l (8 + j)) ⟨y3, none, none, l, rfl, e05, hB5.up (by omega), hd5, ok8⟩ (fun _ _ _ _ _ => trivial) ?_ ?_⟩
    · rintro j x σ H6 H7 hj ⟨y3, y4, y5, l, rfl, e6, hB6, hd6, ok6⟩ ⟨rfl, rfl⟩
      have jm : j < 2 := by omega
      have small : ∀ x : Int, -200 ≤ x → x ≤ 400 → SmallI x := fun x h1 h2 => by unfold SmallI; omega
      have big : SmallI 100000000000000000000000000000 ∧ SmallI (-100000000000000000000000000000) := by unfold SmallI; omega
      walk_at "go"
      refine ⟨b, c, _, _, rfl, hB6, by omega, by decide, by decide, fun v H7 v0 v1 e7 hB7 => ?_⟩
      walk_at "go"
      intro q2 nq2
      generalize hu8 : upd _ q2 _ = H8
      obtain ⟨e8, hq2⟩ := Vc.alloc hu8 nq2
      have hq2 : H8 q2 = some (.lst (([256, -1, 100000000000000000000000000000, -100000000000000000000000000000, 7, 256 + v] : List Int).map V.int)) := hq2
      walk_at "go"
      refine ⟨b, c, q2, _, _, rfl, hB7.ed0 e8, by omega, hq2, (hB7.fb nq2).1.symm, (by show 1 ≤ 6; omega), (by show 6 ≤ 1000; omega), fun i u H9 hv e9 hB9 => ?_⟩
      rw [List.getElem?_map] at hv
      obtain ⟨val, hval, rfl⟩ := Option.map_eq_some_iff.mp hv
      have vb : SmallI val := by
        have := List.mem_of_getElem? hval
        simp only [List.mem_cons, List.not_mem_nil, or_false] at this
        rcases this with rfl | rfl | rfl | rfl | rfl | rfl
        · exact small _ (by omega) (by omega)
        · exact small _ (by omega) (by omega)
        · exact big.1
        · exact big.2
        · exact small _ (by omega) (by omega)
        · exact small _ (by omega) (by omega)
      walk_at "go"
      refine ⟨b, c, _, _, rfl, hB9, by omega, by decide, by decide, fun a H10 a0 a1 e10 hB10 => ?_⟩
      have e610 := (e7.ex e8).trans (e9.trans e10 fun a z => .inl z) fun a z => .inl z
      have hd10 := e610.at1 nbd.symm hd6
      have e0A := e6.trans e610 fun a z => .inl z
      walk_at "go"
      refine Evl.q_cut (M := fun σ H' => ∃ (a : Int) (y3 : Option V), σ = [some (.ref b), some (.ref d), y3, some (.int val), some (.int a)] ∧ Vc.Ed [b] H H' ∧ Pen H' b c (n + 29 + 10 * j + 5) ∧ H' d = some (.dK (kvsP l)) ∧ SmallI a ∧ a < 24) ?_ ?_
      · walk_at "go"
        rw [kvsP_len]
        refine Vc.go_ite (fun g => ?_) (fun g => ?_)
        · walk_at "go"
          intro q3 nq3
          generalize hu11 : upd _ q3 _ = H11
          obtain ⟨e11, hq3⟩ := Vc.alloc hu11 nq3
          rw [keys_kvsP] at hq3
          walk_at "go"
          refine Vc.go_sorted (.of hq3) (by rw [List.length_map]; have := ok6.few; omega) fun ms o perm srt no => ?_
          generalize hu12 : upd _ o _ = H12
          obtain ⟨e12, ho⟩ := Vc.alloc hu12 no
          have hB12 := (hB10.ed0 e11).ed0 e12
          have ml : ms.length = l.length := by rw [perm.length_eq, List.length_map]
          walk_at "go"
          refine ⟨b, c, o, _, _, rfl, hB12, by omega, ho, ((hB10.ed0 e11).fb no).1.symm, (by rw [List.length_map]; omega), (by rw [List.length_map]; have := ok6.few; omega), fun i u H13 hv e13 hB13 => ?_⟩
          rw [List.getElem?_map] at hv
          obtain ⟨a', ha', rfl⟩ := Option.map_eq_some_iff.mp hv
          obtain ⟨q, hq, rfl⟩ := List.mem_map.mp (perm.mem_iff.mp (List.mem_of_getElem? ha'))
          have hd13 := e13.at1 nbd.symm (e12.at0 (e11.at0 hd10))
          walk_at "go"
          exact ⟨_, _, rfl, ((e0A.ex e11).ex e12).trans e13 fun a z => .inl z, hB13.up (by omega), hd13, (ok6.lo q hq).1, (ok6.lo q hq).2⟩
        · walk_at "go"
          exact ⟨_, _, rfl, e0A, hB10.up (by omega), hd10, small a (by omega) (by omega), a1⟩
      rintro σ H11 ⟨a, y3, rfl, e11, hB11, hd11, as, a24⟩
      refine Evl.q_cut (M := fun σ H' => ∃ (a : Int) (y3 : Option V), σ = [some (.ref b), some (.ref d), y3, some (.int val), some (.int a)] ∧ Vc.Ed [b] H H' ∧ Pen H' b c (n + 29 + 10 * j + 8) ∧ H' d = some (.dK (kvsP l)) ∧ SmallI a ∧ a < 24) ?_ ?_
      · walk_at "go"
        refine ⟨b, c, _, _, rfl, hB11, by omega, by decide, by decide, fun z H12 z0 z1 e12 hB12 => ?_⟩
        have hd12 := e12.at1 nbd.symm hd11
        walk_at "go"
        refine Vc.go_ite (fun g => ?_) (fun g => ?_)
        · walk_at "go"
          refine ⟨b, c, _, _, rfl, hB12, by omega, by decide, by decide, fun v2 H13 w0 w1 e13 hB13 => ?_⟩
          walk_at "go"
          intro q4 nq4
          generalize hu14 : upd _ q4 _ = H14
          obtain ⟨e14, hq4⟩ := Vc.alloc hu14 nq4
          have hq4 : H14 q4 = some (.lst (([-1, -2 - v2, -100000000000000000000000000000] : List Int).map V.int)) := hq4
          walk_at "go"
          refine ⟨b, c, q4, _, _, rfl, hB13.ed0 e14, by omega, hq4, (hB13.fb nq4).1.symm, (by show 1 ≤ 3; omega), (by show 3 ≤ 1000; omega), fun i u H15 hv e15 hB15 => ?_⟩
          rw [List.getElem?_map] at hv
          obtain ⟨a', ha', rfl⟩ := Option.map_eq_some_iff.mp hv
          have ab : SmallI a' ∧ a' < 24 := by
            have := List.mem_of_getElem? ha'
            simp only [List.mem_cons, List.not_mem_nil, or_false] at this
            rcases this with rfl | rfl | rfl
            · exact ⟨small _ (by omega) (by omega), by omega⟩
            · exact ⟨small _ (by omega) (by omega), by omega⟩
            · exact ⟨big.2, by omega⟩
          have e1215 := (e12.trans e13 fun a z => .inl z).ex e14 |>.trans e15 fun a z => .inl z
          walk_at "go"
          exact ⟨_, _, rfl, e11.trans e1215 fun a z => .inl z, hB15.up (by omega), e1215.at1 nbd.symm hd11, ab.1, ab.2⟩
        · walk_at "go"
          exact ⟨_, _, rfl, e11.trans e12 fun a z => .inl z, hB12.up (by omega), hd12, as, a24⟩
      rintro σ H12 ⟨a, y3, rfl, e12, hB12, hd12, as, a24⟩
      walk_at "go"
      refine Vc.go_dputI hd12 (by rw [kvsP_len]; have := ok6.few; omega) ?_
      rw [kvsP_put]
      generalize hu13 : upd _ d _ = H13
      obtain ⟨e13, hd13⟩ := Vc.chg hu13 hd12
      exact ⟨_, _, _, _, rfl, e12.one e13 (.inr nd), (hB12.ed1 e13 nbd ncd).up (by omega), hd13, ok6.put as a24 vb⟩
    · rintro σ H6 ⟨y3, y4, y5, l, rfl, e6, hB6, hd6, ok6⟩
      walk_at "go"
      exact k d l H6 e6 (hB6.up (by omega)) nd hd6 (ok6.up (by omega))
end

end My
namespace My
open PySem PySem.Spec PyProof.Rows L2
/-! ### patches and images in a walk: made, compared, shown -/
theorem PBad.uniq {l : PL} {b b' : Bool} {a a' : Int} (h : PBad l b a) (h' : PBad l b' a') : b = b' ∧ a = a' := by
  cases h with
  | addr a h n lo =>
    cases h' with
    | addr a' h' n' lo' => exact ⟨rfl, Int.le_antisymm (lo a' h') (lo' a h)⟩
    | byte q hq p n' lo' =>
      have := p a h
      omega
  | byte q hq p n lo =>
    cases h' with
    | addr a' h' n' lo' =>
      have := p a' h'
      omega
    | byte q' hq' p' n' lo' =>
      refine ⟨rfl, ?_⟩
      rcases Int.lt_trichotomy q.1 q'.1 with h | h | h
      · exact (n (lo' q hq h)).elim
      · exact h
      · exact (n' (lo q' hq' h)).elim
theorem PBad.key {l : PL} {b : Bool} {a : Int} (h : PBad l b a) : a ∈ l.map (·.1) := by
  cases h with
  | addr a h n lo => exact h
  | byte q h p n lo => exact List.mem_map.mpr ⟨q, h, rfl⟩
theorem mk_image {A : Ad} {K : PySem.W.Frag} {H : Hp} {R : Addr → Hp → Prop} {E : XK} {h : Addr} {vals : List Int} (hh : H h = some (.lst (vals.map V.int))) (vl : vals.length ≤ 1000) (by_ : ∀ v ∈ vals, 0 ≤ v ∧ v ≤ 255) (k : ∀ g il H', Vc.Ed [] H H' → H g = none → H il = none → ImgAt A H' g il vals → R g H') :
    ∀ x dx, H x = none → H dx = none → dx ≠ x → spImgInit A K (.ref x :: [.ref h]) (upd (upd H dx (.own x)) x (.ins A.C_Image dx [])) (fun v H2 => v = .non ∧ R x H2) E := by
  intro x dx nx ndx ne
  generalize hu : upd (upd H dx (.own x)) x (.ins A.C_Image dx []) = H1
  obtain ⟨e1, h1, _⟩ := Vc.allocI hu nx ndx ne
  exact ⟨x, dx, h, vals, rfl, h1, .inl (.of (e1.at0 hh)), vl, by_, fun il H2 e2 nil Z => ⟨rfl, k x il H2 (e1.trans e2 fun a ha => .inr (by rw [List.mem_singleton.mp ha]; exact nx)) nx (e1.dom _ nil) Z⟩⟩
theorem SmallI.ab {x : Int} (h : SmallI x) : x.natAbs < 10 ^ 31 := by
  obtain ⟨h1, h2⟩ := h
  have : (10 : Nat) ^ 31 = 10000000000000000000000000000000 := by decide
  omega
theorem pr_fits {l : PL} (h : ∀ q ∈ l, SmallI q.1 ∧ SmallI q.2) (ln : l.length ≤ 40) : Vc.Fits (.list [prD l]) := by
  refine Vc.Fw.fits (w := 4000) (k := 4) (Vc.fw_lst (w := 3500) (k := 2) (Vc.fw_cons (Vc.fw_lst (w := 80) (k := 1) (fun x hx => ?_) ?_) Vc.fw_nil) (by show 1 * (3500 + 2) + 4 ≤ 4000; decide) |>.mono (by decide) (by decide))
  · obtain ⟨q, hq, rfl⟩ := List.mem_map.mp hx
    exact Vc.fw_tup (w := 32) (k := 0) (Vc.fw_cons (Vc.fw_int 31 (h q hq).1.ab) (Vc.fw_cons (Vc.fw_int 31 (h q hq).2.ab) Vc.fw_nil)) (by show 2 * (32 + 2) + 4 ≤ 80; decide)
  · rw [List.length_map]
    exact Nat.le_trans (Nat.add_le_add_right (Nat.mul_le_mul_right _ ln) _) (by decide)
def WErr.Sm : WErr → Prop
  | .addr a => SmallI a
  | .byte a => SmallI a
  | .len a b => SmallI a ∧ SmallI b
theorem werr_fits (e : WErr) (h : e.Sm) : Vc.Fits e.d := by
  cases e with
  | addr a => exact Vc.Fw.fits (Vc.fw_tup (w := 100) (k := 0) (Vc.fw_cons (Vc.fw_str (z := ("address" : Str)) (n := 7) ⟨by decide, by decide⟩) (Vc.fw_cons (Vc.fw_int 31 (show SmallI a from h).ab) Vc.fw_nil)) (by decide : 2 * (100 + 2) + 4 ≤ 300))
  | byte a => exact Vc.Fw.fits (Vc.fw_tup (w := 100) (k := 0) (Vc.fw_cons (Vc.fw_str (z := ("byte" : Str)) (n := 4) ⟨by decide, by decide⟩) (Vc.fw_cons (Vc.fw_int 31 (show SmallI a from h).ab) Vc.fw_nil)) (by decide : 2 * (100 + 2) + 4 ≤ 300))
  | len a b => exact Vc.Fw.fits (Vc.fw_tup (w := 100) (k := 0) (Vc.fw_cons (Vc.fw_str (z := ("lengths" : Str)) (n := 7) ⟨by decide, by decide⟩) (Vc.fw_cons (Vc.fw_int 31 (show SmallI a ∧ SmallI b from h).1.ab) (Vc.fw_cons (Vc.fw_int 31 (show SmallI a ∧ SmallI b from h).2.ab) Vc.fw_nil))) (by decide : 3 * (100 + 2) + 4 ≤ 400))
theorem one_fits {a : Int} (h : SmallI a) : Vc.Fits (.list [.int a]) := Vc.Fw.fits (w := 100) (k := 1) (Vc.fw_lst (w := 40) (k := 0) (Vc.fw_cons (Vc.fw_int 31 h.ab) Vc.fw_nil) (by decide : 1 * (40 + 2) + 4 ≤ 100) |>.mono (by decide) (by decide))
/-- the error that says which pair is bad -/
def badE (b : Bool) (a : Int) : WErr := if b = true then .addr a else .byte a
theorem badE_tup (b : Bool) (a : Int) : (badE b a).tup = [.str (if b = true then "address" else "byte"), .int a] := by cases b <;> rfl
theorem badE_cls (A : Ad) (b : Bool) (a : Int) : (badE b a).cls A = if b = true then A.C_BadAddress else A.C_BadByte := by cases b <;> rfl
theorem badE_fld (b : Bool) (a : Int) : (badE b a).fld = ([("at", .int a)] : List (Str × V)) := by cases b <;> rfl
theorem badE_fits {b : Bool} {a : Int} (h : SmallI a) : Vc.Fits (badE b a).d := by
  refine werr_fits _ ?_
  cases b <;> exact h
theorem WErr.dp {K : PySem.W.Frag} {H : Hp} {t : Addr} (e : WErr) (h : H t = some (.tup e.tup)) : Dp K H (.ref t) e.d := by
  cases e with
  | addr a => exact .tup (.inl (.of h)) (.cons (.str _) (.cons (.int _) .nil))
  | byte a => exact .tup (.inl (.of h)) (.cons (.str _) (.cons (.int _) .nil))
  | len a b => exact .tup (.inl (.of h)) (.cons (.str _) (.cons (.int _) (.cons (.int _) .nil)))
theorem Pen.edx {H H' : Hp} {b c : Addr} {n : Nat} (e : Vc.EdX [] H H') (h : Pen H b c n) : Pen H' b c n := by
  obtain ⟨ns, a, r, B, l⟩ := h
  exact ⟨ns, a, r, ⟨e.at0 B.ob, e.at0 B.cl, B.len, B.a0, B.r0⟩, l⟩
theorem PrsAt.edx {H H' : Hp} {L : Addr} {l : PL} (h : PrsAt H L l) (e : Vc.EdX [] H H') : PrsAt H' L l := by
  obtain ⟨ts, h1, h2, h3⟩ := h
  exact ⟨ts, e.at0 h1, h2, fun j t q a b => e.tup _ _ (h3 j t q a b)⟩
theorem Given.edx {A : Ad} {K : PySem.W.Frag} {H H' : Hp} {h : Addr} {vals : List Int} (e : Vc.EdX [] H H') (X : Given A K H h vals) : Given A K H' h vals := by
  rcases X with X | X | ⟨l, ⟨dx, X⟩, Y⟩
  · exact .inl (e.sql (fun z => nomatch z) X)
  · exact .inr (.inl (e.sqt X))
  · exact .inr (.inr ⟨l, ⟨dx, e.at0 X⟩, e.at0 Y⟩)
theorem theard_split {A : Ad} {tl : XK → Hp → VK → Prop} {H : Hp} {Q : VK} (F : V → Hp → Prop) (main : THeard A tl H F) (tail : ∀ v H', F v H' → Q v H') : THeard A tl H Q := fun E R hE hR =>
  main E R (fun cls d H' ⟨e, dd, h1, h2, h3, h4⟩ => hE cls d H' ⟨e, dd, h1, h2, h3, fun p H'' e' hp => tail _ _ (h4 p H'' e' hp)⟩) (fun v H' h => hR v H' fun p H'' e' hp => tail _ _ (h p H'' e' hp))
section
variable {K : PySem.W.Frag} {mg : Str → Option Value} {A : Ad} {H : Hp} {Q : VK} {p q d e : Addr} {l m : PL}
theorem eq_patch (T : Txt K mg A) (X : PatAt A H p d l) (Y : PatAt A H q e m) (k : Q (.bl (Vc.eqI l m)) H) : Vc.rEqO K A.C_Patch (spPatEq A K) (.ref p) (.ref q) H Q := by
  obtain ⟨⟨dx, hp⟩, _⟩ := id X
  obtain ⟨⟨dy, hq⟩, _⟩ := id Y
  exact Vc.go_eqO hp (Vc.ty_ins hq T.ic_Patch) T.nf_Patch_Patch ⟨p, d, l, .ref q, rfl, X, .inl ⟨q, e, m, rfl, Y, _, rfl, k⟩⟩
theorem eq_other {y : V} {t : Value} (X : PatAt A H p d l) (ty : TyX K H y t) (nf : PySem.W.notFirst K A.C_Patch t = true) (kt : PySem.W.kitOne K t (.ref A.C_Patch) = some false) (k : Q (.bl false) H) : Vc.rEqO K A.C_Patch (spPatEq A K) (.ref p) y H Q := by
  obtain ⟨⟨dx, hp⟩, _⟩ := id X
  exact Vc.go_eqO hp ty nf ⟨p, d, l, y, rfl, X, .inr ⟨t, ty, kt, _, rfl, k⟩⟩
end
theorem prs_paired {K : PySem.W.Frag} {H : Hp} : ∀ (ts : List Addr) (l : PL), ts.length = l.length → (∀ (j : Nat) (t : Addr) (q : Int × Int), ts[j]? = some t → l[j]? = some q → H t = some (.tup [.int q.1, .int q.2])) → Paired (fun p kv => SqT K H p [kV kv.1, kv.2]) ts (kvsP l)
  | [], [], _, _ => .nil
  | t :: ts, q :: l, e, h => .cons (.inl (.inl (h 0 t q rfl rfl))) (prs_paired ts l (Nat.succ.inj e) fun j t q a b => h (j + 1) t q a b)

end My
namespace My
open PySem PySem.Spec PyProof.Rows L2
/-! ### a patch looked at, with odd values -/
inductive Odd (H : Hp) : V → Prop where
  | non : Odd H .non
  | bl (b : Bool) : Odd H (.bl b)
  | str (x : Str) : Odd H (.str x)
  | tup {a : Addr} {xs : List V} (h : H a = some (.tup xs)) : Odd H (.ref a)
  | lst {a : Addr} {xs : List V} (h : H a = some (.lst xs)) : Odd H (.ref a)
  | dk {a : Addr} {kvs : List (Key × V)} (h : H a = some (.dK kvs)) : Odd H (.ref a)
theorem Odd.edx {H H' : Hp} {v : V} (h : Odd H v) (e : Vc.EdX [] H H') : Odd H' v := by
  cases h with
  | non => exact .non
  | bl b => exact .bl b
  | str x => exact .str x
  | tup h => exact .tup (e.at0 h)
  | lst h => exact .lst (e.at0 h)
  | dk h => exact .dk (e.at0 h)
theorem Odd.not {K : PySem.W.Frag} {H : Hp} {v : V} (h : Odd H v) : NotInt K H v := by
  cases h with
  | non => exact .inr ⟨_, .base .non, by decide +kernel⟩
  | bl b => exact .inl ⟨b, rfl⟩
  | str x => exact .inr ⟨_, .base (.str _), by decide +kernel⟩
  | tup h => exact .inr ⟨_, .base (.tup h), by decide +kernel⟩
  | lst h => exact .inr ⟨_, .base (.lst h), by decide +kernel⟩
  | dk h => exact .inr ⟨_, .base (.dK h), by decide +kernel⟩
def OddOr (H : Hp) (v : V) : Prop := (∃ a, v = .int a ∧ SmallI a) ∨ Odd H v
def spOdd : Sp := fun vs H Q _ => vs = [] ∧ ∀ L xs H', Vc.Ed [] H H' → H L = none → H' L = some (.lst xs) → xs.length ≤ 13 → (∀ v ∈ xs, OddOr H' v) → Q (.ref L) H'
abbrev lamK : Str := ((("_law_looked" : Str) ++ (".<locals>." : Str)) ++ ("<lambda>" : Str))
def spLooked (A : Ad) (Tb : List (Addr × Str)) : Sp := fun vs H Q _ => ∃ (p pd d : Addr) (l l0 : PL), vs = [.ref p, .ref d] ∧ PatAt A H p pd l ∧ H d = some (.dK (kvsP l0)) ∧ Asc l l0 ∧ PrK l0 10 ∧ LamX.Tabs Tb H ∧ ∀ H', Vc.EdX [] H H' → LamX.Tabs Tb H' → Q (.bl true) H'
theorem ints_fits {ns : List Int} (h : ∀ x ∈ ns, SmallI x) (ln : ns.length ≤ 40) : Vc.Fits (.list (ns.map .int)) := by
  refine Vc.Fw.fits (w := 4000) (k := 1) (Vc.fw_lst (w := 32) (k := 0) (fun x hx => ?_) ?_)
  · obtain ⟨q, hq, rfl⟩ := List.mem_map.mp hx
    exact Vc.fw_int 31 (h q hq).ab
  · rw [List.length_map]
    exact Nat.le_trans (Nat.add_le_add_right (Nat.mul_le_mul_right _ ln) _) (by decide)
theorem dp_lst {K : PySem.W.Frag} {H : Hp} {p : Addr} {ns : List Int} (h : H p = some (.lst (ns.map V.int))) : Dp K H (.ref p) (.list (ns.map PyData.int)) := .lst (.of h) (dp_ints ns)
theorem rg_mem {v : V} {n : Int} (h : v ∈ rgV 0 n) : ∃ i : Int, v = .int i ∧ 0 ≤ i ∧ i < n := by
  unfold rgV at h
  obtain ⟨i, hi, rfl⟩ := List.mem_map.mp h
  have := List.mem_range.mp hi
  exact ⟨_, rfl, by omega, by omega⟩
section
variable {P : Program} {w : World} {K : PySem.W.Frag} {mg : Str → Option Value} {base : Heap} {A : Ad}
theorem ok__law_odd (T : Txt K mg A) : FnOk P w K mg base CX0 1 A.f__law_odd A.d__law_odd [] spOdd := by
  refine T.F__law_odd.ok sc__law_odd (fun vs H Q E h => ?_) (fun cdv Ar outer s H vs Q E hr h => ?_)
  · obtain ⟨rfl, _⟩ := h
    rfl
  · obtain ⟨rfl, k⟩ := h
    have hu := hu_of hr
    refine ⟨_, (pss_one (ps_ret (pe_lst (pa_cons pe_non (pa_cons pe_bl (pa_cons pe_bl (pa_cons pe_str (pa_cons pe_str (pa_cons (pe_tup (pa_cons pe_int pa_nil)) (pa_cons (pe_lst (pa_cons pe_int pa_nil)) (pa_cons (pe_lst pa_nil) (pa_cons pe_dnewK (pa_cons (pe_disp (pps_cons pe_int pe_int pps_nil) (by rfl) (by rfl) (fun z => by cases z) (by decide)) (pa_cons (pe_un un_neg pe_int) (pa_cons pe_int (pa_cons (pe_op op_pow pe_int pe_int) pa_nil)))))))))))))))), ?_⟩
    walk_at "go"
    intro t nt
    generalize hu1 : upd _ t _ = H1
    obtain ⟨e1, ht⟩ := Vc.alloc hu1 nt
    walk_at "go"
    intro a na
    generalize hu2 : upd _ a _ = H2
    obtain ⟨e2, ha⟩ := Vc.alloc hu2 na
    walk_at "go"
    intro b nb
    generalize hu3 : upd _ b _ = H3
    obtain ⟨e3, hb⟩ := Vc.alloc hu3 nb
    walk_at "go"
    intro c nc
    generalize hu4 : upd _ c _ = H4
    obtain ⟨e4, hc⟩ := Vc.alloc hu4 nc
    walk_at "go"
    intro d nd
    generalize hu5 : upd _ d _ = H5
    obtain ⟨e5, hd⟩ := Vc.alloc hu5 nd
    walk_at "go"
    refine ⟨hd, [(.inl 0, .int 1)], rfl, by decide, ?_⟩
    generalize hu5' : upd _ d _ = H5'
    obtain ⟨e5', hd⟩ := Vc.chg hu5' hd
    have e5 : Vc.Ed [] H4 H5' := e5.one e5' (.inr nd)
    walk_at "go"
    intro L nL
    generalize hu6 : upd _ L _ = H6
    obtain ⟨e6, hL⟩ := Vc.alloc hu6 nL
    have e05 := ((e1.ex e2).ex e3).ex (e4.ex e5)
    walk_at "go"
    refine k L _ H6 (e05.ex e6) (e05.dom _ nL) hL (by show 13 ≤ 13; omega) fun v hv => ?_
    have f1 : ∀ {x : Addr} {o : List V}, H1 x = some (.tup o) → H6 x = some (.tup o) := fun h => e6.at0 (e5.at0 (e4.at0 (e3.at0 (e2.at0 h))))
    simp only [List.mem_cons, List.not_mem_nil, or_false] at hv
    rcases hv with rfl | rfl | rfl | rfl | rfl | rfl | rfl | rfl | rfl | rfl | rfl | rfl | rfl
    · exact .inr .non
    · exact .inr (.bl _)
    · exact .inr (.bl _)
    · exact .inr (.str _)
    · exact .inr (.str _)
    · exact .inr (.tup (f1 ht))
    · exact .inr (.lst (e6.at0 (e5.at0 (e4.at0 (e3.at0 ha)))))
    · exact .inr (.lst (e6.at0 (e5.at0 (e4.at0 hb))))
    · exact .inr (.dk (e6.at0 (e5.at0 hc)))
    · exact .inr (.dk (e6.at0 hd))
    · exact .inl ⟨_, rfl, by unfold SmallI; omega⟩
    · exact .inl ⟨_, rfl, by unfold SmallI; omega⟩
    · exact .inl ⟨1000000000000000000000000000000, rfl, by unfold SmallI; omega⟩
end
section
variable {w : World} {K : PySem.W.Frag} {mg : Str → Option Value} {base : Heap} {A : Ad} {Tb : List (Addr × Str)} {cL PL_ : Addr}
theorem go_lstRg1 {ta : TE} {σ : L2.St} {H : Hp} {Q : VK} (h : ta σ H fun x H1 => ∃ n, x = .int n ∧ RgOk 0 n ∧ ∀ q, H1 q = none → Q (.ref q) (upd H1 q (.lst (rgV 0 n)))) : tLstRg (tRg1 ta) σ H Q := h
theorem ok__law_looked (T : Txt K mg A) (LM : Vc.LamAt K mg base Tb A.f__law_looked lamK cL PL_) : Vc.FnG PG w K mg base CX0 12 A.f__law_looked A.d__law_looked ["_law_patch", "_law_pairs_here"] (spLooked A Tb) := by
  have G_Patchu_getitemu := ok_Patchu_getitemu (w := w) (base := base) T
  have G_Patchu_containsu := ok_Patchu_containsu (P := PG) (w := w) (base := base) T
  have G_Patchu_lenu := ok_Patchu_lenu (P := PG) (w := w) (base := base) T
  have G_Patch_addresses := ok_Patch_addresses (P := PG) (w := w) (base := base) T
  have G__law_odd := ok__law_odd (P := PG) (w := w) (base := base) T
  refine Vc.Fun.okGL T.F__law_looked LM.co sc__law_looked (fun vs H Q E h => ?_) (fun Ar outer s H vs Q E hgd hr h => ?_)
  · obtain ⟨p, pd, d, l, l0, rfl, _⟩ := h
    rfl
  · obtain ⟨p, pd, d, l, l0, rfl, X, hd, asc, ok0, tabs, k⟩ := h
    have hu := hu_of hr
    have few := ok0.few
    have ll := asc.pm.length_eq
    have nd := asc_nodup asc.pw
    refine ⟨_, (pss_cons (ps_for PassesOwn.never rfl (pi_list (pe_op op_cat (pe_listRg rfl (by rfl) T.n_list (prg_1 (by rfl) T.n_range pe_int)) (pe_call0 G__law_odd (by exact hr.mono (by decide)) (by rfl) T.g__law_odd T.F__law_odd.kp T.b__law_odd .nil pass0))) (pg_name (i := 2) sc__law_looked.nd rfl (Or.inr rfl)) (pss_cons (ps_set (i := 3) sc__law_looked.nd rfl (Or.inl rfl) (pe_and (pe_callB call_isi (by rfl) T.n_isinstance (by decide +kernel) (pa_cons (pv 2) (pa_cons (pe_bltn (v := .ty "int") (by rfl) T.n_int (by decide +kernel) rfl) pa_nil))) (pe_and (pe_not (pe_callB call_isi (by rfl) T.n_isinstance (by decide +kernel) (pa_cons (pv 2) (pa_cons (pe_bltn (v := .ty "bool") (by rfl) T.n_bool (by decide +kernel) rfl) pa_nil)))) (pe_one (pe_cmp (pc_din (by exact hu) (pv 2) (pv 1)) rfl))))) (pss_cons (ps_if (pt_cmpR op_ne (pe_cmpR (Vc.op_inO G_Patchu_containsu (by exact hr.mono (by decide)) T.sp_Patch_Patchu_containsu T.b_Patchu_containsu) (pv 2) (pv 0) (by rfl)) (pv 3) (nomark _)) (pss_one (ps_ret pe_bl)) pss_nil) (pss_one (ps_if (PW.pt (pw_and (pt_val (pe_callB call_isi (by rfl) T.n_isinstance (by decide +kernel) (pa_cons (pv 2) (pa_cons (pe_bltn (v := .ty "int") (by rfl) T.n_int (by decide +kernel) rfl) pa_nil)))) (pw_and1 (pt_not (pt_val (pe_callB call_isi (by rfl) T.n_isinstance (by decide +kernel) (pa_cons (pv 2) (pa_cons (pe_bltn (v := .ty "bool") (by rfl) T.n_bool (by decide +kernel) rfl) pa_nil)))))))) (pss_cons (ps_set (i := 4) sc__law_looked.nd rfl (Or.inl rfl) (pe_tup (pa_cons pe_str (pa_cons (pv 2) pa_nil)))) (pss_cons (ps_if (pt_val (pv 3)) (pss_one (ps_set (i := 4) sc__law_looked.nd rfl (Or.inl rfl) (pe_lst (pa_cons (pe_dget (by exact hu) (pv 1) (pv 2) (fun _ _ => rfl)) pa_nil)))) pss_nil) (pss_one (ps_if (pt_cmpR op_ne (pe_callB (Vc.call_reprD hgd (Vc.room64 hr)) (by rfl) T.n_repr (by decide +kernel) (pa_cons (Vc.pe_lamS (t := fun E => Vc.tIxO A.C_Patch (spPatGet A) (fun _ => E) (tVar 0) (tVar 2)) (T := Tb) (j := 9) (k := 8) T.F__law_heard (by rfl) T.g__law_heard T.b__law_heard sc__law_heard (by rfl) (.inl rfl) (fun cdg => gives__law_heard T cdg) LM.tb rfl LM.me LM.un (by exact hr.mono (by decide)) (by decide) (LamX.lamS_by (sc := defScope s__law_looked) (by decide +kernel)) rfl (fun _ _ _ _ _ => rfl) (fun A9 outer9 s9 H9 E9 f9 c9 hrl => (Vc.pe_ixO (pv 0) (pv 2) T.sp_Patch_Patchu_getitemu T.spf_Patchu_getitemu G_Patchu_getitemu (by exact hrl.mono (by decide)) T.b_Patchu_getitemu (fun σ => passAt (takes_of rfl rfl rfl rfl) σ)))) pa_nil)) (pe_callB (Vc.call_reprD hgd (Vc.room64 hr)) (by rfl) T.n_repr (by decide +kernel) (pa_cons (pv 4) pa_nil)) (nomark _)) (pss_one (ps_ret pe_bl)) pss_nil)))) pss_nil))))) (pss_cons (ps_set (i := 5) sc__law_looked.nd rfl (Or.inl rfl) (pe_meth0 (pv 0) T.cl_Patch T.m_Patch_addresses G_Patch_addresses (by exact hr.mono (by decide)) T.b_Patch_addresses .nil pass0)) (pss_cons (ps_expr (pe_bm PySem.F.plainAttrs_list PySem.F.slot_list_append PySem.F.type_list_append mt_append (pv 5) (pa_cons pe_int pa_nil))) (pss_cons (ps_expr (pe_bm0 PySem.F.plainAttrs_list PySem.F.slot_list_reverse PySem.F.type_list_reverse mt_reverse (pv 5))) (pss_one (ps_ret (pe_and (pe_cmpR op_eq (pe_callB (Vc.call_lenO G_Patchu_lenu (by exact hr.mono (by decide)) T.sp_Patch_Patchu_lenu T.b_Patchu_lenu) (by rfl) T.n_len (by decide +kernel) (pa_cons (pv 0) pa_nil)) (pe_callB call_lenD (by rfl) T.n_len (by decide +kernel) (pa_cons (pv 1) pa_nil)) (nomark _)) (pe_one (pe_cmpR op_eq (pe_callB (Vc.call_reprD hgd (Vc.room64 hr)) (by rfl) T.n_repr (by decide +kernel) (pa_cons (pe_meth0 (pv 0) T.cl_Patch T.m_Patch_addresses G_Patch_addresses (by exact hr.mono (by decide)) T.b_Patch_addresses .nil pass0) pa_nil)) (pe_callB (Vc.call_reprD hgd (Vc.room64 hr)) (by rfl) T.n_repr (by decide +kernel) (pa_cons (pe_callB cr_sorted (by rfl) T.n_sorted (by decide +kernel) (pa_cons (pe_callTy (call_list_dK rfl) (by rfl) T.n_list (by decide +kernel) (pa_cons (pv 1) pa_nil)) pa_nil)) pa_nil)) (nomark _)))))))))), ?_⟩
    walk_at "go"
    refine go_lstRg1 ?_
    walk_at "go"
    refine ⟨RgOk.of_le (by omega) (by omega) (by omega) (by omega), fun R nR => ?_⟩
    generalize hu1 : upd _ R _ = H1
    obtain ⟨e1, hR⟩ := Vc.alloc hu1 nR
    walk_at "go"
    refine ⟨rfl, fun L xs H2 e2 nL hL xl hxs => ?_⟩
    have hR2 := e2.at0 hR
    refine Vc.go_cat hR2 hL (by rw [rgV_length]; show 24 + _ ≤ 1000; omega) fun Z nZ => ?_
    generalize hu3 : upd _ Z _ = H3
    obtain ⟨e3, hZ⟩ := Vc.alloc hu3 nZ
    have e03 := (e1.ex e2).ex e3
    have X3 := X.ed0 e03
    have hd3 := e03.at0 hd
    have tabs3 := Vc.tabs_ed0 tabs e03
    have mem : ∀ v ∈ rgV 0 24 ++ xs, OddOr H3 v := fun v hv => by
      rcases List.mem_append.mp hv with h | h
      · obtain ⟨i, rfl, h1, h2⟩ := rg_mem h
        exact .inl ⟨i, rfl, by unfold SmallI; omega⟩
      · rcases hxs v h with ⟨a, e, h⟩ | h
        · exact .inl ⟨a, e, h⟩
        · exact .inr (h.edx (.of e3))
    generalize hzs : rgV 0 24 ++ xs = zs at mem hZ
    have k3 : ∀ H', Vc.EdX [] H3 H' → LamX.Tabs Tb H' → Q (.bl true) H' := fun H' e => k H' ((Vc.EdX.of e03).ex e)
    clear k tabs e03 e1 e2 e3 X hd hR hR2 hL hxs xl nZ nR nL hzs hu1 hu3
    walk_at "go"
    refine ⟨⟨_, .of hZ⟩, for_list (xs := zs) (fun j σ H' => (∃ y2 y3 y4 : Option V, σ = [some (.ref p), some (.ref d), y2, y3, y4, none]) ∧ Vc.EdX [] H3 H' ∧ LamX.Tabs Tb H') ⟨⟨none, none, none, rfl⟩, .refl, tabs3⟩ (fun j σ H' _ q => .of (q.2.1.at0 hZ)) ?_ ?_⟩
    · rintro j v σ H4 hj ⟨⟨y2, y3, y4, rfl⟩, e4, tabs4⟩
      have hv := mem v (List.mem_of_getElem? hj)
      have X4 := X3.edx e4
      have hd4 := e4.at0 hd3
      obtain ⟨dx, hp4⟩ := id X4.ob
      have cl := T.cl_Patch
      rcases hv with ⟨a, rfl, sa⟩ | ho
      · have ck : a ∈ l.map (·.1) ↔ a ∈ l0.map (·.1) := asc.keys
        walk_at "go"
        rw [valP_is]
        refine ⟨p, pd, l, .int a, rfl, X4, .inl ⟨a, rfl, _, rfl, ?_⟩⟩
        by_cases c : a ∈ l0.map (·.1)
        · rw [decide_eq_true c, decide_eq_true (ck.mpr c)]
          obtain ⟨q, hq, rfl⟩ := List.mem_map.mp c
          have hv := valP_mem ok0.nd hq
          walk_at "go"
          rw [if_neg (by decide)]
          walk_at "go"
          intro t nt
          generalize hu5 : upd _ t _ = H5
          obtain ⟨e5, ht⟩ := Vc.alloc hu5 nt
          have hd5 := e5.at0 hd4
          walk_at "go"
          intro L2 nL2
          generalize hu6 : upd _ L2 _ = H6
          obtain ⟨e6, hL2⟩ := Vc.alloc hu6 nL2
          have e46 := e5.ex e6
          have X6 := X4.ed0 e46
          have tabs6 := Vc.tabs_ed0 tabs4 e46
          have e36 := e4.ex (.of e46)
          clear e46 e5 e6 hd5 ht nt nL2 hu5 hu6 hd4 X4 hp4
          walk_at "go"
          refine Vc.go_lam tabs6 fun H7 e7 tabs7 => ?_
          have X7 := X6.edx e7
          obtain ⟨dx7, hp7⟩ := id X7.ob
          refine theard_split (fun v H' => ∃ t, v = .ref t ∧ Vc.EdX [] H6 H' ∧ LamX.Tabs Tb H' ∧ H' t = some (.lst [.int q.2])) ?_ ?_
          · intro E9 R9 hE hR
            walk_at "go"
            refine ⟨p, pd, l, q.1, rfl, X7, nd, fun z => (z (ck.mpr c)).elim, fun q' hq' eq' => ?_⟩
            obtain rfl : q' = q := inj_on_nd nd hq' (asc.pm.mem_iff.mpr hq) eq'
            exact hR _ _ fun t H8 e8 ht => ⟨t, rfl, e7.ex (.of e8), Vc.tabs_ed0 tabs7 e8, ht⟩
          clear X7 hp7 e7 tabs7 X6
          rintro v H7 ⟨t, rfl, e7, tabs7, ht⟩
          have hL7 := e7.at0 hL2
          walk_at "go"
          refine ⟨_, _, rfl, .lst (.inl (.of ht)) (.cons (.int _) .nil), one_fits (ok0.by_ q hq), ?_⟩
          walk_at "go"
          refine ⟨_, _, rfl, .lst (.inl (.of hL7)) (.cons (.int _) .nil), one_fits (ok0.by_ q hq), ?_⟩
          walk_at "go"
          exact ⟨⟨_, _, _, rfl⟩, e36.ex e7, tabs7⟩
        · rw [decide_eq_false c, decide_eq_false fun z => c (ck.mp z)]
          walk_at "go"
          rw [if_neg (by decide)]
          walk_at "go"
          intro t nt
          generalize hu5 : upd _ t _ = H5
          obtain ⟨e5, ht⟩ := Vc.alloc hu5 nt
          have X6 := X4.ed0 e5
          have tabs6 := Vc.tabs_ed0 tabs4 e5
          have e36 := e4.ex (.of e5)
          clear e5 nt hu5 hd4 X4 hp4
          walk_at "go"
          refine Vc.go_lam tabs6 fun H7 e7 tabs7 => ?_
          have X7 := X6.edx e7
          obtain ⟨dx7, hp7⟩ := id X7.ob
          refine theard_split (fun v H' => ∃ t, v = .ref t ∧ Vc.EdX [] H5 H' ∧ LamX.Tabs Tb H' ∧ H' t = some (.tup (badE true a).tup)) ?_ ?_
          · intro E9 R9 hE hR
            walk_at "go"
            refine ⟨p, pd, l, a, rfl, X7, nd, fun _ dd H8 e8 hdd => hE _ _ _ ⟨badE true a, dd, rfl, rfl, hdd, fun t H9 e9 ht => ⟨t, rfl, (e7.ex (.of e8)).ex (.of e9), Vc.tabs_ed0 (Vc.tabs_ed0 tabs7 e8) e9, ht⟩⟩, fun q hq e => (c (ck.mp (List.mem_map.mpr ⟨q, hq, e⟩))).elim⟩
          clear X7 hp7 e7 tabs7 X6
          rintro v H7 ⟨t2, rfl, e7, tabs7, ht2⟩
          have ht7 := e7.tup _ _ ht
          walk_at "go"
          refine ⟨_, _, rfl, WErr.dp (badE true a) ht2, badE_fits sa, ?_⟩
          walk_at "go"
          refine ⟨_, _, rfl, WErr.dp (badE true a) ht7, badE_fits sa, ?_⟩
          walk_at "go"
          exact ⟨⟨_, _, _, rfl⟩, e36.ex e7, tabs7⟩
      · have ni : NotInt K H4 v := (ho.edx e4).not
        rcases id ni with ⟨b, rfl⟩ | ⟨n, ty, kn⟩
        · walk_at "go"
          refine ⟨p, pd, l, _, rfl, X4, .inr ⟨ni, _, rfl, ?_⟩⟩
          walk_at "go"
          rw [if_neg (by decide)]
          walk_at "go"
          exact ⟨⟨_, _, _, rfl⟩, e4, tabs4⟩
        · walk_at "go"
          refine Vc.go_isi ty kn ?_
          walk_at "go"
          refine ⟨p, pd, l, v, rfl, X4, .inr ⟨ni, _, rfl, ?_⟩⟩
          walk_at "go"
          rw [if_neg (by decide)]
          walk_at "go"
          refine Vc.go_isi ty kn ?_
          walk_at "go"
          exact ⟨⟨_, _, _, rfl⟩, e4, tabs4⟩
    · rintro σ H4 ⟨⟨y2, y3, y4, rfl⟩, e4, tabs4⟩
      have X4 := X3.edx e4
      have hd4 := e4.at0 hd3
      obtain ⟨dx, hp4⟩ := id X4.ob
      have cl := T.cl_Patch
      walk_at "go"
      refine ⟨p, pd, l, rfl, X4, fun B H5 e5 nB hB => ?_⟩
      walk_at "go"
      generalize hu6 : upd _ B _ = H6
      obtain ⟨e6, hB6⟩ := Vc.chg hu6 hB
      refine Vc.go_tyL (.of hB6) ⟨B, _, rfl, rfl, hB6, ?_⟩
      generalize hu7 : upd _ B _ = H7
      obtain ⟨e7, hB7⟩ := Vc.chg hu7 hB6
      have e57 := e6.trans e7 fun a z => .inl z
      have e47 : Vc.Ed [] H4 H7 := e5.one e57 (.inr nB)
      have X7 := X4.ed0 e47
      have hd7 := e47.at0 hd4
      obtain ⟨dx7, hp7⟩ := id X7.ob
      clear hB7 e57 e7 e6 e5 hB hB6 nB hu6 hu7 X4 hd4 hp4
      walk_at "go"
      refine ⟨p, pd, l, rfl, X7, _, rfl, by omega, Int.lt_of_le_of_lt (b := 24) (by omega) (by decide), ?_⟩
      walk_at "go"
      rw [if_pos (by rw [kvsP_len, ll]; exact decide_eq_true rfl)]
      walk_at "go"
      refine ⟨p, pd, l, rfl, X7, fun B2 H8 e8 nB2 hB2 => ?_⟩
      have fit : Vc.Fits (.list ((l.map (·.1)).map .int)) := ints_fits (fun x hx => by
        obtain ⟨q, hq, rfl⟩ := List.mem_map.mp hx
        exact (ok0.lo q (asc.pm.mem_iff.mp hq)).1) (by rw [List.length_map]; omega)
      have hd8 := e8.at0 hd7
      walk_at "go"
      refine ⟨_, _, rfl, dp_lst hB2, fit, ?_⟩
      walk_at "go"
      intro q1 nq1
      generalize hu9 : upd _ q1 _ = H9
      obtain ⟨e9, hq1⟩ := Vc.alloc hu9 nq1
      rw [keys_kvsP] at hq1
      walk_at "go"
      refine Vc.go_sorted (.of hq1) (by rw [List.length_map]; omega) fun ms o perm srt no => ?_
      generalize hu10 : upd _ o _ = H10
      obtain ⟨e10, ho⟩ := Vc.alloc hu10 no
      obtain ⟨l2, asc2, el⟩ := asc_of_perm ok0.nd perm srt
      obtain rfl := asc_eq asc asc2
      rw [← el] at ho
      walk_at "go"
      refine ⟨_, _, rfl, dp_lst ho, fit, ?_⟩
      walk_at "go"
      have e := (e4.ex (.of e47)).ex (.of ((e8.ex e9).ex e10))
      rw [decide_eq_true rfl]
      exact k3 H10 e (Vc.tabs_ed0 (Vc.tabs_ed0 tabs4 e47) ((e8.ex e9).ex e10))
end

end My
namespace My
open PySem PySem.Spec PyProof.Rows L2
/-! ### patches of bytes in a row, asked for -/
theorem of_call {A : Ad} {H : Hp} {Q : VK} {E : XK} {a : Int} {vals : List Int} (v24 : vals.length ≤ 24)
    (kE : ∀ b x dd H', PBad (ofP a vals vals.length) b x → Vc.Ed [] H H' → H' dd = some (.xd [("at", .int x)]) → E (.ref (if b = true then A.C_BadAddress else A.C_BadByte)) (some dd) H')
    (kQ : PtOk (ofP a vals vals.length) → ∀ p d H', Vc.Ed [] H H' → H p = none → PatAt A H' p d (ofP a vals vals.length) → Q (.ref p) H') :
    Vc.spV 2 (spPatOf A) (.ref A.C_Patch :: .int a :: vals.map V.int) H Q E := by
  refine ⟨[.ref A.C_Patch, .int a], vals.map V.int, rfl, rfl, Nat.le_of_lt (small1000 (by rw [List.length_map]; omega)), fun t nt => ?_⟩
  generalize hu : upd H t _ = H1
  obtain ⟨e1, ht⟩ := Vc.alloc hu nt
  exact ⟨a, vals, t, rfl, ht, v24, fun b x dd H' bad e h => kE b x dd H' bad (e1.ex e) h, fun ok p d H' e np Z => kQ ok p d H' (e1.ex e) (e1.dom _ np) Z⟩
def spLawOf (A : Ad) : Sp := fun vs H Q E => ∃ (a : Int) (r : Addr) (vals : List Int), vs = [.int a, .ref r] ∧ H r = some (.lst (vals.map V.int)) ∧ (vals.length = 1 ∨ vals.length = 3 ∨ vals.length = 5 ∨ vals.length = 8) ∧
  (∀ b x dd H', PBad (ofP a vals vals.length) b x → Vc.Ed [] H H' → H' dd = some (.xd [("at", .int x)]) → E (.ref (if b = true then A.C_BadAddress else A.C_BadByte)) (some dd) H') ∧
  (PtOk (ofP a vals vals.length) → ∀ p d H', Vc.Ed [] H H' → H p = none → PatAt A H' p d (ofP a vals vals.length) → Q (.ref p) H')
theorem ifT {c : Bool} {A B : Prop} (e : c = true) (h : A) : if c = true then A else B := by rw [if_pos e]; exact h
theorem ifF {c : Bool} {A B : Prop} (e : c = false) (h : B) : if c = true then A else B := by rw [if_neg (by rw [e]; decide)]; exact h
abbrev lamN : Str := ((("_law_of_none_right" : Str) ++ (".<locals>." : Str)) ++ ("<lambda>" : Str))
def spNone (Tb : List (Addr × Str)) : Sp := fun vs H Q _ => vs = [] ∧ LamX.Tabs Tb H ∧ ∀ H', Vc.EdX [] H H' → LamX.Tabs Tb H' → Q (.bl true) H'
theorem ptok_nil : PtOk ([] : PL) := ⟨.nil, fun _ h => (nomatch h), fun _ h => (nomatch h), by decide⟩
section
variable {w : World} {K : PySem.W.Frag} {mg : Str → Option Value} {base : Heap} {A : Ad} {Tb : List (Addr × Str)} {cL PL_ : Addr}
theorem ok__law_of (T : Txt K mg A) : FnOk PG w K mg base (CX PG w) 8 A.f__law_of A.d__law_of ["_law_first", "_law_row"] (spLawOf A) := by
  have G_Patch_of := ok_Patch_of (w := w) (base := base) T
  refine T.F__law_of.okX sc__law_of (fun vs H Q E h => ?_) (fun cdv Ar outer s H vs Q E hr h => ?_)
  · obtain ⟨a, r, vals, rfl, _⟩ := h
    rfl
  · obtain ⟨a, r, vals, rfl, hR, hl, kE, kQ⟩ := h
    refine ⟨_, (pss_cons (ps_if (pt_cmpR op_eq (pe_callB call_len_seq (by rfl) T.n_len (by decide +kernel) (pa_cons (pv 1) pa_nil)) pe_int (nomark _)) (pss_one (ps_ret (Vc.pe_cmethS (pe_glob (v := .ref A.C_Patch) (by rfl) T.g_Patch rfl) T.cr_Patch T.cm_Patch_of G_Patch_of (by exact hr.mono (by decide)) (fun σ => passAt (takes_of rfl rfl rfl rfl) σ) (pa_cons (pv 0) (pa_cons (pe_ix ix_list (pv 1) pe_int (fun _ _ => rfl)) pa_nil))))) pss_nil) (pss_cons (ps_if (pt_cmpR op_eq (pe_callB call_len_seq (by rfl) T.n_len (by decide +kernel) (pa_cons (pv 1) pa_nil)) pe_int (nomark _)) (pss_one (ps_ret (Vc.pe_cmethS (pe_glob (v := .ref A.C_Patch) (by rfl) T.g_Patch rfl) T.cr_Patch T.cm_Patch_of G_Patch_of (by exact hr.mono (by decide)) (fun σ => passAt (takes_of rfl rfl rfl rfl) σ) (pa_cons (pv 0) (pa_cons (pe_ix ix_list (pv 1) pe_int (fun _ _ => rfl)) (pa_cons (pe_ix ix_list (pv 1) pe_int (fun _ _ => rfl)) (pa_cons (pe_ix ix_list (pv 1) pe_int (fun _ _ => rfl)) pa_nil))))))) pss_nil) (pss_cons (ps_if (pt_cmpR op_eq (pe_callB call_len_seq (by rfl) T.n_len (by decide +kernel) (pa_cons (pv 1) pa_nil)) pe_int (nomark _)) (pss_one (ps_ret (Vc.pe_cmethS (pe_glob (v := .ref A.C_Patch) (by rfl) T.g_Patch rfl) T.cr_Patch T.cm_Patch_of G_Patch_of (by exact hr.mono (by decide)) (fun σ => passAt (takes_of rfl rfl rfl rfl) σ) (pa_cons (pv 0) (pa_cons (pe_ix ix_list (pv 1) pe_int (fun _ _ => rfl)) (pa_cons (pe_ix ix_list (pv 1) pe_int (fun _ _ => rfl)) (pa_cons (pe_ix ix_list (pv 1) pe_int (fun _ _ => rfl)) (pa_cons (pe_ix ix_list (pv 1) pe_int (fun _ _ => rfl)) (pa_cons (pe_ix ix_list (pv 1) pe_int (fun _ _ => rfl)) pa_nil))))))))) pss_nil) (pss_one (ps_ret (Vc.pe_cmethS (pe_glob (v := .ref A.C_Patch) (by rfl) T.g_Patch rfl) T.cr_Patch T.cm_Patch_of G_Patch_of (by exact hr.mono (by decide)) (fun σ => passAt (takes_of rfl rfl rfl rfl) σ) (pa_cons (pv 0) (pa_cons (pe_ix ix_list (pv 1) pe_int (fun _ _ => rfl)) (pa_cons (pe_ix ix_list (pv 1) pe_int (fun _ _ => rfl)) (pa_cons (pe_ix ix_list (pv 1) pe_int (fun _ _ => rfl)) (pa_cons (pe_ix ix_list (pv 1) pe_int (fun _ _ => rfl)) (pa_cons (pe_ix ix_list (pv 1) pe_int (fun _ _ => rfl)) (pa_cons (pe_ix ix_list (pv 1) pe_int (fun _ _ => rfl)) (pa_cons (pe_ix ix_list (pv 1) pe_int (fun _ _ => rfl)) (pa_cons (pe_ix ix_list (pv 1) pe_int (fun _ _ => rfl)) pa_nil))))))))))))))), ?_⟩
    rcases hl with hl | hl | hl | hl
    · match vals, hl with
      | [x0], _ =>
        have hR : H r = some (.lst [.int x0]) := hR
        walk_at "go"
        refine ifT rfl ?_
        walk_at "go"
        exact of_call (vals := [x0]) (Nat.le_of_lt_succ (by show _ < 25; simp)) kE kQ
    · match vals, hl with
      | [x0, x1, x2], _ =>
        have hR : H r = some (.lst [.int x0, .int x1, .int x2]) := hR
        walk_at "go"
        refine ifF rfl ?_
        walk_at "go"
        refine ifT rfl ?_
        walk_at "go"
        exact of_call (vals := [x0, x1, x2]) (Nat.le_of_lt_succ (by show _ < 25; simp)) kE kQ
    · match vals, hl with
      | [x0, x1, x2, x3, x4], _ =>
        have hR : H r = some (.lst [.int x0, .int x1, .int x2, .int x3, .int x4]) := hR
        walk_at "go"
        refine ifF rfl ?_
        walk_at "go"
        refine ifF rfl ?_
        walk_at "go"
        refine ifT rfl ?_
        walk_at "go"
        exact of_call (vals := [x0, x1, x2, x3, x4]) (Nat.le_of_lt_succ (by show _ < 25; simp)) kE kQ
    · match vals, hl with
      | [x0, x1, x2, x3, x4, x5, x6, x7], _ =>
        have hR : H r = some (.lst [.int x0, .int x1, .int x2, .int x3, .int x4, .int x5, .int x6, .int x7]) := hR
        walk_at "go"
        refine ifF rfl ?_
        walk_at "go"
        refine ifF rfl ?_
        walk_at "go"
        refine ifF rfl ?_
        walk_at "go"
        exact of_call (vals := [x0, x1, x2, x3, x4, x5, x6, x7]) (Nat.le_of_lt_succ (by show _ < 25; simp)) kE kQ
theorem ok__law_of_none_right (T : Txt K mg A) (LM : Vc.LamAt K mg base Tb A.f__law_of_none_right lamN cL PL_) : Vc.FnG PG w K mg base CX0 12 A.f__law_of_none_right A.d__law_of_none_right [] (spNone Tb) := by
  have G_Patch_of := ok_Patch_of (w := w) (base := base) T
  have G_Patchu_initu := ok_Patchu_initu (w := w) (base := base) T
  have G_Patchu_equ := ok_Patchu_equ (P := PG) (w := w) (base := base) T
  have G__law_shown := ok__law_shown (w := w) (base := base) T
  refine Vc.Fun.okGL T.F__law_of_none_right LM.co sc__law_of_none_right (fun vs H Q E h => ?_) (fun Ar outer s H vs Q E hgd hr h => ?_)
  · obtain ⟨rfl, _⟩ := h
    rfl
  · obtain ⟨rfl, tabs, k⟩ := h
    have hu := hu_of hr
    refine ⟨_, (pss_cons (ps_for PassesOwn.never rfl (pi_tup (pe_tup (pa_cons pe_int (pa_cons pe_int (pa_cons (pe_un un_neg pe_int) (pa_cons (pe_un un_neg pe_int) pa_nil)))))) (pg_name (i := 0) sc__law_of_none_right.nd rfl (Or.inr rfl)) (pss_one (ps_if (PW.pt (pw_or (pt_cmpR op_ne (pe_callB (Vc.call_reprD hgd (Vc.room64 hr)) (by rfl) T.n_repr (by decide +kernel) (pa_cons (Vc.pe_lamS (t := fun E => tCall (spShown A) [] E0 (tCons (Vc.tCMethS A.C_Patch (Vc.spV 2 (spPatOf A)) (fun _ => E) (tC (.ref A.C_Patch)) (tCons (tVar 0) tNil)) tNil)) (T := Tb) (j := 9) (k := 8) T.F__law_heard (by rfl) T.g__law_heard T.b__law_heard sc__law_heard (by rfl) (.inl rfl) (fun cdg => gives__law_heard T cdg) LM.tb rfl LM.me LM.un (by exact hr.mono (by decide)) (by decide) (LamX.lamS_by (sc := defScope s__law_of_none_right) (by decide +kernel)) rfl (fun _ _ _ _ _ => rfl) (fun A9 outer9 s9 H9 E9 f9 c9 hrl => (pe_call G__law_shown (by exact hrl.mono (by decide)) (by rfl) T.g__law_shown T.F__law_shown.kp T.b__law_shown .nil pass0 (pa_cons (Vc.pe_cmethS (pe_glob (v := .ref A.C_Patch) (by rfl) T.g_Patch rfl) T.cr_Patch T.cm_Patch_of G_Patch_of (by exact hrl.mono (by decide)) (fun σ => passAt (takes_of rfl rfl rfl rfl) σ) (pa_cons (pv 0) pa_nil)) pa_nil)))) pa_nil)) (pe_callB (Vc.call_reprD hgd (Vc.room64 hr)) (by rfl) T.n_repr (by decide +kernel) (pa_cons (pe_lst (pa_cons (pe_lst pa_nil) pa_nil)) pa_nil)) (nomark _)) (pw_or1 (pt_not (pt_cmpR (Vc.op_eqO G_Patchu_equ (by exact hr.mono (by decide)) T.eq_Patch T.b_Patchu_equ) (Vc.pe_cmethS (pe_glob (v := .ref A.C_Patch) (by rfl) T.g_Patch rfl) T.cr_Patch T.cm_Patch_of G_Patch_of (by exact hr.mono (by decide)) Vc.passSL (pa_cons (pv 0) pa_nil)) (pe_make T.mk_Patch G_Patchu_initu (by exact hr.mono (by decide)) (by rfl) T.g_Patch T.b_Patchu_initu .nil passL (pa_cons pe_dnewK pa_nil)) (nomark _)))))) (pss_one (ps_ret pe_bl)) pss_nil))) (pss_one (ps_ret pe_bl))), ?_⟩
    walk_at "go"
    intro t nt
    generalize hu1 : upd _ t _ = H1
    obtain ⟨e1, ht⟩ := Vc.alloc hu1 nt
    have ht : H1 t = some (.tup (([0, 5, -1, -30] : List Int).map V.int)) := ht
    have tabs1 := Vc.tabs_ed0 tabs e1
    have k1 : ∀ H', Vc.EdX [] H1 H' → LamX.Tabs Tb H' → Q (.bl true) H' := fun H' e => k H' ((Vc.EdX.of e1).ex e)
    clear k tabs e1 hu1 nt
    walk_at "go"
    refine ⟨⟨_, .inl (.inl ht)⟩, for_tup (xs := ([0, 5, -1, -30] : List Int).map V.int) (fun j σ H' => (∃ y : Option V, σ = [y]) ∧ Vc.EdX [] H1 H' ∧ LamX.Tabs Tb H') ⟨⟨none, rfl⟩, .refl, tabs1⟩ (fun j σ H' _ q => .inl (.inl (q.2.1.tup _ _ ht))) ?_ ?_⟩
    · rintro j v σ H2 hj ⟨⟨y, rfl⟩, e2, tabs2⟩
      rw [List.getElem?_map] at hj
      obtain ⟨a, ha, rfl⟩ := Option.map_eq_some_iff.mp hj
      clear hj ha
      have fit : Vc.Fits (.list [prD []]) := pr_fits (l := []) (fun _ h => nomatch h) (by decide)
      walk_at "go"
      refine Vc.go_lam tabs2 fun H3 e3 tabs3 => ?_
      refine theard_split (fun v H' => ∃ t, v = .ref t ∧ Vc.EdX [] H2 H' ∧ LamX.Tabs Tb H' ∧ ∃ S, H' t = some (.lst [.ref S]) ∧ PrsAt H' S []) ?_ ?_
      · intro E9 R9 hE hR
        walk_at "go"
        refine of_call (vals := []) (by decide) (fun b x dd H4 bad _ _ => (PBad.no ptok_nil bad).elim) fun _ p d H4 e4 _ Z => ?_
        refine ⟨p, d, [], rfl, Z, .nil, by decide, fun S H5 e5 PS => hR _ _ fun t H6 e6 ht => ⟨t, rfl, (e3.ex (.of e4)).ex ((Vc.EdX.of e5).ex (.of e6)), Vc.tabs_ed0 (Vc.tabs_ed0 (Vc.tabs_ed0 tabs3 e4) e5) e6, S, ht, PS.ed e6 (fun z => nomatch z)⟩⟩
      rintro v H4 ⟨u, rfl, e4, tabs4, S, hu4, PS⟩
      walk_at "go"
      refine ⟨_, _, rfl, .lst (.inl (.of hu4)) (.cons PS.dp .nil), fit, ?_⟩
      walk_at "go"
      intro z1 nz1
      generalize hu5 : upd _ z1 _ = H5
      obtain ⟨e5, hz1⟩ := Vc.alloc hu5 nz1
      walk_at "go"
      intro z2 nz2
      generalize hu6 : upd _ z2 _ = H6
      obtain ⟨e6, hz2⟩ := Vc.alloc hu6 nz2
      walk_at "go"
      refine ⟨_, _, rfl, .lst (.inl (.of hz2)) (.cons (.lst (.inl (.of (e6.at0 hz1))) .nil) .nil), fit, ?_⟩
      have e26 := e4.ex (.of (e5.ex e6))
      have tabs6 := Vc.tabs_ed0 tabs4 (e5.ex e6)
      clear hu4 PS hz1 hz2 e4 tabs4 hu5 hu6 e5 e6 nz1 nz2
      walk_at "go"
      refine ifF (by rw [show PyData.list [prD []] = PyData.list [PyData.list []] from rfl, decide_eq_true rfl]; rfl) ?_
      walk_at "go"
      refine of_call (vals := []) (by decide) (fun b x dd H4 bad _ _ => (PBad.no ptok_nil bad).elim) fun _ p d H7 e7 _ Z => ?_
      walk_at "go"
      intro z3 nz3
      generalize hu8 : upd _ z3 _ = H8
      obtain ⟨e8, hz3⟩ := Vc.alloc hu8 nz3
      walk_at "go"
      refine mk_patch (l := []) hz3 ptok_nil fun p2 f2 n2 H9 e9 _ _ Z2 asc => ?_
      obtain rfl := asc_self asc .nil
      refine eq_patch T ((Z.ed0 e8).ed0 e9) Z2 ⟨_, rfl, ?_⟩
      refine ifF rfl ?_
      walk_at "go"
      have e69 := (e7.ex e8).ex e9
      exact ⟨⟨_, rfl⟩, (e2.ex e26).ex (.of e69), Vc.tabs_ed0 tabs6 e69⟩
    · rintro σ H2 ⟨⟨y, rfl⟩, e2, tabs2⟩
      walk_at "go"
      exact k1 H2 e2 tabs2
end

end My
namespace My
open PySem PySem.Spec PyProof.Rows L2
/-! ### whether patches of bytes in a row are right -/
abbrev lamF : Str := ((("_law_of_right" : Str) ++ (".<locals>." : Str)) ++ ("<lambda>" : Str))
def spOfRight (Tb : List (Addr × Str)) : Sp := fun vs H Q _ => ∃ (b c : Addr) (n : Nat), vs = [.ref b] ∧ Pen H b c n ∧ n + 40 ≤ LIM ∧ LamX.Tabs Tb H ∧ ∀ H', Vc.EdX [b] H H' → Pen H' b c (n + 40) → LamX.Tabs Tb H' → Q (.bl true) H'
section
variable {w : World} {K : PySem.W.Frag} {mg : Str → Option Value} {base : Heap} {A : Ad} {Tb : List (Addr × Str)} {cL PL_ : Addr}
theorem ok__law_of_right (T : Txt K mg A) (LM : Vc.LamAt K mg base Tb A.f__law_of_right lamF cL PL_) : Vc.FnG PG w K mg base CX0 12 A.f__law_of_right A.d__law_of_right ["_law_pen_here"] (spOfRight Tb) := by
  have G__law_draw := ok__law_draw (P := PG) (w := w) (base := base) T
  have G__law_pick := ok__law_pick (P := PG) (w := w) (base := base) T
  have G__law_of := ok__law_of (w := w) (base := base) T
  have G__law_shown := ok__law_shown (w := w) (base := base) T
  have G__law_due := ok__law_due (P := PG) (w := w) (base := base) T
  refine Vc.Fun.okGL T.F__law_of_right LM.co sc__law_of_right (fun vs H Q E h => ?_) (fun Ar outer s H vs Q E hgd hr h => ?_)
  · obtain ⟨b, c, n, rfl, _⟩ := h
    rfl
  · obtain ⟨b, c, n, rfl, hB, nl, tabs, k⟩ := h
    have hu := hu_of hr
    have lim : LIM = 1000000 := rfl
    refine ⟨_, (pss_cons (ps_set (i := 1) sc__law_of_right.nd rfl (Or.inl rfl) (pe_call G__law_pick (by exact hr.mono (by decide)) (by rfl) T.g__law_pick T.F__law_pick.kp T.b__law_pick .nil pass0 (pa_cons (pv 0) (pa_cons (pe_lst (pa_cons pe_int (pa_cons pe_int (pa_cons pe_int (pa_cons pe_int pa_nil))))) pa_nil)))) (pss_cons (ps_set (i := 2) sc__law_of_right.nd rfl (Or.inr rfl) (pe_lc (own := [("_law_k", 5)]) (g := gName 5) rfl sc__law_of_right.nd (pi_range1 (by rfl) T.n_range (pa_cons (pv 1) pa_nil)) (blkOk_by (own := [("_law_k", 5)]) (N := ["_law_pen_here", "_law_many", "_law_row", "_law_first", "_law_pairs_here", "_law_k"]) (sc := defScope s__law_of_right) (by decide +kernel)) (fun _ _ _ _ _ => by exact (pg_name (i := 5) sc__law_of_right.nd rfl (Or.inl rfl))) (fun _ _ _ _ _ => by exact pts_nil) (fun _ _ _ _ _ => by (refine' Vc.blkE ?h ?q; (case h => exact (pe_call G__law_draw (by exact hr.mono (by decide)) (by rfl) T.g__law_draw T.F__law_draw.kp T.b__law_draw .nil pass0 (pa_cons (pv 0) (pa_cons pe_int pa_nil)))); (case q => first | exact rfl | (dsimp only; done) | (dsimp only; exact rfl)))))) (Evl.pss_cut (ps_if (pt_cmpR op_eq (pe_call G__law_draw (by exact hr.mono (by decide)) (by rfl) T.g__law_draw T.F__law_draw.kp T.b__law_draw .nil pass0 (pa_cons (pv 0) (pa_cons pe_int pa_nil))) pe_int (nomark _)) (pss_one (ps_asg (pe_call G__law_pick (by exact hr.mono (by decide)) (by rfl) T.g__law_pick T.F__law_pick.kp T.b__law_pick .nil pass0 (pa_cons (pv 0) (pa_cons (pe_lst (pa_cons pe_int (pa_cons (pe_un un_neg pe_int) (pa_cons (pe_op op_pow pe_int pe_int) pa_nil)))) pa_nil))) (pg_sub (pv 2) (pe_call G__law_draw (by exact hr.mono (by decide)) (by rfl) T.g__law_draw T.F__law_draw.kp T.b__law_draw .nil pass0 (pa_cons (pv 0) (pa_cons (pv 1) pa_nil))) set_list))) pss_nil) (pss_cons (ps_set (i := 3) sc__law_of_right.nd rfl (Or.inr rfl) (pe_call G__law_pick (by exact hr.mono (by decide)) (by rfl) T.g__law_pick T.F__law_pick.kp T.b__law_pick .nil pass0 (pa_cons (pv 0) (pa_cons (pe_lst (pa_cons (pe_call G__law_draw (by exact hr.mono (by decide)) (by rfl) T.g__law_draw T.F__law_draw.kp T.b__law_draw .nil pass0 (pa_cons (pv 0) (pa_cons (pe_op op_sub pe_int (pv 1)) pa_nil))) (pa_cons (pe_call G__law_draw (by exact hr.mono (by decide)) (by rfl) T.g__law_draw T.F__law_draw.kp T.b__law_draw .nil pass0 (pa_cons (pv 0) (pa_cons (pe_op op_sub pe_int (pv 1)) pa_nil))) (pa_cons (pe_un un_neg pe_int) (pa_cons (pe_un un_neg pe_int) pa_nil))))) pa_nil)))) (pss_cons (ps_set (i := 4) sc__law_of_right.nd rfl (Or.inl rfl) (pe_callTy (call_dictP rfl) (by rfl) T.n_dict (by decide +kernel) (pa_cons (pe_lc (own := [("_law_k", 5)]) (g := gName 5) rfl sc__law_of_right.nd (pi_range1 (by rfl) T.n_range (pa_cons (pv 1) pa_nil)) (blkOk_by (own := [("_law_k", 5)]) (N := ["_law_pen_here", "_law_many", "_law_row", "_law_first", "_law_pairs_here", "_law_k"]) (sc := defScope s__law_of_right) (by decide +kernel)) (fun _ _ _ _ _ => by exact (pg_name (i := 5) sc__law_of_right.nd rfl (Or.inl rfl))) (fun _ _ _ _ _ => by exact pts_nil) (fun _ _ _ _ _ => by (refine' Vc.blkE ?h ?q; (case h => exact (pe_tup (pa_cons (pe_op op_add (pv 3) (pv 5)) (pa_cons (pe_ix ix_list (pv 2) (pv 5) (fun _ _ => rfl)) pa_nil)))); (case q => first | exact rfl | (dsimp only; done) | (dsimp only; exact rfl))))) pa_nil))) (pss_one (ps_ret (pe_cmpR op_eq (pe_callB (Vc.call_reprD hgd (Vc.room64 hr)) (by rfl) T.n_repr (by decide +kernel) (pa_cons (Vc.pe_lamS (t := fun E => tCall (spShown A) [] E0 (tCons (tCallS (spLawOf A) (fun _ => E) (tCons (tVar 3) (tCons (tVar 2) tNil))) tNil)) (T := Tb) (j := 9) (k := 8) T.F__law_heard (by rfl) T.g__law_heard T.b__law_heard sc__law_heard (by rfl) (.inl rfl) (fun cdg => gives__law_heard T cdg) LM.tb rfl LM.me LM.un (by exact hr.mono (by decide)) (by decide) (LamX.lamS_by (sc := defScope s__law_of_right) (by decide +kernel)) rfl (fun _ _ _ _ _ => rfl) (fun A9 outer9 s9 H9 E9 f9 c9 hrl => (pe_call G__law_shown (by exact hrl.mono (by decide)) (by rfl) T.g__law_shown T.F__law_shown.kp T.b__law_shown .nil pass0 (pa_cons (pe_callS G__law_of (by exact hrl.mono (by decide)) (by rfl) T.g__law_of T.F__law_of.kp T.b__law_of (fun σ => passAt (takes_of rfl rfl rfl rfl) σ) (pa_cons (pv 3) (pa_cons (pv 2) pa_nil))) pa_nil)))) pa_nil)) (pe_callB (Vc.call_reprD hgd (Vc.room64 hr)) (by rfl) T.n_repr (by decide +kernel) (pa_cons (pe_call G__law_due (by exact hr.mono (by decide)) (by rfl) T.g__law_due T.F__law_due.kp T.b__law_due .nil pass0 (pa_cons (pv 4) pa_nil)) pa_nil)) (nomark _))))))))), ?_⟩
    walk_at "go"
    intro q nq
    generalize hu1 : upd _ q _ = H1
    obtain ⟨e1, hq⟩ := Vc.alloc hu1 nq
    have hq : H1 q = some (.lst (([1, 3, 5, 8] : List Int).map V.int)) := hq
    walk_at "go"
    refine ⟨b, c, q, _, _, rfl, hB.ed0 e1, by omega, hq, (hB.fb nq).1.symm, (by show 1 ≤ 4; omega), (by show 4 ≤ 1000; omega), fun i u H2 hv e2 hB2 => ?_⟩
    rw [List.getElem?_map] at hv
    obtain ⟨many, hm, rfl⟩ := Option.map_eq_some_iff.mp hv
    have mm : many = 1 ∨ many = 3 ∨ many = 5 ∨ many = 8 := by
      have := List.mem_of_getElem? hm
      simpa only [List.mem_cons, List.not_mem_nil, or_false] using this
    clear hv hm
    have m1 : 1 ≤ many ∧ many ≤ 8 := by omega
    walk_at "go"
    refine ⟨by omega, by omega, Vc.lc_by walk_range (fun D i H' => Vc.Ed [b] H2 H' ∧ Pen H' b c (n + 1 + i) ∧ ∃ vs : List Int, vs.length = i ∧ (∀ v ∈ vs, SmallI v) ∧ H' D = some (.lst (vs.map V.int))) (fun D H8 nD e8 hD => ⟨e8.mono (fun _ z => nomatch z), hB2.ed0 e8, [], rfl, (fun _ z => nomatch z), hD⟩) (fun _ _ _ _ _ _ => trivial) ?_ ?_⟩
    · rintro D i y H8 H9 nD hi ⟨e8, hB8, vs, vl, vb, hD⟩ ⟨rfl, rfl⟩
      have hi : i < many.toNat := by simpa using hi
      have nDb := (hB2.fb nD).1.symm
      walk_at "go"
      refine ⟨rfl, ?_⟩
      walk_at "go"
      refine ⟨b, c, _, _, rfl, hB8, by omega, by decide, by decide, fun r H10 r0 r1 e10 hB10 => ?_⟩
      have hD10 := e10.at1 nDb hD
      refine ⟨_, hD10, by rw [List.length_map, vl]; exact small1000 (by omega), ?_⟩
      generalize hu14 : upd _ D _ = H14
      obtain ⟨e14, hD14⟩ := Vc.chg hu14 hD10
      refine ⟨(e8.trans e10 fun a z => .inl z).one e14 (.inr nD), hB10.ed1 e14 nDb.symm (hB2.fb nD).2, vs ++ [r], by rw [List.length_append, vl]; rfl, fun v hv => ?_, by rw [hD14, List.map_append]; rfl⟩
      rcases List.mem_append.mp hv with h | h
      · exact vb v h
      · rw [List.mem_singleton.mp h]; unfold SmallI; omega
    rintro R H3 nR ⟨e3, hB3, vs, vl, vb, hR⟩
    have vl : vs.length = many.toNat := by simpa using vl
    have nRb := (hB2.fb nR).1.symm
    have nRc := (hB2.fb nR).2.symm
    have e03 : Vc.Ed [b] H H3 := ((e1.mono fun _ z => nomatch z).trans e2 fun a z => .inl z).trans e3 fun a z => .inl z
    have nR0 : H R = none := ((e1.mono fun _ z => nomatch z).trans e2 fun a z => .inl z).dom _ nR
    have hB3 : Pen H3 b c (n + 10) := hB3.up (by omega)
    clear e1 e2 e3 hB2 nR hu1 nq hq
    walk_at "go"
    refine Evl.q_cut (M := fun σ H' => ∃ vs : List Int, σ = [some (.ref b), some (.int many), some (.ref R), none, none, none] ∧ Vc.Ed [b] H H' ∧ Pen H' b c (n + 15) ∧ H' R = some (.lst (vs.map V.int)) ∧ vs.length = many.toNat ∧ ∀ v ∈ vs, SmallI v) ?_ ?_
    · walk_at "go"
      refine ⟨b, c, _, _, rfl, hB3, by omega, by decide, by decide, fun z H4 z0 z1 e4 hB4 => ?_⟩
      have hR4 := e4.at1 nRb hR
      have e04 := e03.trans e4 fun a z => .inl z
      walk_at "go"
      refine Vc.go_ite (fun g => ?_) (fun g => ?_)
      · walk_at "go"
        intro q nq
        generalize hu5 : upd _ q _ = H5
        obtain ⟨e5, hq⟩ := Vc.alloc hu5 nq
        have hq : H5 q = some (.lst (([256, -1, 100000000000000000000000000000] : List Int).map V.int)) := hq
        walk_at "go"
        refine ⟨b, c, q, _, _, rfl, hB4.ed0 e5, by omega, hq, (hB4.fb nq).1.symm, (by show 1 ≤ 3; omega), (by show 3 ≤ 1000; omega), fun i u H6 hv e6 hB6 => ?_⟩
        rw [List.getElem?_map] at hv
        obtain ⟨x, hx, rfl⟩ := Option.map_eq_some_iff.mp hv
        have xb : SmallI x := by
          have := List.mem_of_getElem? hx
          simp only [List.mem_cons, List.not_mem_nil, or_false] at this
          unfold SmallI
          omega
        walk_at "go"
        refine ⟨b, c, _, _, rfl, hB6, by omega, by omega, Int.lt_of_le_of_lt (show many ≤ 8 by omega) (by decide), fun j H7 j0 j1 e7 hB7 => ?_⟩
        have hR7 := e7.at1 nRb (e6.at1 nRb (e5.at0 hR4))
        have e07 := ((e04.ex e5).trans e6 fun a z => .inl z).trans e7 fun a z => .inl z
        refine ⟨R, _, j, j.toNat, rfl, rfl, hR7, (by unfold ixN; rw [List.length_map]; rw [if_pos j0, if_pos (by omega)]), ?_⟩
        generalize hu8 : upd _ R _ = H8
        obtain ⟨e8, hR8⟩ := Vc.chg hu8 hR7
        refine ⟨vs.set j.toNat x, rfl, e07.one e8 (.inr nR0), (hB7.ed1 e8 nRb.symm nRc.symm).up (by omega), by rw [hR8, List.map_set], by rw [List.length_set]; exact vl, fun v hv => ?_⟩
        rcases List.mem_or_eq_of_mem_set hv with h | h
        · exact vb v h
        · rw [h]; exact xb
      · walk_at "go"
        exact ⟨vs, rfl, e04, hB4.up (by omega), hR4, vl, vb⟩
    rintro σ H4 ⟨vs, rfl, e04, hB4, hR4, vl, vb⟩
    walk_at "go"
    refine ⟨b, c, _, _, rfl, hB4, by omega, by omega, Int.lt_of_le_of_lt (show 25 - many ≤ 24 by omega) (by decide), fun r1 H5 r10 r11 e5 hB5 => ?_⟩
    walk_at "go"
    refine ⟨b, c, _, _, rfl, hB5, by omega, by omega, Int.lt_of_le_of_lt (show 25 - many ≤ 24 by omega) (by decide), fun r2 H6 r20 r21 e6 hB6 => ?_⟩
    walk_at "go"
    intro q nq
    generalize hu7 : upd _ q _ = H7
    obtain ⟨e7, hq⟩ := Vc.alloc hu7 nq
    have hq : H7 q = some (.lst (([r1, r2, -1, -3] : List Int).map V.int)) := hq
    walk_at "go"
    refine ⟨b, c, q, _, _, rfl, hB6.ed0 e7, by omega, hq, (hB6.fb nq).1.symm, (by show 1 ≤ 4; omega), (by show 4 ≤ 1000; omega), fun i u H8 hv e8 hB8 => ?_⟩
    rw [List.getElem?_map] at hv
    obtain ⟨a, ha, rfl⟩ := Option.map_eq_some_iff.mp hv
    have ab : -3 ≤ a ∧ a ≤ 24 := by
      have := List.mem_of_getElem? ha
      simp only [List.mem_cons, List.not_mem_nil, or_false] at this
      omega
    have e48 := ((e5.trans e6 fun a z => .inl z).ex e7).trans e8 fun a z => .inl z
    have hR8 := e48.at1 nRb hR4
    have e08 := e04.trans e48 fun a z => .inl z
    have hB8 : Pen H8 b c (n + 40) := hB8.up (by omega)
    clear e48 e5 e6 e7 e8 hB5 hB6 hB4 hR4 e04 hu7 nq hq hv ha hR hB3 e03
    walk_at "go"
    have vm : (vs.length : Int) = many := by omega
    refine ⟨by omega, by omega, Vc.lc_by walk_range (fun D i H' => Vc.Ed [] H8 H' ∧ PrsAt H' D (ofP a vs i)) (fun D H9 nD e9 hD => ⟨e9, [], hD, rfl, fun j t q z => (by simp at z)⟩) (fun _ _ _ _ _ _ => trivial) ?_ ?_⟩
    · rintro D i y H9 H10 nD hi ⟨e9, PD⟩ ⟨rfl, rfl⟩
      have hi : i < many.toNat := by simpa using hi
      have hR9 := e9.at0 hR8
      have g1 : atI (vs.map V.int) (0 + (i : Int)) = some (.int (vs.getD i 0)) := by rw [Int.zero_add]; exact at_nat (xs := vs) (j := i) (by omega)
      walk_at "go"
      refine ⟨rfl, ?_⟩
      walk_at "go"
      intro t nt
      generalize hu11 : upd _ t _ = H11
      obtain ⟨e11, ht⟩ := Vc.alloc hu11 nt
      rw [Int.zero_add] at ht
      obtain ⟨ts, p1, p2, p3⟩ := PD
      have nDt := ne_of_none p1 nt
      have p1 := e11.at0 p1
      refine ⟨_, p1, by rw [List.length_map, p2, ofP_len]; exact small1000 (by omega), ?_⟩
      generalize hu12 : upd _ D _ = H12
      obtain ⟨e12, hD12⟩ := Vc.chg hu12 p1
      refine ⟨(e9.ex e11).one e12 (.inr nD), ?_⟩
      exact prs_snoc (q := (a + (i : Int), vs.getD i 0)) (t := t) p2 p3 ((e11.mono fun _ z => nomatch z).trans e12 fun a z => .inl z) (by rw [hD12, List.map_append]; rfl) (e12.at1 nDt.symm ht)
    rintro D H9 nD ⟨e9, PD⟩
    have PD : PrsAt H9 D (ofP a vs vs.length) := by rw [show many.toNat = vs.length by omega] at PD; exact PD
    generalize hl0 : ofP a vs vs.length = l0 at PD
    have nd0 : (l0.map (·.1)).Nodup := by rw [← hl0]; exact asc_nodup (ofP_pw _ _ _)
    have pw0 : (l0.map (·.1)).Pairwise (· < ·) := by rw [← hl0]; exact ofP_pw _ _ _
    have len0 : l0.length ≤ 8 := by rw [← hl0, ofP_len]; omega
    have sm0 : ∀ q ∈ l0, SmallI q.1 ∧ SmallI q.2 := fun q hq => by
      rw [← hl0] at hq
      obtain ⟨i, hi, rfl⟩ := ofP_keys hq
      refine ⟨by unfold SmallI; show _ ≤ a + (i : Int) ∧ a + (i : Int) ≤ _; omega, ?_⟩
      show SmallI (vs.getD i 0)
      rw [List.getD_eq_getElem?_getD, List.getElem?_eq_getElem hi]
      exact vb _ (List.getElem_mem hi)
    obtain ⟨ts, t1, t2, t3⟩ := PD
    walk_at "go"
    refine ⟨D, ts, kvsP l0, rfl, .of t1, prs_paired ts l0 t2 t3, fun d nd => ?_⟩
    rw [merge_self nd0]
    generalize hu10 : upd _ d _ = H10
    obtain ⟨e10, hd⟩ := Vc.alloc hu10 nd
    have e810 := e9.ex e10
    have hR10 := e810.at0 hR8
    have hB10 := hB8.ed0 e810
    have e010 := e08.ex e810
    have tabs10 : LamX.Tabs Tb H10 := by
      obtain ⟨ns, aa, rr, BB, _⟩ := hB
      exact Vc.tabs_lst tabs e010 BB.ob
    clear t1 t2 t3 e9 e10 nD nd hu10 e810 e08 hR8
    walk_at "go"
    refine Vc.go_lam tabs10 fun H11 e11 tabs11 => ?_
    have hR11 := e11.at0 hR10
    refine theard_split (fun v H' => ∃ t, v = .ref t ∧ Vc.EdX [] H10 H' ∧ LamX.Tabs Tb H' ∧ ((∃ b x, PBad l0 b x ∧ H' t = some (.tup (badE b x).tup)) ∨ (PtOk l0 ∧ ∃ S, H' t = some (.lst [.ref S]) ∧ PrsAt H' S l0))) ?_ ?_
    · intro E9 R9 hE hR
      walk_at "go"
      refine ⟨a, R, vs, rfl, hR11, by omega, fun b x dd H12 bad e12 hdd => hE _ _ _ ⟨badE b x, dd, by rw [badE_cls], rfl, by rw [badE_fld]; exact hdd, fun t H13 e13 ht => ⟨t, rfl, (e11.ex (.of e12)).ex (.of e13), Vc.tabs_ed0 (Vc.tabs_ed0 tabs11 e12) e13, .inl ⟨b, x, by rw [← hl0]; exact bad, ht⟩⟩⟩, fun ok p d H12 e12 _ Z => ?_⟩
      rw [hl0] at Z ok
      refine ⟨p, d, l0, rfl, Z, nd0, by omega, fun S H13 e13 PS => hR _ _ fun t H14 e14 ht => ⟨t, rfl, (e11.ex (.of e12)).ex ((Vc.EdX.of e13).ex (.of e14)), Vc.tabs_ed0 (Vc.tabs_ed0 (Vc.tabs_ed0 tabs11 e12) e13) e14, .inr ⟨ok, S, ht, PS.ed e14 (fun z => nomatch z)⟩⟩⟩
    rintro v H12 ⟨t, rfl, e12, tabs12, hq⟩
    have hd12 := e12.at0 hd
    have hB12 := hB10.edx e12
    have k12 : ∀ H', Vc.Ed [] H12 H' → Q (.bl true) H' := fun H' e => k H' (((Vc.EdX.of e010).trans e12 fun _ z => nomatch z).ex (.of e)) (hB12.ed0 e) (Vc.tabs_ed0 tabs12 e)
    have key : ∀ {b : Bool} {x : Int}, PBad l0 b x → SmallI x := fun bad => by
      obtain ⟨q, hq, e⟩ := List.mem_map.mp bad.key
      rw [← e]; exact (sm0 q hq).1
    clear k tabs tabs10 e010 hB hB10 hB8 hR10 e12 tabs12 hd
    walk_at "go"
    rcases hq with ⟨bb, x, bad, ht⟩ | ⟨ok, S, ht, PS⟩
    · refine ⟨_, _, rfl, WErr.dp _ ht, badE_fits (key bad), ?_⟩
      walk_at "go"
      refine ⟨d, l0, rfl, hd12, nd0, by omega, fun b2 x2 t2 H13 bad2 e13 _ ht2 => ?_, fun ok => (PBad.no ok bad).elim⟩
      obtain ⟨rfl, rfl⟩ := bad.uniq bad2
      walk_at "go"
      refine ⟨_, _, rfl, WErr.dp (badE bb x) (by rw [badE_tup]; exact ht2), badE_fits (key bad), ?_⟩
      walk_at "go"
      rw [decide_eq_true rfl]
      exact k12 H13 e13
    · have fit : Vc.Fits (.list [prD l0]) := pr_fits sm0 (by omega)
      refine ⟨_, _, rfl, .lst (.inl (.of ht)) (.cons PS.dp .nil), fit, ?_⟩
      walk_at "go"
      refine ⟨d, l0, rfl, hd12, nd0, by omega, fun b2 x2 t2 H13 bad2 _ _ _ => (PBad.no ok bad2).elim, fun _ t2 L2 n2 H13 e13 _ ht2 PS2 asc => ?_⟩
      obtain rfl := asc_self asc pw0
      walk_at "go"
      refine ⟨_, _, rfl, .lst (.inl (.of ht2)) (.cons PS2.dp .nil), fit, ?_⟩
      walk_at "go"
      rw [decide_eq_true rfl]
      exact k12 H13 e13
end

end My
namespace My
open PySem PySem.Spec PyProof.Rows L2
/-! ### whether patches between two rows are right -/
abbrev lamB : Str := ((("_law_between_right" : Str) ++ (".<locals>." : Str)) ++ ("<lambda>" : Str))
def spBetR (Tb : List (Addr × Str)) : Sp := fun vs H Q _ => ∃ (b c : Addr) (n : Nat), vs = [.ref b] ∧ Pen H b c n ∧ n + 90 ≤ LIM ∧ LamX.Tabs Tb H ∧ ∀ H', Vc.EdX [b] H H' → Pen H' b c (n + 90) → LamX.Tabs Tb H' → Q (.bl true) H'
theorem cut_lo {xs : List Int} {k : Int} (h : 0 ≤ k) : cutV (xs.map V.int) none (some k) = (xs.take k.toNat).map V.int := by
  rw [show k = ((k.toNat : Nat) : Int) by omega, Vc.cut_take, List.map_take, Int.toNat_natCast]
/-- what a patch between two rows is due -/
def DueB (us ws : List Int) (t : Addr) (H : Hp) : Prop := (us.length ≠ ws.length ∧ H t = some (.tup (WErr.len us.length ws.length).tup)) ∨ (us.length = ws.length ∧ ∃ S, H t = some (.lst [.ref S]) ∧ PrsAt H S (diffP us ws ws.length))
theorem DueB.edx {us ws : List Int} {t : Addr} {H H' : Hp} (h : DueB us ws t H) (e : Vc.EdX [] H H') : DueB us ws t H' := by
  rcases h with ⟨h1, h2⟩ | ⟨h1, S, h2, h3⟩
  · exact .inl ⟨h1, e.at0 h2⟩
  · exact .inr ⟨h1, S, e.at0 h2, h3.edx e⟩
def dueD (us ws : List Int) : PyData := if us.length = ws.length then .list [prD (diffP us ws ws.length)] else (WErr.len us.length ws.length).d
theorem DueB.dp {K : PySem.W.Frag} {us ws : List Int} {t : Addr} {H : Hp} (h : DueB us ws t H) : Dp K H (.ref t) (dueD us ws) := by
  unfold dueD
  rcases h with ⟨h1, h2⟩ | ⟨h1, S, h2, h3⟩
  · rw [if_neg h1]; exact WErr.dp _ h2
  · rw [if_pos h1]; exact .lst (.inl (.of h2)) (.cons h3.dp .nil)
theorem due_fits {us ws : List Int} (u24 : us.length ≤ 24) (w24 : ws.length ≤ 24) (wby : ∀ v ∈ ws, 0 ≤ v ∧ v ≤ 255) : Vc.Fits (dueD us ws) := by
  unfold dueD
  by_cases h : us.length = ws.length
  · rw [if_pos h]
    have ok := diffP_ok (vs := us) wby (by omega)
    have ln := diffP_len us ws ws.length
    refine pr_fits (fun q hq => ?_) (by omega)
    have h1 := diffP_keys (List.mem_map.mpr ⟨q, hq, rfl⟩)
    have h2 := ok.by_ q hq
    unfold SmallI
    omega
  · rw [if_neg h]
    refine werr_fits _ ?_
    show SmallI _ ∧ SmallI _
    unfold SmallI
    omega
section
variable {w : World} {K : PySem.W.Frag} {mg : Str → Option Value} {base : Heap} {A : Ad} {Tb : List (Addr × Str)} {cL PL_ : Addr}
theorem ok__law_between_right (T : Txt K mg A) (LM : Vc.LamAt K mg base Tb A.f__law_between_right lamB cL PL_) : Vc.FnG PG w K mg base CX0 12 A.f__law_between_right A.d__law_between_right ["_law_pen_here"] (spBetR Tb) := by
  have G__law_draw := ok__law_draw (P := PG) (w := w) (base := base) T
  have G_Patch_between := ok_Patch_between (w := w) (base := base) T
  have G_Imageu_initu := ok_Imageu_initu (P := PG) (w := w) (base := base) T
  have G__law_shown := ok__law_shown (w := w) (base := base) T
  have G__law_cells := ok__law_cells (P := PG) (w := w) (base := base) T
  refine Vc.Fun.okGL T.F__law_between_right LM.co sc__law_between_right (fun vs H Q E h => ?_) (fun Ar outer s H vs Q E hgd hr h => ?_)
  · obtain ⟨b, c, n, rfl, _⟩ := h
    rfl
  · obtain ⟨b, c, n, rfl, hB, nl, tabs, k⟩ := h
    have hu := hu_of hr
    have lim : LIM = 1000000 := rfl
    obtain ⟨_, _, _, pb⟩ := hB.lst
    refine ⟨_, (pss_cons (ps_set (i := 1) sc__law_between_right.nd rfl (Or.inr rfl) (pe_lc (own := [("_law_k", 6)]) (g := gName 6) rfl sc__law_between_right.nd (pi_range1 (by rfl) T.n_range (pa_cons (pe_op op_add pe_int (pe_call G__law_draw (by exact hr.mono (by decide)) (by rfl) T.g__law_draw T.F__law_draw.kp T.b__law_draw .nil pass0 (pa_cons (pv 0) (pa_cons pe_int pa_nil)))) pa_nil)) (blkOk_by (own := [("_law_k", 6)]) (N := ["_law_pen_here", "_law_old", "_law_new", "_law_due_here", "_law_one", "_law_other", "_law_k", "_law_byte", "_law_at"]) (sc := defScope s__law_between_right) (by decide +kernel)) (fun _ _ _ _ _ => by exact (pg_name (i := 6) sc__law_between_right.nd rfl (Or.inl rfl))) (fun _ _ _ _ _ => by exact pts_nil) (fun _ _ _ _ _ => by (refine' Vc.blkE ?h ?q; (case h => exact (pe_call G__law_draw (by exact hr.mono (by decide)) (by rfl) T.g__law_draw T.F__law_draw.kp T.b__law_draw .nil pass0 (pa_cons (pv 0) (pa_cons pe_int pa_nil)))); (case q => first | exact rfl | (dsimp only; done) | (dsimp only; exact rfl)))))) (pss_cons (ps_set (i := 2) sc__law_between_right.nd rfl (Or.inr rfl) (pe_lc (own := [("_law_byte", 7)]) (g := gName 7) rfl sc__law_between_right.nd (pi_list (pv 1)) (blkOk_by (own := [("_law_byte", 7)]) (N := ["_law_pen_here", "_law_old", "_law_new", "_law_due_here", "_law_one", "_law_other", "_law_k", "_law_byte", "_law_at"]) (sc := defScope s__law_between_right) (by decide +kernel)) (fun _ _ _ _ _ => by exact (pg_name (i := 7) sc__law_between_right.nd rfl (Or.inl rfl))) (fun _ _ _ _ _ => by exact pts_nil) (fun _ _ _ _ _ => by (refine' Vc.blkE ?h ?q; (case h => exact (pe_ix ix_list (pe_lst (pa_cons (pv 7) (pa_cons (pv 7) (pa_cons (pe_call G__law_draw (by exact hr.mono (by decide)) (by rfl) T.g__law_draw T.F__law_draw.kp T.b__law_draw .nil pass0 (pa_cons (pv 0) (pa_cons pe_int pa_nil))) pa_nil)))) (pe_call G__law_draw (by exact hr.mono (by decide)) (by rfl) T.g__law_draw T.F__law_draw.kp T.b__law_draw .nil pass0 (pa_cons (pv 0) (pa_cons pe_int pa_nil))) (fun _ _ => rfl))); (case q => first | exact rfl | (dsimp only; done) | (dsimp only; exact rfl)))))) (Evl.pss_cut (ps_if (pt_cmpR op_eq (pe_call G__law_draw (by exact hr.mono (by decide)) (by rfl) T.g__law_draw T.F__law_draw.kp T.b__law_draw .nil pass0 (pa_cons (pv 0) (pa_cons pe_int pa_nil))) pe_int (nomark _)) (pss_one (ps_set (i := 2) sc__law_between_right.nd rfl (Or.inr rfl) (pe_slice sl_list (pv 2) po_none (po_some (pe_op op_add pe_int (pe_call G__law_draw (by exact hr.mono (by decide)) (by rfl) T.g__law_draw T.F__law_draw.kp T.b__law_draw .nil pass0 (pa_cons (pv 0) (pa_cons (pe_callB call_len_seq (by rfl) T.n_len (by decide +kernel) (pa_cons (pv 2) pa_nil)) pa_nil)))))))) pss_nil) (pss_cons (ps_set (i := 3) sc__law_between_right.nd rfl (Or.inl rfl) (pe_tup (pa_cons pe_str (pa_cons (pe_callB call_len_seq (by rfl) T.n_len (by decide +kernel) (pa_cons (pv 1) pa_nil)) (pa_cons (pe_callB call_len_seq (by rfl) T.n_len (by decide +kernel) (pa_cons (pv 2) pa_nil)) pa_nil))))) (Evl.pss_cut (ps_if (pt_cmpR op_eq (pe_callB call_len_seq (by rfl) T.n_len (by decide +kernel) (pa_cons (pv 1) pa_nil)) (pe_callB call_len_seq (by rfl) T.n_len (by decide +kernel) (pa_cons (pv 2) pa_nil)) (nomark _)) (pss_one (ps_set (i := 3) sc__law_between_right.nd rfl (Or.inl rfl) (pe_lst (pa_cons (pe_lc (own := [("_law_at", 8)]) (g := gName 8) rfl sc__law_between_right.nd (pi_range1 (by rfl) T.n_range (pa_cons (pe_callB call_len_seq (by rfl) T.n_len (by decide +kernel) (pa_cons (pv 1) pa_nil)) pa_nil)) (blkOk_by (own := [("_law_at", 8)]) (N := ["_law_pen_here", "_law_old", "_law_new", "_law_due_here", "_law_one", "_law_other", "_law_k", "_law_byte", "_law_at"]) (sc := defScope s__law_between_right) (by decide +kernel)) (fun _ _ _ _ _ => by exact (pg_name (i := 8) sc__law_between_right.nd rfl (Or.inl rfl))) (fun _ _ _ _ _ => by (refine' Vc.blkT ?h ?q; (case h => exact pts_one (pt_cmpR op_ne (pe_ix ix_list (pv 1) (pv 8) (fun _ _ => rfl)) (pe_ix ix_list (pv 2) (pv 8) (fun _ _ => rfl)) (nomark _))); (case q => first | exact rfl | (dsimp only; done) | (dsimp only; exact rfl)))) (fun _ _ _ _ _ => by (refine' Vc.blkE ?h ?q; (case h => exact (pe_tup (pa_cons (pv 8) (pa_cons (pe_ix ix_list (pv 2) (pv 8) (fun _ _ => rfl)) pa_nil)))); (case q => first | exact rfl | (dsimp only; done) | (dsimp only; exact rfl))))) pa_nil)))) pss_nil) (pss_cons (ps_for PassesOwn.never rfl (pi_tup (pe_tup (pa_cons (pv 1) (pa_cons (pe_callTy Vc.call_tupD (by rfl) T.n_tuple (by decide +kernel) (pa_cons (pv 1) pa_nil)) (pa_cons (pe_make T.mk_Image G_Imageu_initu (by exact hr.mono (by decide)) (by rfl) T.g_Image T.b_Imageu_initu .nil pass0 (pa_cons (pv 1) pa_nil)) pa_nil))))) (pg_name (i := 4) sc__law_between_right.nd rfl (Or.inr rfl)) (pss_one (ps_for PassesOwn.never rfl (pi_tup (pe_tup (pa_cons (pv 2) (pa_cons (pe_callTy Vc.call_tupD (by rfl) T.n_tuple (by decide +kernel) (pa_cons (pv 2) pa_nil)) (pa_cons (pe_make T.mk_Image G_Imageu_initu (by exact hr.mono (by decide)) (by rfl) T.g_Image T.b_Imageu_initu .nil pass0 (pa_cons (pv 2) pa_nil)) pa_nil))))) (pg_name (i := 5) sc__law_between_right.nd rfl (Or.inr rfl)) (pss_cons (ps_if (pt_cmpR op_ne (pe_callB (Vc.call_reprD hgd (Vc.room64 hr)) (by rfl) T.n_repr (by decide +kernel) (pa_cons (Vc.pe_lamS (t := fun E => tCall (spShown A) [] E0 (tCons (Vc.tSMethS A.C_Patch (spBetween A K) (fun _ => E) (tC (.ref A.C_Patch)) (tCons (tVar 4) (tCons (tVar 5) tNil))) tNil)) (T := Tb) (j := 9) (k := 8) T.F__law_heard (by rfl) T.g__law_heard T.b__law_heard sc__law_heard (by rfl) (.inl rfl) (fun cdg => gives__law_heard T cdg) LM.tb rfl LM.me LM.un (by exact hr.mono (by decide)) (by decide) (LamX.lamS_by (sc := defScope s__law_between_right) (by decide +kernel)) rfl (fun _ _ _ _ _ => rfl) (fun A9 outer9 s9 H9 E9 f9 c9 hrl => (pe_call G__law_shown (by exact hrl.mono (by decide)) (by rfl) T.g__law_shown T.F__law_shown.kp T.b__law_shown .nil pass0 (pa_cons (Vc.pe_smethS (pe_glob (v := .ref A.C_Patch) (by rfl) T.g_Patch rfl) T.cr_Patch T.sm_Patch_between G_Patch_between (by exact hrl.mono (by decide)) T.b_Patch_between (fun σ => passAt (takes_of rfl rfl rfl rfl) σ) (pa_cons (pv 4) (pa_cons (pv 5) pa_nil))) pa_nil)))) pa_nil)) (pe_callB (Vc.call_reprD hgd (Vc.room64 hr)) (by rfl) T.n_repr (by decide +kernel) (pa_cons (pv 3) pa_nil)) (nomark _)) (pss_one (ps_ret pe_bl)) pss_nil) (pss_one (ps_if (PW.pt (pw_or (pt_cmpR (op_neD (by exact hr.units)) (pe_call G__law_cells (by exact hr.mono (by decide)) (by rfl) T.g__law_cells T.F__law_cells.kp T.b__law_cells .nil pass0 (pa_cons (pv 4) pa_nil)) (pv 1) (nomark _)) (pw_or1 (pt_cmpR (op_neD (by exact hr.units)) (pe_call G__law_cells (by exact hr.mono (by decide)) (by rfl) T.g__law_cells T.F__law_cells.kp T.b__law_cells .nil pass0 (pa_cons (pv 5) pa_nil)) (pv 2) (nomark _))))) (pss_one (ps_ret pe_bl)) pss_nil)))))) (pss_one (ps_ret pe_bl)))))))), ?_⟩
    walk_at "go"
    refine ⟨b, c, n, _, rfl, hB, by omega, by decide, by decide, fun m H1 m0 m1 e1 hB1 => ?_⟩
    walk_at "go"
    refine ⟨by omega, by omega, Vc.lc_by walk_range (fun D i H' => Vc.Ed [b] H1 H' ∧ Pen H' b c (n + 1 + i) ∧ ∃ vs : List Int, vs.length = i ∧ (∀ v ∈ vs, 0 ≤ v ∧ v ≤ 255) ∧ H' D = some (.lst (vs.map V.int))) (fun D H8 nD e8 hD => ⟨e8.mono (fun _ z => nomatch z), hB1.ed0 e8, [], rfl, (fun _ z => nomatch z), hD⟩) (fun _ _ _ _ _ _ => trivial) ?_ ?_⟩
    · rintro D i y H8 H9 nD hi ⟨e8, hB8, vs, vl, vb, hD⟩ ⟨rfl, rfl⟩
      have hi : i < (1 + m).toNat := by simpa using hi
      have nDb := (hB1.fb nD).1.symm
      walk_at "go"
      refine ⟨rfl, ?_⟩
      walk_at "go"
      refine ⟨b, c, _, _, rfl, hB8, by omega, by decide, by decide, fun r H10 r0 r1 e10 hB10 => ?_⟩
      have hD10 := e10.at1 nDb hD
      refine ⟨_, hD10, by rw [List.length_map, vl]; exact small1000 (by omega), ?_⟩
      generalize hu14 : upd _ D _ = H14
      obtain ⟨e14, hD14⟩ := Vc.chg hu14 hD10
      refine ⟨(e8.trans e10 fun a z => .inl z).one e14 (.inr nD), hB10.ed1 e14 nDb.symm (hB1.fb nD).2, vs ++ [r], by rw [List.length_append, vl]; rfl, fun v hv => ?_, by rw [hD14, List.map_append]; rfl⟩
      rcases List.mem_append.mp hv with h | h
      · exact vb v h
      · rw [List.mem_singleton.mp h]; omega
    rintro o H2 no ⟨e2, hB2, us, ul, uby, ho⟩
    have ul : us.length = (1 + m).toNat := by simpa using ul
    have u1 : 1 ≤ us.length := by omega
    have u24 : us.length ≤ 24 := by omega
    have nob := (hB1.fb no).1.symm
    have e02 : Vc.Ed [b] H H2 := e1.trans e2 fun a z => .inl z
    have no0 : H o = none := e1.dom _ no
    have hB2 : Pen H2 b c (n + 30) := hB2.up (by omega)
    clear e1 e2 hB1 no ul m0 m1
    walk_at "go"
    refine ⟨⟨_, .of ho⟩, Vc.lc_by (walk_list (xs := us.map V.int)) (fun D i H' => Vc.Ed [b] H2 H' ∧ Pen H' b c (n + 30 + 2 * i) ∧ ∃ ws : List Int, ws.length = i ∧ (∀ v ∈ ws, 0 ≤ v ∧ v ≤ 255) ∧ H' D = some (.lst (ws.map V.int))) (fun D H2 nD e2 hD => ⟨e2.mono (fun _ z => nomatch z), hB2.ed0 e2, [], rfl, (fun _ z => nomatch z), hD⟩) (fun D j H' _ _ q => .of (q.1.at1 nob ho)) ?_ ?_⟩
    · rintro D i y H3 H4 nD hi ⟨e3, hB3, ws, wl, wb, hD⟩ ⟨rfl, hy⟩
      rw [List.getElem?_map] at hy
      obtain ⟨x, hx, rfl⟩ := Option.map_eq_some_iff.mp hy
      have xb := uby x (List.mem_of_getElem? hx)
      have il : i < us.length := (List.getElem?_eq_some_iff.mp hx).1
      have nDb := (hB2.fb nD).1.symm
      have nDc := (hB2.fb nD).2.symm
      walk_at "go"
      refine ⟨rfl, ?_⟩
      walk_at "go"
      refine ⟨b, c, _, _, rfl, hB3, by omega, by decide, by decide, fun r H5 r0 r1 e5 hB5 => ?_⟩
      walk_at "go"
      intro q nq
      generalize hu6 : upd _ q _ = H6
      obtain ⟨e6, hq⟩ := Vc.alloc hu6 nq
      have hB6 := hB5.ed0 e6
      have nqb := (hB5.fb nq).1.symm
      walk_at "go"
      refine ⟨b, c, _, _, rfl, hB6, by omega, by decide, by decide, fun ix H7 i0 i1 e7 hB7 => ?_⟩
      have hq7 := e7.at1 nqb hq
      obtain ⟨v, hv, vb⟩ : ∃ v : Int, atI ([.int x, .int x, .int r] : List V) ix = some (.int v) ∧ 0 ≤ v ∧ v ≤ 255 := by
        have : ix = 0 ∨ ix = 1 ∨ ix = 2 := by omega
        rcases this with rfl | rfl | rfl
        · exact ⟨x, rfl, xb⟩
        · exact ⟨x, rfl, xb⟩
        · exact ⟨r, rfl, by omega⟩
      have e37 := (e5.ex e6).trans e7 fun a z => .inl z
      have hD7 := e37.at1 nDb hD
      walk_at "go"
      refine ⟨_, hD7, by rw [List.length_map, wl]; exact small1000 (by omega), ?_⟩
      generalize hu8 : upd _ D _ = H8
      obtain ⟨e8, hD8⟩ := Vc.chg hu8 hD7
      refine ⟨(e3.trans e37 fun a z => .inl z).one e8 (.inr nD), (hB7.ed1 e8 nDb.symm nDc.symm).up (by omega), ws ++ [v], by rw [List.length_append, wl]; rfl, fun v' hv' => ?_, by rw [hD8, List.map_append]; rfl⟩
      rcases List.mem_append.mp hv' with h | h
      · exact wb v' h
      · rw [List.mem_singleton.mp h]; exact vb
    rintro q H3 nq ⟨e3, hB3, ws, wl, wby, hq⟩
    rw [List.length_map] at wl hB3
    have e03 := e02.trans e3 fun a z => .inl z
    have ho3 := e3.at1 nob ho
    have nqb := (hB2.fb nq).1.symm
    have hB3 : Pen H3 b c (n + 80) := hB3.up (by omega)
    clear e02 e3 hB2 ho nq
    walk_at "go"
    refine Evl.q_cut (M := fun σ H' => ∃ (q : Addr) (ws : List Int), σ = [some (.ref b), some (.ref o), some (.ref q), none, none, none, none, none, none] ∧ Vc.Ed [b] H H' ∧ Pen H' b c (n + 90) ∧ H' o = some (.lst (us.map V.int)) ∧ H' q = some (.lst (ws.map V.int)) ∧ 1 ≤ ws.length ∧ ws.length ≤ 24 ∧ ∀ v ∈ ws, 0 ≤ v ∧ v ≤ 255) ?_ ?_
    · walk_at "go"
      refine ⟨b, c, _, _, rfl, hB3, by omega, by decide, by decide, fun z H4 z0 z1 e4 hB4 => ?_⟩
      have hq4 := e4.at1 nqb hq
      have ho4 := e4.at1 nob ho3
      have e04 := e03.trans e4 fun a z => .inl z
      walk_at "go"
      refine Vc.go_ite (fun g => ?_) (fun g => ?_)
      · walk_at "go"
        rw [List.length_map]
        refine ⟨b, c, _, _, rfl, hB4, by omega, by omega, Int.lt_of_le_of_lt (show (ws.length : Int) ≤ 24 by omega) (by decide), fun r H5 r0 r1 e5 hB5 => ?_⟩
        have hq5 := e5.at1 nqb hq4
        have ho5 := e5.at1 nob ho4
        walk_at "go"
        intro q2 nq2
        rw [cut_lo (by omega)]
        generalize hu6 : upd _ q2 _ = H6
        obtain ⟨e6, hq2⟩ := Vc.alloc hu6 nq2
        exact ⟨q2, _, rfl, (e04.trans e5 fun a z => .inl z).ex e6, (hB5.ed0 e6).up (by omega), e6.at0 ho5, hq2, by rw [List.length_take]; omega, by rw [List.length_take]; omega, fun v hv => wby v (List.mem_of_mem_take hv)⟩
      · walk_at "go"
        exact ⟨q, ws, rfl, e04, hB4.up (by omega), ho4, hq4, by omega, by omega, wby⟩
    clear hB3 hq e03 ho3 nqb wl wby
    rintro σ H4 ⟨q, ws, rfl, e04, hB4, ho4, hq4, w1, w24, wby⟩
    have tabs4 : LamX.Tabs Tb H4 := Vc.tabs_lst tabs e04 pb
    have k4 : ∀ H', Vc.EdX [] H4 H' → LamX.Tabs Tb H' → Q (.bl true) H' := fun H' e t => k H' ((Vc.EdX.of e04).trans e fun _ z => nomatch z) (hB4.edx e) t
    clear k tabs hB hB4 e04 pb no0 nob
    walk_at "go"
    intro t nt
    generalize hu5 : upd _ t _ = H5
    obtain ⟨e5, ht⟩ := Vc.alloc hu5 nt
    rw [List.length_map, List.length_map] at ht
    have ho5 := e5.at0 ho4
    have hq5 := e5.at0 hq4
    walk_at "go"
    refine Evl.q_cut (M := fun σ H' => ∃ (t : Addr) (y6 y7 y8 : Option V), σ = [some (.ref b), some (.ref o), some (.ref q), some (.ref t), none, none, y6, y7, y8] ∧ Vc.Ed [] H4 H' ∧ DueB us ws t H') ?_ ?_
    · walk_at "go"
      rw [List.length_map, List.length_map]
      refine Vc.go_ite (fun g => ?_) (fun g => ?_)
      · have eq : us.length = ws.length := by omega
        walk_at "go"
        rw [List.length_map]
        refine ⟨by omega, by omega, Vc.lc_by walk_range (fun D i H' => Vc.Ed [] H5 H' ∧ PrsAt H' D (diffP us ws i)) (fun D H2 nD e2 hD => ⟨e2, [], hD, rfl, fun j t q z => (by simp at z)⟩) (fun _ _ _ _ _ _ => trivial) ?_ ?_⟩
        · rintro D i y H10 H11 nD hi ⟨e10, PD⟩ ⟨rfl, rfl⟩
          have il : i < ws.length := by
            have : i < ((us.length : Int)).toNat := by simpa using hi
            omega
          have hh10 := e10.at0 ho5
          have ho10 := e10.at0 hq5
          have g1 : atI (us.map V.int) (0 + (i : Int)) = some (.int (us.getD i 0)) := by rw [Int.zero_add]; exact at_nat (xs := us) (j := i) (by omega)
          have g2 : atI (ws.map V.int) (0 + (i : Int)) = some (.int (ws.getD i 0)) := by rw [Int.zero_add]; exact at_nat (xs := ws) (j := i) il
          walk_at "go"
          refine ⟨rfl, ?_⟩
          walk_at "go"
          refine Vc.go_iten (fun g => ?_) (fun g => ?_)
          · walk_at "go"
            intro t nt
            generalize hu4 : upd _ t _ = H12
            obtain ⟨e12, ht⟩ := Vc.alloc hu4 nt
            have ht : H12 t = some (.tup [.int (i : Int), .int (ws.getD i 0)]) := by
              rw [ht]
              show some (HO.tup [V.int (0 + (i : Int)), V.int (ws.getD i 0)]) = _
              rw [Int.zero_add]
            obtain ⟨ts, p1, p2, p3⟩ := PD
            have nDt := ne_of_none p1 nt
            have p1 := e12.at0 p1
            have dl' := diffP_len us ws i
            refine ⟨_, p1, by rw [List.length_map, p2]; exact small1000 (by omega), ?_⟩
            generalize hu5 : upd _ D _ = H13
            obtain ⟨e13, hD13⟩ := Vc.chg hu5 p1
            refine ⟨(e10.ex e12).one e13 (.inr nD), ?_⟩
            have := prs_snoc (q := ((i : Int), ws.getD i 0)) (t := t) p2 p3 ((e12.mono fun _ z => nomatch z).trans e13 fun a z => .inl z) (by rw [hD13, List.map_append]; rfl) (e13.at1 nDt.symm ht)
            rw [diffP_succ, if_pos (fun z => g z.symm)]; exact this
          · refine ⟨e10, ?_⟩
            rw [diffP_succ, if_neg (fun z => z g.symm), List.append_nil]; exact PD
        rintro S H10 nS ⟨e10, PS⟩
        have PS : PrsAt H10 S (diffP us ws ws.length) := by rw [show ((us.length : Int)).toNat = ws.length by omega] at PS; exact PS
        walk_at "go"
        intro z nz
        generalize hu11 : upd _ z _ = H11
        obtain ⟨e11, hz⟩ := Vc.alloc hu11 nz
        exact ⟨z, _, _, _, rfl, (e5.ex e10).ex e11, .inr ⟨eq, S, hz, PS.ed e11 (fun z => nomatch z)⟩⟩
      · walk_at "go"
        exact ⟨t, _, _, _, rfl, e5, .inl ⟨by omega, ht⟩⟩
    clear ht ho5 hq5 e5 hu5 nt
    rintro σ H5 ⟨t, y6, y7, y8, rfl, e5, due⟩
    have ho5 := e5.at0 ho4
    have hq5 := e5.at0 hq4
    have tabs5 := Vc.tabs_ed0 tabs4 e5
    have k5 : ∀ H', Vc.EdX [] H5 H' → LamX.Tabs Tb H' → Q (.bl true) H' := fun H' e => k4 H' ((Vc.EdX.of e5).ex e)
    clear k4 tabs4 ho4 hq4 e5
    walk_at "go"
    intro l nl
    generalize hu6 : upd _ l _ = H6
    obtain ⟨e6, hl⟩ := Vc.alloc hu6 nl
    have ho6 := e6.at0 ho5
    show tCons (tMake A.C_Image (spImgInit A K) [] E0 (tCons (tVar 1) tNil)) tNil _ _ _
    walk_at "go"
    refine mk_image ho6 (by omega) uby fun g gl H7 e7 _ _ I7 => ?_
    walk_at "go"
    intro r nr
    generalize hu8 : upd _ r _ = H8
    obtain ⟨e8, hr8⟩ := Vc.alloc hu8 nr
    have e58 := (e6.ex e7).ex e8
    have ho8 := e58.at0 ho5
    have hq8 := e58.at0 hq5
    have hl8 := e8.at0 (e7.at0 hl)
    have I8 := I7.ed0 e8
    have due8 := due.edx (.of e58)
    have tabs8 := Vc.tabs_ed0 tabs5 e58
    have k8 : ∀ H', Vc.EdX [] H8 H' → LamX.Tabs Tb H' → Q (.bl true) H' := fun H' e => k5 H' ((Vc.EdX.of e58).ex e)
    have giv : ∀ x, (x = o ∨ x = l ∨ x = g) → Given A K H8 x us := fun x h => by
      rcases h with rfl | rfl | rfl
      · exact .inl (.of ho8)
      · exact .inr (.inl (.inl (.inl hl8)))
      · exact .inr (.inr ⟨gl, I8⟩)
    clear k5 tabs5 due ho5 hq5 ho6 e6 e7 e8 e58 I7 I8 hl hl8 hu6 hu8 nl nr
    walk_at "go"
    refine ⟨⟨_, .inl (.inl hr8)⟩, for_tup (xs := [.ref o, .ref l, .ref g]) (fun j σ H' => (∃ y4 y5 y6 y7 y8 : Option V, σ = [some (.ref b), some (.ref o), some (.ref q), some (.ref t), y4, y5, y6, y7, y8]) ∧ Vc.EdX [] H8 H' ∧ LamX.Tabs Tb H') ⟨⟨_, _, _, _, _, rfl⟩, .refl, tabs8⟩ (fun j σ H' _ q => .inl (.inl (q.2.1.tup _ _ hr8))) ?_ ?_⟩
    · rintro j y σ H9 hj ⟨⟨y4, y5, y6, y7, y8, rfl⟩, e9, tabs9⟩
      obtain ⟨one, h1, rfl⟩ : ∃ x, (x = o ∨ x = l ∨ x = g) ∧ y = .ref x := by
        match j, hj with
        | 0, hj => exact ⟨o, .inl rfl, (Option.some.inj hj).symm⟩
        | 1, hj => exact ⟨l, .inr (.inl rfl), (Option.some.inj hj).symm⟩
        | 2, hj => exact ⟨g, .inr (.inr rfl), (Option.some.inj hj).symm⟩
        | n + 3, hj => cases hj
      have G9 := (giv one h1).edx e9
      have ho9 := e9.at0 ho8
      have hq9 := e9.at0 hq8
      have due9 := due8.edx e9
      clear giv h1 hj
      walk_at "go"
      intro l2 nl2
      generalize hu10 : upd _ l2 _ = H10
      obtain ⟨e10, hl2⟩ := Vc.alloc hu10 nl2
      have hq10 := e10.at0 hq9
      show tCons (tMake A.C_Image (spImgInit A K) [] E0 (tCons (tVar 2) tNil)) tNil _ _ _
      walk_at "go"
      refine mk_image hq10 (by omega) wby fun g2 gl2 H11 e11 _ _ I11 => ?_
      walk_at "go"
      intro r2 nr2
      generalize hu12 : upd _ r2 _ = H12
      obtain ⟨e12, hr12⟩ := Vc.alloc hu12 nr2
      have e912 := (e10.ex e11).ex e12
      have ho12 := e912.at0 ho9
      have hq12 := e912.at0 hq9
      have hl12 := e12.at0 (e11.at0 hl2)
      have I12 := I11.ed0 e12
      have due12 := due9.edx (.of e912)
      have tabs12 := Vc.tabs_ed0 tabs9 e912
      have G12 := G9.ed0 e912
      have e812 := e9.ex (.of e912)
      have giv : ∀ x, (x = q ∨ x = l2 ∨ x = g2) → Given A K H12 x ws := fun x h => by
        rcases h with rfl | rfl | rfl
        · exact .inl (.of hq12)
        · exact .inr (.inl (.inl (.inl hl12)))
        · exact .inr (.inr ⟨gl2, I12⟩)
      clear due9 ho9 hq9 hq10 e10 e11 e12 e912 I11 I12 hl2 hl12 hu10 hu12 nl2 nr2 G9 e9 tabs9
      walk_at "go"
      refine ⟨⟨_, .inl (.inl hr12)⟩, for_tup (xs := [.ref q, .ref l2, .ref g2]) (fun j σ H' => (∃ y5 y6 y7 y8 : Option V, σ = [some (.ref b), some (.ref o), some (.ref q), some (.ref t), some (.ref one), y5, y6, y7, y8]) ∧ Vc.EdX [] H12 H' ∧ LamX.Tabs Tb H') ⟨⟨_, _, _, _, rfl⟩, .refl, tabs12⟩ (fun j σ H' _ q => .inl (.inl (q.2.1.tup _ _ hr12))) ?_ ?_⟩
      · rintro j y σ H13 hj ⟨⟨y5, y6, y7, y8, rfl⟩, e13, tabs13⟩
        obtain ⟨oth, h1, rfl⟩ : ∃ x, (x = q ∨ x = l2 ∨ x = g2) ∧ y = .ref x := by
          match j, hj with
          | 0, hj => exact ⟨q, .inl rfl, (Option.some.inj hj).symm⟩
          | 1, hj => exact ⟨l2, .inr (.inl rfl), (Option.some.inj hj).symm⟩
          | 2, hj => exact ⟨g2, .inr (.inr rfl), (Option.some.inj hj).symm⟩
          | n + 3, hj => cases hj
        have F13 := (giv oth h1).edx e13
        have G13 := G12.edx e13
        have ho13 := e13.at0 ho12
        have hq13 := e13.at0 hq12
        have due13 := due12.edx e13
        have fit := due_fits u24 w24 wby
        clear giv h1 hj
        walk_at "go"
        refine Vc.go_lam tabs13 fun H14 e14 tabs14 => ?_
        have F14 := F13.edx e14
        have G14 := G13.edx e14
        refine theard_split (fun v H' => ∃ t, v = .ref t ∧ Vc.EdX [] H13 H' ∧ LamX.Tabs Tb H' ∧ DueB us ws t H') ?_ ?_
        · intro E9 R9 hE hR
          walk_at "go"
          refine ⟨one, oth, us, ws, rfl, G14, F14, u24, w24, wby, fun ne dd H15 e15 hdd => hE _ _ _ ⟨.len us.length ws.length, dd, rfl, rfl, hdd, fun t H16 e16 ht => ⟨t, rfl, (e14.ex (.of e15)).ex (.of e16), Vc.tabs_ed0 (Vc.tabs_ed0 tabs14 e15) e16, .inl ⟨ne, ht⟩⟩⟩, fun eq p d H15 e15 _ Z => ?_⟩
          have okd := diffP_ok (vs := us) wby (by omega)
          exact ⟨p, d, _, rfl, Z, okd.nd, okd.few, fun S H16 e16 PS => hR _ _ fun t H17 e17 ht => ⟨t, rfl, (e14.ex (.of e15)).ex ((Vc.EdX.of e16).ex (.of e17)), Vc.tabs_ed0 (Vc.tabs_ed0 (Vc.tabs_ed0 tabs14 e15) e16) e17, .inr ⟨eq, S, ht, PS.ed e17 (fun z => nomatch z)⟩⟩⟩
        clear F14 G14 e14 tabs14
        rintro v H14 ⟨t2, rfl, e14, tabs14, due14⟩
        have due14' := due13.edx e14
        have F14 := F13.edx e14
        have G14 := G13.edx e14
        have ho14 := e14.at0 ho13
        have hq14 := e14.at0 hq13
        have e1214 := e13.ex e14
        clear F13 G13 ho13 hq13 due13 e13 e14 tabs13
        walk_at "go"
        refine ⟨_, _, rfl, due14.dp, fit, ?_⟩
        walk_at "go"
        refine ⟨_, _, rfl, due14'.dp, fit, ?_⟩
        walk_at "go"
        refine ⟨one, us, rfl, G14, u24, fun S1 H15 e15 hS1 => ?_⟩
        have ho15 := e15.at0 ho14
        have F15 := F14.ed0 e15
        walk_at "go"
        refine go_neLs (.inl (.of hS1)) (.inl (.of ho15)) ?_
        rw [decide_eq_true rfl]
        walk_at "go"
        refine ⟨oth, ws, rfl, F15, w24, fun S2 H16 e16 hS2 => ?_⟩
        have hq16 := e16.at0 (e15.at0 hq14)
        walk_at "go"
        refine go_neLs (.inl (.of hS2)) (.inl (.of hq16)) ?_
        rw [decide_eq_true rfl]
        walk_at "go"
        exact ⟨⟨_, _, _, _, rfl⟩, e1214.ex (.of (e15.ex e16)), Vc.tabs_ed0 tabs14 (e15.ex e16)⟩
      · rintro σ H13 ⟨⟨y5, y6, y7, y8, rfl⟩, e13, tabs13⟩
        walk_at "go"
        exact ⟨⟨_, _, _, _, _, rfl⟩, e812.ex e13, tabs13⟩
    · rintro σ H9 ⟨⟨y4, y5, y6, y7, y8, rfl⟩, e9, tabs9⟩
      walk_at "go"
      exact k8 H9 e9 tabs9
end

end My
namespace My
open PySem PySem.Spec PyProof.Rows L2
/-! ### whether patches made of a dict are right -/
abbrev lamM : Str := ((("_law_made_right" : Str) ++ (".<locals>." : Str)) ++ ("<lambda>" : Str))
def spMade (Tb : List (Addr × Str)) : Sp := fun vs H Q _ => ∃ (d : Addr) (l : PL), vs = [.ref d] ∧ H d = some (.dK (kvsP l)) ∧ PrK l 10 ∧ LamX.Tabs Tb H ∧ ∀ H', Vc.EdX [] H H' → LamX.Tabs Tb H' → Q (.bl true) H'
/-- what a patch of a dict is due -/
def DueM (l : PL) (t : Addr) (H : Hp) : Prop := (∃ b a, PBad l b a ∧ H t = some (.tup (badE b a).tup)) ∨ (PtOk l ∧ ∃ L n, H t = some (.lst [.ref L]) ∧ PrsAt H L n ∧ Asc n l)
theorem DueM.edx {l : PL} {t : Addr} {H H' : Hp} (h : DueM l t H) (e : Vc.EdX [] H H') : DueM l t H' := by
  rcases h with ⟨b, a, h1, h2⟩ | ⟨ok, L, n, h1, h2, h3⟩
  · exact .inl ⟨b, a, h1, e.at0 h2⟩
  · exact .inr ⟨ok, L, n, e.at0 h1, h2.edx e, h3⟩
theorem PBad.perm {l m : PL} {b : Bool} {a : Int} (p : l.Perm m) (h : PBad l b a) : PBad m b a := by
  have mk : ∀ x, x ∈ m.map (·.1) ↔ x ∈ l.map (·.1) := fun x => (p.symm.map (·.1)).mem_iff
  cases h with
  | addr a h n lo => exact .addr a ((mk a).mpr h) n fun b hb => lo b ((mk b).mp hb)
  | byte q h pos n lo => exact .byte q (p.mem_iff.mp h) (fun b hb => pos b ((mk b).mp hb)) n fun r hr => lo r (p.mem_iff.mpr hr)
theorem PtOk.perm {l m : PL} (p : l.Perm m) (h : PtOk l) : PtOk m := ⟨(p.map (·.1)).nodup_iff.mp h.nd, fun q hq => h.lo q (p.mem_iff.mpr hq), fun q hq => h.by_ q (p.mem_iff.mpr hq), by rw [← p.length_eq]; exact h.few⟩
theorem Asc.perm {n l m : PL} (p : l.Perm m) (h : Asc n l) : Asc n m := ⟨h.pw, h.pm.trans p⟩
theorem tabs_dk {T : List (Addr × Str)} {H H' : Hp} {b : Addr} {kvs : List (Key × V)} (t : LamX.Tabs T H) (e : Vc.Ed [b] H H') (hb : H b = some (.dK kvs)) : LamX.Tabs T H' := Vc.tabs_ed t e fun a z => by
  rw [List.mem_singleton.mp z]
  exact .inr ⟨_, hb, (fun _ z => nomatch z), (fun c q z => by rw [Vc.code_kind] at z; cases z)⟩
theorem putPL_back {l : PL} {q : Int × Int} {b : Int} (nd : (l.map (·.1)).Nodup) (hq : q ∈ l) : putPL (putPL l q.1 b) q.1 q.2 = l := by
  have hk : q.1 ∈ l.map (·.1) := List.mem_map.mpr ⟨q, hq, rfl⟩
  have h1 : q.1 ∈ (putPL l q.1 b).map (·.1) := by rw [putPL_keys, if_pos hk]; exact hk
  have e1 : putPL l q.1 b = l.map (fun x => if x.1 = q.1 then (x.1, b) else x) := if_pos hk
  have e2 : putPL (putPL l q.1 b) q.1 q.2 = (putPL l q.1 b).map (fun x => if x.1 = q.1 then (x.1, q.2) else x) := if_pos h1
  rw [e2, e1, List.map_map]
  refine (List.map_congr_left fun x hx => ?_).trans (List.map_id l)
  show (if (if x.1 = q.1 then (x.1, b) else x).1 = q.1 then ((if x.1 = q.1 then (x.1, b) else x).1, q.2) else (if x.1 = q.1 then (x.1, b) else x)) = x
  by_cases c : x.1 = q.1
  · rw [if_pos c, if_pos c]
    obtain rfl := inj_on_nd nd hx hq c
    rfl
  · rw [if_neg c, if_neg c]
/-- the places below n that are free -/
def freeP (l : PL) : Nat → List Int
  | 0 => []
  | n + 1 => freeP l n ++ if (n : Int) ∈ l.map (·.1) then [] else [(n : Int)]
theorem freeP_yes {l : PL} {n : Nat} (h : (n : Int) ∈ l.map (·.1)) : freeP l (n + 1) = freeP l n := by
  show _ ++ _ = _
  rw [if_pos h, List.append_nil]
theorem freeP_no {l : PL} {n : Nat} (h : (n : Int) ∉ l.map (·.1)) : freeP l (n + 1) = freeP l n ++ [(n : Int)] := by
  show _ ++ _ = _
  rw [if_neg h]
theorem freeP_len (l : PL) : ∀ n, (freeP l n).length ≤ n
  | 0 => Nat.le_refl _
  | n + 1 => by
    have ih := freeP_len l n
    by_cases h : (n : Int) ∈ l.map (·.1)
    · rw [freeP_yes h]; omega
    · rw [freeP_no h, List.length_append]; show _ + 1 ≤ _; omega
theorem freeP_mem {l : PL} : ∀ {n : Nat} {x : Int}, x ∈ freeP l n ↔ 0 ≤ x ∧ x < n ∧ x ∉ l.map (·.1)
  | 0, x => ⟨fun h => (nomatch h), fun h => by have := h.1; have := h.2.1; omega⟩
  | n + 1, x => by
    by_cases h : (n : Int) ∈ l.map (·.1)
    · rw [freeP_yes h, freeP_mem]
      refine ⟨fun ⟨a, b, c⟩ => ⟨a, by omega, c⟩, fun ⟨a, b, c⟩ => ⟨a, ?_, c⟩⟩
      have : x ≠ (n : Int) := fun z => c (by rw [z]; exact h)
      omega
    · rw [freeP_no h, List.mem_append, freeP_mem, List.mem_singleton]
      constructor
      · rintro (⟨a, b, c⟩ | rfl)
        · exact ⟨a, by omega, c⟩
        · exact ⟨by omega, by omega, h⟩
      · rintro ⟨a, b, c⟩
        by_cases e : x = (n : Int)
        · exact .inr e
        · exact .inl ⟨a, by omega, c⟩
section
variable {w : World} {K : PySem.W.Frag} {mg : Str → Option Value} {base : Heap} {A : Ad} {Tb : List (Addr × Str)} {cL PL_ : Addr}
theorem ok__law_made_right (T : Txt K mg A) (LM : Vc.LamAt K mg base Tb A.f__law_made_right lamM cL PL_) (LK : Vc.FnG PG w K mg base CX0 12 A.f__law_looked A.d__law_looked ["_law_patch", "_law_pairs_here"] (spLooked A Tb)) : Vc.FnG PG w K mg base CX0 13 A.f__law_made_right A.d__law_made_right ["_law_pairs_here"] (spMade Tb) := by
  have G__law_looked := LK
  have G_Patchu_initu := ok_Patchu_initu (w := w) (base := base) T
  have G_Patchu_equ := ok_Patchu_equ (P := PG) (w := w) (base := base) T
  have G__law_due := ok__law_due (P := PG) (w := w) (base := base) T
  have G__law_shown := ok__law_shown (w := w) (base := base) T
  refine Vc.Fun.okGL T.F__law_made_right LM.co sc__law_made_right (fun vs H Q E h => ?_) (fun Ar outer s H vs Q E hgd hr h => ?_)
  · obtain ⟨d, l, rfl, _⟩ := h
    rfl
  · obtain ⟨d, l, rfl, hd, okl, tabs, k⟩ := h
    have hu := hu_of hr
    have few := okl.few
    have nd := okl.nd
    refine ⟨_, (pss_cons (ps_set (i := 1) sc__law_made_right.nd rfl (Or.inl rfl) (pe_callTy call_dictD (by rfl) T.n_dict (by decide +kernel) (pa_cons (pv 0) pa_nil))) (pss_cons (ps_set (i := 2) sc__law_made_right.nd rfl (Or.inl rfl) (pe_callTy (call_dictP rfl) (by rfl) T.n_dict (by decide +kernel) (pa_cons (pe_lc (own := [("_law_at", 8)]) (g := gName 8) rfl sc__law_made_right.nd (pi_list (pe_revL (pe_callTy (call_list_dK rfl) (by rfl) T.n_list (by decide +kernel) (pa_cons (pv 0) pa_nil)))) (blkOk_by (own := [("_law_at", 8)]) (N := ["_law_pairs_here", "_law_handed", "_law_turned_about", "_law_due_here", "_law_row", "_law_patch", "_law_less", "_law_more", "_law_at", "_law_thing"]) (sc := defScope s__law_made_right) (by decide +kernel)) (fun _ _ _ _ _ => by exact (pg_name (i := 8) sc__law_made_right.nd rfl (Or.inl rfl))) (fun _ _ _ _ _ => by exact pts_nil) (fun _ _ _ _ _ => by (refine' Vc.blkE ?h ?q; (case h => exact (pe_tup (pa_cons (pv 8) (pa_cons (pe_dget (by exact hu) (pv 0) (pv 8) (fun _ _ => rfl)) pa_nil)))); (case q => first | exact rfl | (dsimp only; done) | (dsimp only; exact rfl))))) pa_nil))) (pss_cons (ps_set (i := 3) sc__law_made_right.nd rfl (Or.inl rfl) (pe_call G__law_due (by exact hr.mono (by decide)) (by rfl) T.g__law_due T.F__law_due.kp T.b__law_due .nil pass0 (pa_cons (pv 0) pa_nil))) (pss_cons (ps_for PassesOwn.never rfl (pi_tup (pe_tup (pa_cons (pv 1) (pa_cons (pv 2) pa_nil)))) (pg_name (i := 4) sc__law_made_right.nd rfl (Or.inr rfl)) (pss_one (ps_if (pt_cmpR op_ne (pe_callB (Vc.call_reprD hgd (Vc.room64 hr)) (by rfl) T.n_repr (by decide +kernel) (pa_cons (Vc.pe_lamS (t := fun E => tCall (spShown A) [] E0 (tCons (Vc.tMakeS A.C_Patch (spPatInit A) (fun _ => E) (tCons (tVar 4) tNil)) tNil)) (T := Tb) (j := 9) (k := 8) T.F__law_heard (by rfl) T.g__law_heard T.b__law_heard sc__law_heard (by rfl) (.inl rfl) (fun cdg => gives__law_heard T cdg) LM.tb rfl LM.me LM.un (by exact hr.mono (by decide)) (by decide) (LamX.lamS_by (sc := defScope s__law_made_right) (by decide +kernel)) rfl (fun _ _ _ _ _ => rfl) (fun A9 outer9 s9 H9 E9 f9 c9 hrl => (pe_call G__law_shown (by exact hrl.mono (by decide)) (by rfl) T.g__law_shown T.F__law_shown.kp T.b__law_shown .nil pass0 (pa_cons (Vc.pe_makeS T.mk_Patch G_Patchu_initu (by exact hrl.mono (by decide)) (by rfl) T.g_Patch T.b_Patchu_initu (fun σ => passAt (takes_of rfl rfl rfl rfl) σ) (pa_cons (pv 4) pa_nil)) pa_nil)))) pa_nil)) (pe_callB (Vc.call_reprD hgd (Vc.room64 hr)) (by rfl) T.n_repr (by decide +kernel) (pa_cons (pv 3) pa_nil)) (nomark _)) (pss_one (ps_ret pe_bl)) pss_nil))) (pss_cons (ps_if (pt_not (pt_val (pe_callB call_isi (by rfl) T.n_isinstance (by decide +kernel) (pa_cons (pv 3) (pa_cons (pe_bltn (v := .ty "list") (by rfl) T.n_list (by decide +kernel) rfl) pa_nil))))) (pss_one (ps_ret (pe_cmpR (Vc.op_eqDI (by exact Vc.room66 hr)) (pv 1) (pv 0) (nomark _)))) pss_nil) (pss_cons (ps_set (i := 5) sc__law_made_right.nd rfl (Or.inr rfl) (pe_make T.mk_Patch G_Patchu_initu (by exact hr.mono (by decide)) (by rfl) T.g_Patch T.b_Patchu_initu .nil passL (pa_cons (pv 1) pa_nil))) (pss_cons (ps_if (PW.pt (pw_or (pt_cmpR (Vc.op_neDI (by exact Vc.room66 hr)) (pv 1) (pv 0) (nomark _)) (pw_or1 (pt_not (pt_cmpR (Vc.op_eqO G_Patchu_equ (by exact hr.mono (by decide)) T.eq_Patch T.b_Patchu_equ) (pv 5) (pe_make T.mk_Patch G_Patchu_initu (by exact hr.mono (by decide)) (by rfl) T.g_Patch T.b_Patchu_initu .nil passL (pa_cons (pv 2) pa_nil)) (nomark _)))))) (pss_one (ps_ret pe_bl)) pss_nil) (pss_cons (ps_dput (by exact hu) (pv 1) pe_int pe_int rfl) (pss_cons (ps_expr (pe_bm PySem.F.plainAttrs_dict PySem.F.slot_dict_pop PySem.F.type_dict_pop Vc.mt_dpop (pv 1) (pa_cons pe_int pa_nil))) (pss_cons (ps_expr (pe_dclear (pv 1))) (pss_cons (ps_if (pt_cmpR (op_neD (by exact hr.units)) (pe_lc (own := [("_law_thing", 9)]) (g := gName 9) rfl sc__law_made_right.nd (pi_tup (pe_tup (pa_cons pe_non (pa_cons pe_bl (pa_cons pe_int (pa_cons pe_str (pa_cons (pv 0) (pa_cons (pe_ix ix_seq (pv 3) pe_int (fun _ _ => rfl)) (pa_cons (pe_callTy Vc.call_tupD (by rfl) T.n_tuple (by decide +kernel) (pa_cons (pe_ix ix_seq (pv 3) pe_int (fun _ _ => rfl)) pa_nil)) pa_nil))))))))) (blkOk_by (own := [("_law_thing", 9)]) (N := ["_law_pairs_here", "_law_handed", "_law_turned_about", "_law_due_here", "_law_row", "_law_patch", "_law_less", "_law_more", "_law_at", "_law_thing"]) (sc := defScope s__law_made_right) (by decide +kernel)) (fun _ _ _ _ _ => by exact (pg_name (i := 9) sc__law_made_right.nd rfl (Or.inl rfl))) (fun _ _ _ _ _ => by (refine' Vc.blkT ?h ?q; (case h => exact pts_one (pt_cmpR (Vc.op_eqO G_Patchu_equ (by exact hr.mono (by decide)) T.eq_Patch T.b_Patchu_equ) (pv 5) (pv 9) (nomark _))); (case q => first | exact rfl | (dsimp only; done) | (dsimp only; exact rfl)))) (fun _ _ _ _ _ => by (refine' Vc.blkE ?h ?q; (case h => exact pe_int); (case q => first | exact rfl | (dsimp only; done) | (dsimp only; exact rfl))))) (pe_lst pa_nil) (nomark _)) (pss_one (ps_ret pe_bl)) pss_nil) (pss_cons (ps_set (i := 6) sc__law_made_right.nd rfl (Or.inl rfl) (pe_callTy call_dictD (by rfl) T.n_dict (by decide +kernel) (pa_cons (pv 0) pa_nil))) (pss_cons (ps_set (i := 7) sc__law_made_right.nd rfl (Or.inl rfl) (pe_callTy call_dictD (by rfl) T.n_dict (by decide +kernel) (pa_cons (pv 0) pa_nil))) (pss_cons (ps_dput (by exact hu) (pv 7) (pe_callB (cr_min rfl) (by rfl) T.n_min (by decide +kernel) (pa_cons (pe_lc (own := [("_law_at", 8)]) (g := gName 8) rfl sc__law_made_right.nd (pi_range1 (by rfl) T.n_range (pa_cons pe_int pa_nil)) (blkOk_by (own := [("_law_at", 8)]) (N := ["_law_pairs_here", "_law_handed", "_law_turned_about", "_law_due_here", "_law_row", "_law_patch", "_law_less", "_law_more", "_law_at", "_law_thing"]) (sc := defScope s__law_made_right) (by decide +kernel)) (fun _ _ _ _ _ => by exact (pg_name (i := 8) sc__law_made_right.nd rfl (Or.inl rfl))) (fun _ _ _ _ _ => by (refine' Vc.blkT ?h ?q; (case h => exact pts_one (pt_cmp (pc_dnotin (by exact hu) (pv 8) (pv 0)))); (case q => first | exact rfl | (dsimp only; done) | (dsimp only; exact rfl)))) (fun _ _ _ _ _ => by (refine' Vc.blkE ?h ?q; (case h => exact (pv 8)); (case q => first | exact rfl | (dsimp only; done) | (dsimp only; exact rfl))))) pa_nil)) pe_int rfl) (pss_cons (ps_if (PW.pt (pw_and (pt_cmpR op_lt (pe_callB call_lenD (by rfl) T.n_len (by decide +kernel) (pa_cons (pv 0) pa_nil)) pe_int (nomark _)) (pw_and1 (pt_cmpR (Vc.op_eqO G_Patchu_equ (by exact hr.mono (by decide)) T.eq_Patch T.b_Patchu_equ) (pv 5) (pe_make T.mk_Patch G_Patchu_initu (by exact hr.mono (by decide)) (by rfl) T.g_Patch T.b_Patchu_initu .nil passL (pa_cons (pv 7) pa_nil)) (nomark _))))) (pss_one (ps_ret pe_bl)) pss_nil) (pss_cons (ps_lock (ps_for PassesOwn.never rfl (pi_keys (pv 0)) (pg_name (i := 8) sc__law_made_right.nd rfl (Or.inl rfl)) (pss_cons (ps_dput (by exact hu) (pv 6) (pv 8) (pe_op op_sub pe_int (pe_dget (by exact hu) (pv 0) (pv 8) (fun _ _ => rfl))) rfl) (pss_cons (ps_if (pt_cmpR (Vc.op_eqO G_Patchu_equ (by exact hr.mono (by decide)) T.eq_Patch T.b_Patchu_equ) (pv 5) (pe_make T.mk_Patch G_Patchu_initu (by exact hr.mono (by decide)) (by rfl) T.g_Patch T.b_Patchu_initu .nil passL (pa_cons (pv 6) pa_nil)) (nomark _)) (pss_one (ps_ret pe_bl)) pss_nil) (pss_one (ps_dput (by exact hu) (pv 6) (pv 8) (pe_dget (by exact hu) (pv 0) (pv 8) (fun _ _ => rfl)) rfl)))))) (pss_one (ps_ret (pe_and (Vc.pe_callG G__law_looked hgd (by exact hr.mono (by decide)) (by rfl) T.g__law_looked T.F__law_looked.kp T.b__law_looked (pa_cons (pv 5) (pa_cons (pv 0) pa_nil))) (pe_one (pe_cmpR (op_eqD (by exact hr.units)) (pe_call G__law_shown (by exact hr.mono (by decide)) (by rfl) T.g__law_shown T.F__law_shown.kp T.b__law_shown .nil pass0 (pa_cons (pv 5) pa_nil)) (pe_ix ix_seq (pv 3) pe_int (fun _ _ => rfl)) (nomark _)))))))))))))))))))))), ?_⟩
    walk_at "go"
    refine ⟨d, kvsP l, rfl, .inl hd, fun h nh => ?_⟩
    generalize hu1 : upd _ h _ = H1
    obtain ⟨e1, hh⟩ := Vc.alloc hu1 nh
    have hd1 := e1.at0 hd
    walk_at "go"
    intro q nq
    generalize hu2 : upd _ q _ = H2
    obtain ⟨e2, hq⟩ := Vc.alloc hu2 nq
    rw [keys_kvsP] at hq
    walk_at "go"
    intro q2 nq2
    generalize hu3 : upd _ q2 _ = H3
    obtain ⟨e3, hq2⟩ := Vc.alloc hu3 nq2
    have hq2 : H3 q2 = some (.lst ((l.reverse.map (·.1)).map V.int)) := by rw [hq2, ← List.map_reverse, ← List.map_reverse]
    have hd3 := e3.at0 (e2.at0 hd1)
    generalize hlr : l.reverse = lr at hq2
    have plr : lr.Perm l := by rw [← hlr]; exact List.reverse_perm l
    have ndr : (lr.map (·.1)).Nodup := (plr.map (·.1)).nodup_iff.mpr nd
    have lenr : lr.length = l.length := plr.length_eq
    walk_at "go"
    refine ⟨⟨_, .of hq2⟩, Vc.lc_by (walk_list (xs := (lr.map (·.1)).map V.int)) (fun D j H' => Vc.Ed [] H3 H' ∧ PrsAt H' D (lr.take j)) (fun D H4 nD e4 hD => ⟨e4, [], hD, rfl, fun j t q z => (by simp at z)⟩) (fun D j H' _ _ q => .of (q.1.at0 hq2)) ?_ ?_⟩
    · rintro D j y H4 H5 nD hj ⟨e4, PD⟩ ⟨rfl, hy⟩
      rw [List.getElem?_map, List.getElem?_map] at hy
      obtain ⟨x, hx, rfl⟩ := Option.map_eq_some_iff.mp hy
      obtain ⟨qq, hqq, rfl⟩ := Option.map_eq_some_iff.mp hx
      have hd4 := e4.at0 hd3
      have hv := valP_mem nd (plr.mem_iff.mp (List.mem_of_getElem? hqq))
      walk_at "go"
      refine ⟨rfl, ?_⟩
      walk_at "go"
      intro t nt
      generalize hu4 : upd _ t _ = H6
      obtain ⟨e6, ht⟩ := Vc.alloc hu4 nt
      obtain ⟨ts, p1, p2, p3⟩ := PD
      have nDt := ne_of_none p1 nt
      have p1 := e6.at0 p1
      refine ⟨_, p1, by rw [List.length_map, p2, List.length_take]; exact small1000 (by omega), ?_⟩
      generalize hu5 : upd _ D _ = H7
      obtain ⟨e7, hD7⟩ := Vc.chg hu5 p1
      refine ⟨(e4.ex e6).one e7 (.inr nD), ?_⟩
      have := prs_snoc (q := qq) (t := t) p2 p3 ((e6.mono fun _ z => nomatch z).trans e7 fun a z => .inl z) (by rw [hD7, List.map_append]; rfl) (e7.at1 nDt.symm ht)
      rw [List.take_add_one, hqq]; exact this
    rintro D H4 nD ⟨e4, PD⟩
    rw [List.length_map, List.length_map, List.take_length] at PD
    obtain ⟨ts, t1, t2, t3⟩ := PD
    walk_at "go"
    refine ⟨D, ts, kvsP lr, rfl, .of t1, prs_paired ts lr t2 t3, fun u nu => ?_⟩
    rw [merge_self ndr]
    generalize hu5 : upd _ u _ = H5
    obtain ⟨e5, hu5'⟩ := Vc.alloc hu5 nu
    have e15 := (e2.ex e3).ex (e4.ex e5)
    have nhu : h ≠ u := fun z => by rw [z] at hh; have := (e2.ex (e3.ex e4)).at0 hh; rw [this] at nu; cases nu
    have ndu : d ≠ u := fun z => by rw [z] at hd3; have := e4.at0 hd3; rw [this] at nu; cases nu
    have ndh : d ≠ h := fun z => by rw [z, nh] at hd; cases hd
    have hh5 := e15.at0 hh
    have hd5 := e15.at0 hd1
    have e05 := e1.ex e15
    have nh0 := nh
    clear hh hd1 hd3 t1 t2 t3 e2 e3 e4 e5 e15 hq hq2 nq nq2 nD hu1 hu2 hu3 hu5 hlr
    walk_at "go"
    have due : ∀ (Q' : V → Hp → Prop), (∀ t H', Vc.Ed [] H5 H' → H5 t = none → DueM l t H' → Q' (.ref t) H') → spDue [.ref d] H5 Q' E0 := fun Q' kk => ⟨d, l, rfl, hd5, nd, by omega, fun b a t H6 bad e6 nt ht => kk t H6 e6 nt (.inl ⟨b, a, bad, by rw [badE_tup]; exact ht⟩), fun ok t L n H6 e6 nt ht PS asc => kk t H6 e6 nt (.inr ⟨ok, L, n, ht, PS, asc⟩)⟩
    refine due _ fun t H6 e6 nt due6 => ?_
    have hh6 := e6.at0 hh5
    have hd6 := e6.at0 hd5
    have hu6 := e6.at0 hu5'
    have e06 := e05.ex e6
    have tabs6 := Vc.tabs_ed0 tabs e06
    have k6 : ∀ H', Vc.EdX [] H6 H' → LamX.Tabs Tb H' → Q (.bl true) H' := fun H' e => k H' ((Vc.EdX.of e06).ex e)
    clear tabs e6 e05 hd5 hh5 hu5' due hd e1 nu
    walk_at "go"
    intro r nr
    generalize hu7 : upd _ r _ = H7
    obtain ⟨e7, hr7⟩ := Vc.alloc hu7 nr
    have hh7 := e7.at0 hh6
    have hd7 := e7.at0 hd6
    have hu7' := e7.at0 hu6
    have due7 := due6.edx (.of e7)
    have tabs7 := Vc.tabs_ed0 tabs6 e7
    have k7 : ∀ H', Vc.EdX [] H7 H' → LamX.Tabs Tb H' → Q (.bl true) H' := fun H' e => k6 H' ((Vc.EdX.of e7).ex e)
    clear k6 tabs6 hd6 hh6 hu6 due6 hu7 nr
    have key : ∀ {b : Bool} {x : Int}, PBad l b x → SmallI x := fun bad => by
      obtain ⟨q, hq, e⟩ := List.mem_map.mp bad.key
      rw [← e]; exact (okl.lo q hq).1
    have fitN : ∀ n, Asc n l → Vc.Fits (.list [prD n]) := fun n asc => pr_fits (fun q hq => ⟨(okl.lo q (asc.pm.mem_iff.mp hq)).1, okl.by_ q (asc.pm.mem_iff.mp hq)⟩) (by rw [asc.pm.length_eq]; omega)
    walk_at "go"
    refine ⟨⟨_, .inl (.inl hr7)⟩, for_tup (xs := [.ref h, .ref u]) (fun j σ H' => (∃ y4 : Option V, σ = [some (.ref d), some (.ref h), some (.ref u), some (.ref t), y4, none, none, none, none, none]) ∧ Vc.EdX [] H7 H' ∧ LamX.Tabs Tb H') ⟨⟨none, rfl⟩, .refl, tabs7⟩ (fun j σ H' _ q => .inl (.inl (q.2.1.tup _ _ hr7))) ?_ ?_⟩
    · rintro j y σ H8 hj ⟨⟨y4, rfl⟩, e8, tabs8⟩
      obtain ⟨row, lw, hrow, plw, rfl⟩ : ∃ row lw, H7 row = some (.dK (kvsP lw)) ∧ lw.Perm l ∧ y = .ref row := by
        match j, hj with
        | 0, hj => exact ⟨h, l, hh7, .refl _, (Option.some.inj hj).symm⟩
        | 1, hj => exact ⟨u, lr, hu7', plr, (Option.some.inj hj).symm⟩
        | n + 2, hj => cases hj
      have hrow8 := e8.at0 hrow
      have due8 := due7.edx e8
      clear hrow hj
      walk_at "go"
      refine Vc.go_lam tabs8 fun H9 e9 tabs9 => ?_
      have hrow9 := e9.at0 hrow8
      refine theard_split (fun v H' => ∃ t, v = .ref t ∧ Vc.EdX [] H8 H' ∧ LamX.Tabs Tb H' ∧ DueM l t H') ?_ ?_
      · intro E9 R9 hE hR
        walk_at "go"
        refine mk_patchE (R := fun p H' => spShown A [.ref p] H' R9 E0) hrow9 ((plw.map (·.1)).nodup_iff.mpr nd) (by rw [plw.length_eq]; omega) (fun b x dd H10 bad e10 hdd => hE _ _ _ ⟨badE b x, dd, by rw [badE_cls], rfl, by rw [badE_fld]; exact hdd, fun t H11 e11 ht => ⟨t, rfl, (e9.ex (.of e10)).ex (.of e11), Vc.tabs_ed0 (Vc.tabs_ed0 tabs9 e10) e11, .inl ⟨b, x, bad.perm plw, ht⟩⟩⟩) fun ok p f n H10 e10 _ _ Z asc => ?_
        have asc' : Asc n l := asc.perm plw
        exact ⟨p, f, n, rfl, Z, asc_nodup asc.pw, by rw [asc'.pm.length_eq]; omega, fun S H11 e11 PS => hR _ _ fun t H12 e12 ht => ⟨t, rfl, (e9.ex (.of e10)).ex ((Vc.EdX.of e11).ex (.of e12)), Vc.tabs_ed0 (Vc.tabs_ed0 (Vc.tabs_ed0 tabs9 e10) e11) e12, .inr ⟨ok.perm plw, S, n, ht, PS.ed e12 (fun z => nomatch z), asc'⟩⟩⟩
      clear hrow8 hrow9 e9 tabs9
      rintro v H9 ⟨t2, rfl, e9, tabs9, due9⟩
      have due9' := due8.edx e9
      walk_at "go"
      rcases due9 with ⟨b1, x1, bad1, ht1⟩ | ⟨ok1, L1, n1, ht1, PS1, asc1⟩
      · rcases due9' with ⟨b2, x2, bad2, ht2⟩ | ⟨ok2, _⟩
        · obtain ⟨rfl, rfl⟩ := bad1.uniq bad2
          refine ⟨_, _, rfl, WErr.dp _ ht1, badE_fits (key bad1), ?_⟩
          walk_at "go"
          refine ⟨_, _, rfl, WErr.dp _ ht2, badE_fits (key bad1), ?_⟩
          walk_at "go"
          exact ⟨⟨_, rfl⟩, e8.ex e9, tabs9⟩
        · exact (PBad.no ok2 bad1).elim
      · rcases due9' with ⟨b2, x2, bad2, ht2⟩ | ⟨ok2, L2, n2, ht2, PS2, asc2⟩
        · exact (PBad.no ok1 bad2).elim
        · obtain rfl := asc_eq asc1 asc2
          refine ⟨_, _, rfl, .lst (.inl (.of ht1)) (.cons PS1.dp .nil), fitN _ asc1, ?_⟩
          walk_at "go"
          refine ⟨_, _, rfl, .lst (.inl (.of ht2)) (.cons PS2.dp .nil), fitN _ asc1, ?_⟩
          walk_at "go"
          exact ⟨⟨_, rfl⟩, e8.ex e9, tabs9⟩
    · rintro σ H8 ⟨⟨y4, rfl⟩, e8, tabs8⟩
      have hh8 := e8.at0 hh7
      have hd8 := e8.at0 hd7
      have hu8 := e8.at0 hu7'
      have due8 := due7.edx e8
      have k8 : ∀ H', Vc.EdX [] H8 H' → LamX.Tabs Tb H' → Q (.bl true) H' := fun H' e => k7 H' (e8.ex e)
      clear k7 tabs7 hd7 hh7 hu7' due7 hr7
      rcases due8 with ⟨bb, x, bad, ht⟩ | ⟨ok, LL, n, ht, PS, asc⟩
      · walk_at "go"
        refine ⟨h, d, l, l, rfl, rfl, hh8, hd8, ?_⟩
        show Q (.bl (Vc.eqI l l)) H8
        rw [Vc.eqI_refl nd]
        exact k8 H8 .refl tabs8
      · walk_at "go"
        refine mk_patch hh8 ok fun p pd n1 H9 e9 np npd X9 asc1 => ?_
        obtain rfl := asc_eq asc asc1
        have hh9 := e9.at0 hh8
        have hd9 := e9.at0 hd8
        have hu9 := e9.at0 hu8
        have okn := asc.ok ok
        have nnd := okn.nd
        walk_at "go"
        refine ⟨h, d, l, l, rfl, rfl, hh9, hd9, ?_⟩
        rw [if_pos rfl, Vc.eqI_refl nd]
        walk_at "go"
        refine mk_patch hu9 (ok.perm plr.symm) fun p2 pd2 n2 H10 e10 np2 npd2 Y10 asc2 => ?_
        obtain rfl := asc_eq asc (asc2.perm plr)
        refine eq_patch T (X9.ed0 e10) Y10 ⟨_, rfl, ?_⟩
        rw [Vc.eqI_refl nnd]
        have e810 := e9.ex e10
        have npdd : pd ≠ d := fun z => by rw [z, hd8] at npd; cases npd
        have npd0 : pd ≠ h := fun z => by rw [z, hh8] at npd; cases npd
        have X10 := X9.ed0 e10
        have hh10 := e810.at0 hh8
        have hd10 := e810.at0 hd8
        have ht10 := e810.at0 ht
        have PS10 := PS.ed e810 (fun z => nomatch z)
        have tabs10 := Vc.tabs_ed0 tabs8 e810
        have e010 : Vc.EdX [] H H10 := (((Vc.EdX.of e06).ex (.of e7)).ex e8).ex (.of e810)
        clear k8 tabs8 hh8 hd8 hu8 ht PS X9 Y10 asc1 asc2 hh9 hd9 hu9 e9 e10 e810 e06 e7 e8 np npd np2 npd2
        walk_at "go"
        refine Vc.go_dputI hh10 (by rw [kvsP_len]; omega) ?_
        rw [kvsP_put]
        generalize hu11 : upd _ h _ = H11
        obtain ⟨e11, hh11⟩ := Vc.chg hu11 hh10
        walk_at "go"
        refine ⟨h, kvsP (putPL l 5 1), .inl 5, .int 1, rfl, rfl, hh11, valP_mem (q := (5, 1)) (putPL_nd nd 5 1) (putPL_iff.mpr (.inl rfl)), ?_⟩
        generalize hu12 : upd _ h _ = H12
        obtain ⟨e12, hh12⟩ := Vc.chg hu12 hh11
        walk_at "go"
        generalize hu13 : upd _ h _ = H13
        obtain ⟨e13, hh13⟩ := Vc.chg hu13 hh12
        have e1013 : Vc.Ed [h] H10 H13 := (e11.trans e12 fun a z => .inl z).trans e13 fun a z => .inl z
        have nph : p ≠ h := fun z => by obtain ⟨dz, hz⟩ := X10.ob; rw [z, hh10] at hz; cases hz
        have npdh : pd ≠ h := fun z => by rw [z] at npd0; exact npd0 rfl
        have X13 := X10.ed e1013 (fun z => nph (List.mem_singleton.mp z)) (fun z => npdh (List.mem_singleton.mp z))
        have hd13 := e1013.at1 ndh hd10
        have nth : t ≠ h := fun z => by rw [z, hh10] at ht10; cases ht10
        have nLh : LL ≠ h := fun z => by obtain ⟨zs, hz, _⟩ := PS10.ex; rw [z, hh10] at hz; cases hz
        have ht13 := e1013.at1 nth ht10
        have PS13 := PS10.ed e1013 (fun z => nLh (List.mem_singleton.mp z))
        have tabs13 := tabs_dk tabs10 e1013 hh10
        have e013 : Vc.EdX [] H H13 := e010.one (.of e1013) (.inr (.inl nh0))
        clear e11 e12 e13 hu11 hu12 hu13 hh10 hh11 hh12 X10 hd10 ht10 PS10 tabs10 e010 e1013 nph npdh nth nLh hh13 npd0
        walk_at "go"
        refine .inl (Vc.go_ixL (.of ht13) rfl ?_)
        walk_at "go"
        refine .inl (Vc.go_ixL (.of ht13) rfl ?_)
        obtain ⟨ts3, q1, q2, q3⟩ := id PS13.ex
        walk_at "go"
        intro tt ntt
        generalize hu14 : upd _ tt _ = H14
        obtain ⟨e14, htt⟩ := Vc.alloc hu14 ntt
        have hd14 := e14.at0 hd13
        have q14 := e14.at0 q1
        have X14 := X13.ed0 e14
        walk_at "go"
        intro bt nbt
        generalize hu15 : upd _ bt _ = H15
        obtain ⟨e15, hbt⟩ := Vc.alloc hu15 nbt
        have hd15 := e15.at0 hd14
        have q15 := e15.at0 q14
        have htt15 := e15.at0 htt
        have X15 := X14.ed0 e15
        walk_at "go"
        refine ⟨⟨_, .inl (.inl hbt)⟩, Vc.lc_by (walk_tup (xs := [.non, .bl true, .int 0, .str "", .ref d, .ref LL, .ref tt])) (fun D j H' => Vc.Ed [] H15 H' ∧ H' D = some (.lst [])) (fun D H16 nD e16 hD => ⟨e16, hD⟩) (fun D j H' _ _ q => .inl (.inl (q.1.tup _ _ hbt))) ?_ ?_⟩
        · rintro D j y H16 H17 nD hj ⟨e16, hD⟩ ⟨rfl, hy⟩
          obtain ⟨ty, h1, h2, h3⟩ : ∃ ty, TyX K H17 y ty ∧ PySem.W.notFirst K A.C_Patch ty = true ∧ PySem.W.kitOne K ty (.ref A.C_Patch) = some false := by
            match j, hy with
            | 0, hy => exact ⟨_, by rw [← Option.some.inj hy]; exact .base .non, T.nf_NoneType_Patch, T.kt_NoneType_Patch⟩
            | 1, hy => exact ⟨_, by rw [← Option.some.inj hy]; exact .base (.bl _), T.nf_bool_Patch, T.kt_bool_Patch⟩
            | 2, hy => exact ⟨_, by rw [← Option.some.inj hy]; exact .base (.int _), T.nf_int_Patch, T.kt_int_Patch⟩
            | 3, hy => exact ⟨_, by rw [← Option.some.inj hy]; exact .base (.str _), T.nf_str_Patch, T.kt_str_Patch⟩
            | 4, hy => exact ⟨_, by rw [← Option.some.inj hy]; exact .base (.dK (e16.at0 hd15)), T.nf_dict_Patch, T.kt_dict_Patch⟩
            | 5, hy => exact ⟨_, by rw [← Option.some.inj hy]; exact .base (.lst (e16.at0 q15)), T.nf_list_Patch, T.kt_list_Patch⟩
            | 6, hy => exact ⟨_, by rw [← Option.some.inj hy]; exact .base (.tup (e16.at0 htt15)), T.nf_tuple_Patch, T.kt_tuple_Patch⟩
            | n + 7, hy => cases hy
          walk_at "go"
          refine ⟨rfl, ?_⟩
          walk_at "go"
          refine eq_other (X15.ed0 e16) h1 h2 h3 ⟨_, rfl, ?_⟩
          walk_at "go"
          exact ⟨e16, hD⟩
        rintro D H16 nD ⟨e16, hD⟩
        walk_at "go"
        intro z1 nz1
        generalize hu17 : upd _ z1 _ = H17
        obtain ⟨e17, hz1⟩ := Vc.alloc hu17 nz1
        refine go_neLs (ns := []) (ms := []) (.inl (.of (e17.at0 hD))) (.inl (.of hz1)) ?_
        have e1317 := (e14.ex e15).ex (e16.ex e17)
        have hd17 := e1317.at0 hd13
        have ht17 := e1317.at0 ht13
        have PS17 := PS13.ed e1317 (fun z => nomatch z)
        have X17 := X13.ed0 e1317
        have tabs17 := Vc.tabs_ed0 tabs13 e1317
        have e017 := e013.ex (.of e1317)
        clear hd15 q15 htt15 X15 hbt q14 hd14 X14 htt e14 e15 e16 e17 e1317 q1 q2 q3 hd13 ht13 PS13 X13 tabs13 e013 hD hz1 nbt ntt nD nz1 hu14 hu15 hu17
        walk_at "go"
        refine ⟨d, kvsP l, rfl, .inl hd17, fun le nle => ?_⟩
        have nled : le ≠ d := fun z => by rw [z, hd17] at nle; cases nle
        have nple : p ≠ le := by obtain ⟨dz, hz⟩ := X17.ob; exact ne_of_none hz nle
        have npdle : pd ≠ le := ne_of_none X17.ds nle
        have ntle : t ≠ le := ne_of_none ht17 nle
        have nLle : LL ≠ le := by obtain ⟨zs, hz, _⟩ := PS17.ex; exact ne_of_none hz nle
        have nle0 := (Vc.EdX.new e017 (.inl nle)).resolve_left (fun z => nomatch z)
        generalize hu18 : upd _ le _ = H18
        obtain ⟨e18, hle⟩ := Vc.alloc hu18 nle
        have hd18 := e18.at0 hd17
        walk_at "go"
        refine ⟨d, kvsP l, rfl, .inl hd18, fun mo nmo => ?_⟩
        generalize hu19 : upd _ mo _ = H19
        obtain ⟨e19, hmo⟩ := Vc.alloc hu19 nmo
        have hd19 := e19.at0 hd18
        have hle19 := e19.at0 hle
        walk_at "go"
        refine ⟨by omega, by omega, Vc.lc_by walk_range (fun D i H' => Vc.Ed [] H19 H' ∧ H' D = some (.lst ((freeP l i).map V.int))) (fun D H20 nD e20 hD => ⟨e20, hD⟩) (fun _ _ _ _ _ _ => trivial) ?_ ?_⟩
        · rintro D i y H20 H21 nD hi ⟨e20, hD⟩ ⟨rfl, rfl⟩
          have hi : i < 25 := by simpa using hi
          have hd20 := e20.at0 hd19
          walk_at "go"
          refine ⟨rfl, ?_⟩
          walk_at "go"
          rw [valP_is]
          have fl := freeP_len l i
          by_cases c : (0 + (i : Int)) ∈ l.map (·.1)
          · rw [decide_eq_true c]
            walk_at "go"
            rw [Int.zero_add] at c
            rw [freeP_yes c]
            exact ⟨e20, hD⟩
          · rw [decide_eq_false c]
            walk_at "go"
            refine ⟨_, hD, by rw [List.length_map]; exact small1000 (by omega), ?_⟩
            generalize hu21 : upd _ D _ = H22
            obtain ⟨e22, hD22⟩ := Vc.chg hu21 hD
            refine ⟨e20.one e22 (.inr nD), ?_⟩
            have hD22 : H22 D = some (.lst ((freeP l i).map V.int ++ [V.int (0 + (i : Int))])) := hD22
            rw [Int.zero_add] at c hD22
            rw [hD22, freeP_no c, List.map_append]; rfl
        rintro D H20 nD ⟨e20, hD⟩
        have hD : H20 D = some (.lst ((freeP l 25).map V.int)) := hD
        have m24 : (24 : Int) ∈ freeP l 25 := freeP_mem.mpr ⟨by omega, by omega, fun z => by
          obtain ⟨q, hq, e⟩ := List.mem_map.mp z
          have := (okl.lo q hq).2
          omega⟩
        walk_at "go"
        refine ⟨D, _, rfl, .of hD, List.length_pos_iff.mpr (fun z => by rw [z] at m24; cases m24), fun m hm _ => ?_⟩
        obtain ⟨mm0, mm1, mnot⟩ := freeP_mem.mp hm
        have hd20 := e20.at0 hd19
        have hle20 := e20.at0 hle19
        have hmo20 := e20.at0 hmo
        walk_at "go"
        refine Vc.go_dputI hmo20 (by rw [kvsP_len]; omega) ?_
        rw [kvsP_put]
        generalize hu21 : upd _ mo _ = H21
        obtain ⟨e21, hmo21⟩ := Vc.chg hu21 hmo20
        have ndm : d ≠ mo := fun z => by rw [z, nmo] at hd18; cases hd18
        have nlm : le ≠ mo := fun z => by rw [z, nmo] at hle; cases hle
        have e1721 : Vc.Ed [] H17 H21 := (((e18.ex e19).ex e20).one e21 (.inr (e18.dom _ nmo)))
        have hd21 := e21.at1 ndm hd20
        have hle21 := e21.at1 nlm hle20
        have X21 := X17.ed0 e1721
        have ht21 := e1721.at0 ht17
        have PS21 := PS17.ed e1721 (fun z => nomatch z)
        have tabs21 := Vc.tabs_ed0 tabs17 e1721
        have e021 := e017.ex (.of e1721)
        have okm : PtOk (putPL l m 3) := ⟨putPL_nd nd _ _, fun q hq => by
          rcases putPL_mem hq with rfl | hq
          · exact mm0
          · exact ok.lo q hq, fun q hq => by
          rcases putPL_mem hq with rfl | hq
          · show (0 : Int) ≤ 3 ∧ (3 : Int) ≤ 255; omega
          · exact ok.by_ q hq, by have := putPL_len l m 3; omega⟩
        have lenm : (putPL l m 3).length = l.length + 1 := by unfold putPL; rw [if_neg mnot, List.length_append]; rfl
        clear e18 e19 e20 e21 hd18 hd19 hd20 hle hle19 hle20 hmo hmo20 hD e1721 X17 ht17 PS17 tabs17 e017 hu18 hu19 hu21 nD
        walk_at "go"
        rw [kvsP_len]
        refine Vc.go_ite (fun g => ?_) (fun g => (by omega))
        walk_at "go"
        refine mk_patch hmo21 okm fun p3 pd3 n3 H22 e22 _ _ Y22 asc3 => ?_
        refine eq_patch T (X21.ed0 e22) Y22 ⟨_, rfl, ?_⟩
        have ne3 : Vc.eqI n n3 = false := Bool.eq_false_iff.mpr fun z => by
          have h1 := (Vc.eqI_sub z).1
          rw [asc.pm.length_eq, asc3.pm.length_eq, lenm] at h1
          omega
        rw [ne3]
        have hd22 := e22.at0 hd21
        have hle22 := e22.at0 hle21
        have X22 := X21.ed0 e22
        have ht22 := e22.at0 ht21
        have PS22 := PS21.ed e22 (fun z => nomatch z)
        have tabs22 := Vc.tabs_ed0 tabs21 e22
        have e022 := e021.ex (.of e22)
        clear e22 hd21 hle21 X21 ht21 PS21 tabs21 e021 Y22 asc3 ne3 hmo21 okm
        walk_at "go"
        have npdX : p ≠ d := fun z => by obtain ⟨dz, hz⟩ := X22.ob; rw [z, hd22] at hz; cases hz
        refine Vc.lock_keys rfl hd22 [le] (fun H23 i σ' H' => (∃ y z : Option V, σ' = [some (.ref d), some (.ref h), some (.ref u), some (.ref t), y4, some (.ref p), some (.ref le), some (.ref mo), y, z]) ∧ Vc.Ed [le] H23 H' ∧ H' le = some (.dK (kvsP l))) (fun _ _ _ _ h => h.2.1) (fun H23 od e2 h2 => ⟨⟨_, _, rfl⟩, .refl, e2.at1 nled hle22⟩) ?_ ?_
        · rintro H23 od i kk ww σ' H24 e23 h23 h24 hk ⟨⟨y, z, rfl⟩, e24, hle24⟩
          unfold kvsP at hk
          rw [List.getElem?_map] at hk
          obtain ⟨q, hq, eq⟩ := Option.map_eq_some_iff.mp hk
          obtain ⟨rfl, rfl⟩ := Prod.mk.inj eq
          have hqm := List.mem_of_getElem? hq
          have hv := valP_mem nd hqm
          have X24 := (X22.ed e23 (fun z => npdX (List.mem_singleton.mp z)) (fun z => npdd (List.mem_singleton.mp z))).ed e24 (fun z => nple (List.mem_singleton.mp z)) (fun z => npdle (List.mem_singleton.mp z))
          change gName 8 (V.int q.1) _ _ _
          walk_at "go"
          refine Vc.go_dputI hle24 (by rw [kvsP_len]; omega) ?_
          rw [kvsP_put]
          generalize hu25 : upd _ le _ = H25
          obtain ⟨e25, hle25⟩ := Vc.chg hu25 hle24
          have X25 := X24.ed e25 (fun z => nple (List.mem_singleton.mp z)) (fun z => npdle (List.mem_singleton.mp z))
          have hd25 : H25 d = some (.frz od (.dK (kvsP l))) := e25.frz _ _ _ h24
          have qb := ok.by_ q hqm
          have okq : PtOk (putPL l q.1 (255 - q.2)) := ⟨putPL_nd nd _ _, fun x hx => by
            rcases putPL_mem hx with rfl | hx
            · exact ok.lo q hqm
            · exact ok.lo x hx, fun x hx => by
            rcases putPL_mem hx with rfl | hx
            · show (0 : Int) ≤ 255 - q.2 ∧ 255 - q.2 ≤ 255; omega
            · exact ok.by_ x hx, by have := putPL_len l q.1 (255 - q.2); omega⟩
          walk_at "go"
          refine mk_patch hle25 okq fun p4 pd4 n4 H26 e26 _ _ Y26 asc4 => ?_
          refine eq_patch T (X25.ed0 e26) Y26 ⟨_, rfl, ?_⟩
          have ne4 : Vc.eqI n n4 = false := Bool.eq_false_iff.mpr fun z => by
            have h1 := (Vc.eqI_sub z).2 q (asc.pm.mem_iff.mpr hqm)
            rcases putPL_iff.mp (asc4.pm.mem_iff.mp h1) with h2 | h2
            · have := congrArg Prod.snd h2
              have : q.2 = 255 - q.2 := this
              omega
            · exact h2.2 rfl
          rw [ne4]
          have hle26 := e26.at0 hle25
          have hd26 : H26 d = some (.frz od (.dK (kvsP l))) := e26.frz _ _ _ hd25
          walk_at "go"
          refine Vc.go_dputI hle26 (by rw [kvsP_len]; have := putPL_len l q.1 (255 - q.2); omega) ?_
          rw [kvsP_put, putPL_back nd hqm]
          generalize hu27 : upd _ le _ = H27
          obtain ⟨e27, hle27⟩ := Vc.chg hu27 hle26
          exact ⟨⟨_, _, rfl⟩, ((e24.one e25 (.inl (by simp))).ex e26).one e27 (.inl (by simp)), hle27⟩
        rintro H23 σ' H24 H25 e23 ⟨⟨y, z, rfl⟩, e24, hle24⟩ e25 hd25 k25
        have X25 := X22.ed e25 (fun z => nple (List.mem_singleton.mp z)) (fun z => npdle (List.mem_singleton.mp z))
        have ht25 := e25.at1 ntle ht22
        have PS25 := PS22.ed e25 (fun z => nLle (List.mem_singleton.mp z))
        have tabs25 := tabs_dk tabs22 e25 hle22
        have e025 := e022.one (.of e25) (.inr nle0)
        clear e23 e24 hle24 k25 X22 hd22 hle22 ht22 PS22 tabs22 e022 e25
        walk_at "go"
        refine ⟨p, pd, d, n, l, rfl, X25, hd25, asc, okl, tabs25, fun H26 e26 tabs26 => ?_⟩
        have X26 := X25.edx e26
        have ht26 := e26.at0 ht25
        have PS26 := PS25.edx e26
        walk_at "go"
        refine ⟨p, pd, n, rfl, X26, nnd, by rw [asc.pm.length_eq]; omega, fun S H27 e27 PS27 => ?_⟩
        have ht27 := e27.at0 ht26
        walk_at "go"
        refine .inl (Vc.go_ixL (.of ht27) rfl ?_)
        refine go_eqPr PS27 (PS26.ed e27 (fun z => nomatch z)) ?_
        exact k H27 ((e025.ex e26).ex (.of e27)) (Vc.tabs_ed0 tabs26 e27)
end

end My
namespace My
open PySem PySem.Spec PyProof.Rows L2
/-! ### the law -/
def spLaw (K : PySem.W.Frag) (Tb : List (Addr × Str)) : Sp := fun vs H Q _ => ∃ (a : Addr) (ns : List Int), vs = [.ref a] ∧ SqL K H a (ns.map V.int) ∧ ns.length ≤ 63 ∧ LamX.Tabs Tb H ∧ ∀ H', Q (.bl true) H'
section
variable {w : World} {K : PySem.W.Frag} {mg : Str → Option Value} {base : Heap} {A : Ad} {Tb : List (Addr × Str)} {c1 P1 c2 P2 c3 P3 c4 P4 c5 P5 : Addr}
theorem ok_law (T : Txt K mg A) (L1 : Vc.LamAt K mg base Tb A.f__law_looked lamK c1 P1) (L2 : Vc.LamAt K mg base Tb A.f__law_made_right lamM c2 P2) (L3 : Vc.LamAt K mg base Tb A.f__law_of_right lamF c3 P3) (L4 : Vc.LamAt K mg base Tb A.f__law_of_none_right lamN c4 P4) (L5 : Vc.LamAt K mg base Tb A.f__law_between_right lamB c5 P5) : Vc.FnG PG w K mg base CX0 16 A.f_law A.d_law ["_law_script"] (spLaw K Tb) := by
  have G__law_pen := ok__law_pen (P := PG) (w := w) (base := base) T
  have G__law_pairs := ok__law_pairs (P := PG) (w := w) (base := base) T
  have G__law_looked := ok__law_looked (w := w) (base := base) T L1
  have G__law_made_right := ok__law_made_right (w := w) (base := base) T L2 G__law_looked
  have G__law_of_right := ok__law_of_right (w := w) (base := base) T L3
  have G__law_of_none_right := ok__law_of_none_right (w := w) (base := base) T L4
  have G__law_between_right := ok__law_between_right (w := w) (base := base) T L5
  have G_Patchu_initu := ok_Patchu_initu (w := w) (base := base) T
  have G_Patchu_equ := ok_Patchu_equ (P := PG) (w := w) (base := base) T
  have G_Patchu_lenu := ok_Patchu_lenu (P := PG) (w := w) (base := base) T
  refine Vc.Fun.okG T.F_law sc_law (fun vs H Q E h => ?_) (fun cdv Ar outer s H vs Q E hgd hr h => ?_)
  · obtain ⟨a, ns, rfl, _⟩ := h
    rfl
  · obtain ⟨a, ns, rfl, hS, hl, tabs, k⟩ := h
    have hu := hu_of hr
    refine ⟨_, (pss_cons (ps_set (i := 1) sc_law.nd rfl (Or.inl rfl) (pe_call G__law_pen (by exact hr.mono (by decide)) (by rfl) T.g__law_pen T.F__law_pen.kp T.b__law_pen .nil pass0 (pa_cons (pv 0) pa_nil))) (pss_cons (ps_for PassesOwn.never rfl (pi_range1 (by rfl) T.n_range (pa_cons pe_int pa_nil)) (pg_name (i := 2) sc_law.nd rfl (Or.inl rfl)) (pss_one (ps_if (pt_not (pt_val (Vc.pe_callG G__law_made_right hgd (by exact hr.mono (by decide)) (by rfl) T.g__law_made_right T.F__law_made_right.kp T.b__law_made_right (pa_cons (pe_call G__law_pairs (by exact hr.mono (by decide)) (by rfl) T.g__law_pairs T.F__law_pairs.kp T.b__law_pairs .nil pass0 (pa_cons (pv 1) pa_nil)) pa_nil)))) (pss_one (ps_ret pe_bl)) pss_nil))) (pss_cons (ps_for PassesOwn.never rfl (pi_range1 (by rfl) T.n_range (pa_cons pe_int pa_nil)) (pg_name (i := 2) sc_law.nd rfl (Or.inl rfl)) (pss_one (ps_if (PW.pt (pw_or (pt_not (pt_val (Vc.pe_callG G__law_of_right hgd (by exact hr.mono (by decide)) (by rfl) T.g__law_of_right T.F__law_of_right.kp T.b__law_of_right (pa_cons (pv 1) pa_nil)))) (pw_or1 (pt_not (pt_val (Vc.pe_callG G__law_between_right hgd (by exact hr.mono (by decide)) (by rfl) T.g__law_between_right T.F__law_between_right.kp T.b__law_between_right (pa_cons (pv 1) pa_nil))))))) (pss_one (ps_ret pe_bl)) pss_nil))) (pss_cons (ps_if (pt_not (pt_val (Vc.pe_callG0 G__law_of_none_right hgd (by exact hr.mono (by decide)) (by rfl) T.g__law_of_none_right T.F__law_of_none_right.kp T.b__law_of_none_right))) (pss_one (ps_ret pe_bl)) pss_nil) (pss_one (ps_ret (pe_and (pe_cmpR op_eq (pe_callB (Vc.call_lenO G_Patchu_lenu (by exact hr.mono (by decide)) T.sp_Patch_Patchu_lenu T.b_Patchu_lenu) (by rfl) T.n_len (by decide +kernel) (pa_cons (pe_make T.mk_Patch G_Patchu_initu (by exact hr.mono (by decide)) (by rfl) T.g_Patch T.b_Patchu_initu .nil passL (pa_cons pe_dnewK pa_nil)) pa_nil)) pe_int (nomark _)) (pe_and (pe_cmpR (Vc.op_eqO G_Patchu_equ (by exact hr.mono (by decide)) T.eq_Patch T.b_Patchu_equ) (pe_make T.mk_Patch G_Patchu_initu (by exact hr.mono (by decide)) (by rfl) T.g_Patch T.b_Patchu_initu .nil passL (pa_cons pe_dnewK pa_nil)) (pe_make T.mk_Patch G_Patchu_initu (by exact hr.mono (by decide)) (by rfl) T.g_Patch T.b_Patchu_initu .nil passL (pa_cons pe_dnewK pa_nil)) (nomark _)) (pe_one (pe_not (pe_cmpR (Vc.op_eqO G_Patchu_equ (by exact hr.mono (by decide)) T.eq_Patch T.b_Patchu_equ) (pe_make T.mk_Patch G_Patchu_initu (by exact hr.mono (by decide)) (by rfl) T.g_Patch T.b_Patchu_initu .nil passL (pa_cons pe_dnewK pa_nil)) (pe_make T.mk_Patch G_Patchu_initu (by exact hr.mono (by decide)) (by rfl) T.g_Patch T.b_Patchu_initu .nil passL (pa_cons (pe_disp (pps_cons pe_int pe_int pps_nil) (by rfl) (by rfl) (fun z => by cases z) (by decide)) pa_nil)) (nomark _)))))))))))), ?_⟩
    walk_at "go"
    refine ⟨a, ns, rfl, hS, hl, fun b c H1 e1 hB1 nb nc => ?_⟩
    have tabs1 := Vc.tabs_ed0 tabs e1
    have lim : LIM = 1000000 := rfl
    clear hS tabs e1
    walk_at "go"
    refine ⟨by omega, by omega, for_it walk_range (fun j σ H' => (∃ y : Option V, σ = [some (.ref a), some (.ref b), y]) ∧ Pen H' b c (0 + 100 * j) ∧ LamX.Tabs Tb H') ⟨⟨none, rfl⟩, hB1, tabs1⟩ (fun _ _ _ _ _ => trivial) ?_ ?_⟩
    · rintro j x σ H2 H3 hj ⟨⟨y, rfl⟩, hB2, tabs2⟩ ⟨rfl, rfl⟩
      have hj : j < 6 := by simpa using hj
      walk_at "go"
      refine ⟨b, c, _, rfl, hB2, by omega, fun d l H3 e3 hB3 nd hd ok => ?_⟩
      obtain ⟨_, _, _, pb⟩ := hB2.lst
      have tabs3 := Vc.tabs_lst tabs2 e3 pb
      walk_at "go"
      refine ⟨d, l, rfl, hd, ok, tabs3, fun H4 e4 tabs4 => ?_⟩
      walk_at "go"
      exact ⟨⟨_, rfl⟩, (hB3.edx e4).up (by omega), tabs4⟩
    rintro σ H2 ⟨⟨y, rfl⟩, hB2, tabs2⟩
    have hB2 : Pen H2 b c 600 := hB2
    clear tabs1 hB1
    walk_at "go"
    refine ⟨by omega, by omega, for_it walk_range (fun j σ H' => (∃ y : Option V, σ = [some (.ref a), some (.ref b), y]) ∧ Pen H' b c (600 + 200 * j) ∧ LamX.Tabs Tb H') ⟨⟨y, rfl⟩, hB2, tabs2⟩ (fun _ _ _ _ _ => trivial) ?_ ?_⟩
    · rintro j x σ H3 H4 hj ⟨⟨y, rfl⟩, hB3, tabs3⟩ ⟨rfl, rfl⟩
      have hj : j < 3 := by simpa using hj
      walk_at "go"
      refine ⟨b, c, _, rfl, hB3, by omega, tabs3, fun H4 e4 hB4 tabs4 => ?_⟩
      walk_at "go"
      refine ⟨b, c, _, rfl, hB4, by omega, tabs4, fun H5 e5 hB5 tabs5 => ?_⟩
      walk_at "go"
      exact ⟨⟨_, rfl⟩, hB5.up (by omega), tabs5⟩
    rintro σ H3 ⟨⟨y, rfl⟩, hB3, tabs3⟩
    walk_at "go"
    refine ⟨rfl, tabs3, fun H4 e4 tabs4 => ?_⟩
    walk_at "go"
    intro q1 nq1
    generalize hu1 : upd _ q1 _ = G1
    obtain ⟨g1, hq1⟩ := Vc.alloc hu1 nq1
    walk_at "go"
    refine mk_patch (l := []) hq1 ptok_nil fun p1 f1 n1 J1 j1 _ _ X1 asc1 => ?_
    obtain rfl := asc_self asc1 .nil
    obtain ⟨dz, hz1⟩ := id X1.ob
    walk_at "go"
    refine ⟨p1, f1, [], rfl, X1, _, rfl, by decide, by decide, ?_⟩
    walk_at "go"
    intro q2 nq2
    generalize hu2 : upd _ q2 _ = G2
    obtain ⟨g2, hq2⟩ := Vc.alloc hu2 nq2
    walk_at "go"
    refine mk_patch (l := []) hq2 ptok_nil fun p2 f2 n2 J2 j2 _ _ X2 asc2 => ?_
    obtain rfl := asc_self asc2 .nil
    walk_at "go"
    intro q3 nq3
    generalize hu3 : upd _ q3 _ = G3
    obtain ⟨g3, hq3⟩ := Vc.alloc hu3 nq3
    walk_at "go"
    refine mk_patch (l := []) hq3 ptok_nil fun p3 f3 n3 J3 j3 _ _ X3 asc3 => ?_
    obtain rfl := asc_self asc3 .nil
    refine eq_patch T ((X2.ed0 g3).ed0 j3) X3 ⟨_, rfl, ?_⟩
    rw [show Vc.eqI ([] : PL) [] = true from rfl]
    walk_at "go"
    intro q4 nq4
    generalize hu4 : upd _ q4 _ = G4
    obtain ⟨g4, hq4⟩ := Vc.alloc hu4 nq4
    walk_at "go"
    refine mk_patch (l := []) hq4 ptok_nil fun p4 f4 n4 J4 j4 _ _ X4 asc4 => ?_
    obtain rfl := asc_self asc4 .nil
    walk_at "go"
    intro q5 nq5
    generalize hu5 : upd _ q5 _ = G5
    obtain ⟨g5, hq5⟩ := Vc.alloc hu5 nq5
    walk_at "go"
    refine ⟨hq5, [(.inl 0, .int 0)], rfl, by decide, ?_⟩
    generalize hu6 : upd _ q5 _ = G6
    obtain ⟨g6, hq6⟩ := Vc.chg hu6 hq5
    have hq6 : G6 q5 = some (.dK (kvsP [(0, 0)])) := hq6
    have g46 : Vc.Ed [] _ G6 := g5.one g6 (.inr nq5)
    have ok1 : PtOk [(0, 0)] := ⟨by decide, fun q hq => by rw [List.mem_singleton.mp hq]; decide, fun q hq => by rw [List.mem_singleton.mp hq]; decide, by decide⟩
    walk_at "go"
    refine mk_patch hq6 ok1 fun p5 f5 n5 J5 j5 _ _ X5 asc5 => ?_
    refine eq_patch T ((X4.ed0 g46).ed0 j5) X5 ⟨_, rfl, ?_⟩
    have ne : Vc.eqI [] n5 = false := Bool.eq_false_iff.mpr fun z => by
      have h1 := (Vc.eqI_sub z).1
      rw [asc5.pm.length_eq] at h1
      cases h1
    rw [ne]
    exact k J5
end

end My
namespace My
open PySem PySem.Spec PyProof.Rows L2
theorem un_0 {P0 P1 P2 P3 P4 : Addr} {q0 q1 q2 q3 q4 : Str} (n01 : P0 ≠ P1) (n02 : P0 ≠ P2) (n03 : P0 ≠ P3) (n04 : P0 ≠ P4) (n12 : P1 ≠ P2) (n13 : P1 ≠ P3) (n14 : P1 ≠ P4) (n23 : P2 ≠ P3) (n24 : P2 ≠ P4) (n34 : P3 ≠ P4) : ∀ p ∈ [(P0, q0), (P1, q1), (P2, q2), (P3, q3), (P4, q4)], p.1 = P0 → p.2 = q0 := by
  intro p hp z
  simp only [List.mem_cons, List.not_mem_nil, or_false] at hp
  rcases hp with h | h | h | h | h <;> rw [h] at z ⊢ <;> first | exact absurd z (by assumption) | exact absurd z.symm (by assumption)
theorem un_1 {P0 P1 P2 P3 P4 : Addr} {q0 q1 q2 q3 q4 : Str} (n01 : P0 ≠ P1) (n02 : P0 ≠ P2) (n03 : P0 ≠ P3) (n04 : P0 ≠ P4) (n12 : P1 ≠ P2) (n13 : P1 ≠ P3) (n14 : P1 ≠ P4) (n23 : P2 ≠ P3) (n24 : P2 ≠ P4) (n34 : P3 ≠ P4) : ∀ p ∈ [(P0, q0), (P1, q1), (P2, q2), (P3, q3), (P4, q4)], p.1 = P1 → p.2 = q1 := by
  intro p hp z
  simp only [List.mem_cons, List.not_mem_nil, or_false] at hp
  rcases hp with h | h | h | h | h <;> rw [h] at z ⊢ <;> first | exact absurd z (by assumption) | exact absurd z.symm (by assumption)
theorem un_2 {P0 P1 P2 P3 P4 : Addr} {q0 q1 q2 q3 q4 : Str} (n01 : P0 ≠ P1) (n02 : P0 ≠ P2) (n03 : P0 ≠ P3) (n04 : P0 ≠ P4) (n12 : P1 ≠ P2) (n13 : P1 ≠ P3) (n14 : P1 ≠ P4) (n23 : P2 ≠ P3) (n24 : P2 ≠ P4) (n34 : P3 ≠ P4) : ∀ p ∈ [(P0, q0), (P1, q1), (P2, q2), (P3, q3), (P4, q4)], p.1 = P2 → p.2 = q2 := by
  intro p hp z
  simp only [List.mem_cons, List.not_mem_nil, or_false] at hp
  rcases hp with h | h | h | h | h <;> rw [h] at z ⊢ <;> first | exact absurd z (by assumption) | exact absurd z.symm (by assumption)
theorem un_3 {P0 P1 P2 P3 P4 : Addr} {q0 q1 q2 q3 q4 : Str} (n01 : P0 ≠ P1) (n02 : P0 ≠ P2) (n03 : P0 ≠ P3) (n04 : P0 ≠ P4) (n12 : P1 ≠ P2) (n13 : P1 ≠ P3) (n14 : P1 ≠ P4) (n23 : P2 ≠ P3) (n24 : P2 ≠ P4) (n34 : P3 ≠ P4) : ∀ p ∈ [(P0, q0), (P1, q1), (P2, q2), (P3, q3), (P4, q4)], p.1 = P3 → p.2 = q3 := by
  intro p hp z
  simp only [List.mem_cons, List.not_mem_nil, or_false] at hp
  rcases hp with h | h | h | h | h <;> rw [h] at z ⊢ <;> first | exact absurd z (by assumption) | exact absurd z.symm (by assumption)
theorem un_4 {P0 P1 P2 P3 P4 : Addr} {q0 q1 q2 q3 q4 : Str} (n01 : P0 ≠ P1) (n02 : P0 ≠ P2) (n03 : P0 ≠ P3) (n04 : P0 ≠ P4) (n12 : P1 ≠ P2) (n13 : P1 ≠ P3) (n14 : P1 ≠ P4) (n23 : P2 ≠ P3) (n24 : P2 ≠ P4) (n34 : P3 ≠ P4) : ∀ p ∈ [(P0, q0), (P1, q1), (P2, q2), (P3, q3), (P4, q4)], p.1 = P4 → p.2 = q4 := by
  intro p hp z
  simp only [List.mem_cons, List.not_mem_nil, or_false] at hp
  rcases hp with h | h | h | h | h <;> rw [h] at z ⊢ <;> first | exact absurd z (by assumption) | exact absurd z.symm (by assumption)
theorem all_mk {w : World} {K : PySem.W.Frag} {h : Heap} {mg : Str → Option Value} {fa : Addr} (X : K.In h) (G : h.Ns mainGlobals mg) (hfa : mg "law" = some (.ref fa))
    {C_Image : Addr}
    {C_Patch : Addr}
    {f_is_byte : Addr} {oc1 kV1 dc1 pm1 cd1 ct1 : Value} {od1 an1 : Option Addr} {sl1 : Array (Option Value)}
    {f_check_bytes : Addr} {oc2 kV2 dc2 pm2 cd2 ct2 : Value} {od2 an2 : Option Addr} {sl2 : Array (Option Value)}
    {f_span_of : Addr} {oc3 kV3 dc3 pm3 cd3 ct3 : Value} {od3 an3 : Option Addr} {sl3 : Array (Option Value)}
    {f_Imageu_initu : Addr} {oc4 kV4 dc4 pm4 cd4 ct4 : Value} {od4 an4 : Option Addr} {sl4 : Array (Option Value)}
    {f_Imageu_lenu : Addr} {oc5 kV5 dc5 pm5 cd5 ct5 : Value} {od5 an5 : Option Addr} {sl5 : Array (Option Value)}
    {f_Imageu_iteru : Addr} {oc6 kV6 dc6 pm6 cd6 ct6 : Value} {od6 an6 : Option Addr} {sl6 : Array (Option Value)}
    {f_Imageu_getitemu : Addr} {oc7 kV7 dc7 pm7 cd7 ct7 : Value} {od7 an7 : Option Addr} {sl7 : Array (Option Value)}
    {f_Patchu_initu : Addr} {oc8 kV8 dc8 pm8 cd8 ct8 : Value} {od8 an8 : Option Addr} {sl8 : Array (Option Value)}
    {f_Patch_of : Addr} {oc9 kV9 dc9 pm9 cd9 ct9 : Value} {od9 an9 : Option Addr} {sl9 : Array (Option Value)}
    {sm9 : Addr} {rst9 : List Value}
    {f_Patch_between : Addr} {oc10 kV10 dc10 pm10 cd10 ct10 : Value} {od10 an10 : Option Addr} {sl10 : Array (Option Value)}
    {sm10 : Addr} {rst10 : List Value}
    {f_Patchu_lenu : Addr} {oc11 kV11 dc11 pm11 cd11 ct11 : Value} {od11 an11 : Option Addr} {sl11 : Array (Option Value)}
    {f_Patch_addresses : Addr} {oc12 kV12 dc12 pm12 cd12 ct12 : Value} {od12 an12 : Option Addr} {sl12 : Array (Option Value)}
    {f_Patchu_equ : Addr} {oc13 kV13 dc13 pm13 cd13 ct13 : Value} {od13 an13 : Option Addr} {sl13 : Array (Option Value)}
    {f_Patchu_containsu : Addr} {oc14 kV14 dc14 pm14 cd14 ct14 : Value} {od14 an14 : Option Addr} {sl14 : Array (Option Value)}
    {f_Patchu_getitemu : Addr} {oc15 kV15 dc15 pm15 cd15 ct15 : Value} {od15 an15 : Option Addr} {sl15 : Array (Option Value)}
    {f__law_pen : Addr} {oc16 kV16 dc16 pm16 cd16 ct16 : Value} {od16 an16 : Option Addr} {sl16 : Array (Option Value)}
    {f__law_draw : Addr} {oc17 kV17 dc17 pm17 cd17 ct17 : Value} {od17 an17 : Option Addr} {sl17 : Array (Option Value)}
    {f__law_pick : Addr} {oc18 kV18 dc18 pm18 cd18 ct18 : Value} {od18 an18 : Option Addr} {sl18 : Array (Option Value)}
    {f__law_word : Addr} {oc19 kV19 dc19 pm19 cd19 ct19 : Value} {od19 an19 : Option Addr} {sl19 : Array (Option Value)}
    {f__law_heard : Addr} {oc20 kV20 dc20 pm20 cd20 ct20 : Value} {od20 an20 : Option Addr} {sl20 : Array (Option Value)}
    {f__law_cells : Addr} {oc21 kV21 dc21 pm21 cd21 ct21 : Value} {od21 an21 : Option Addr} {sl21 : Array (Option Value)}
    {f__law_pairs : Addr} {oc22 kV22 dc22 pm22 cd22 ct22 : Value} {od22 an22 : Option Addr} {sl22 : Array (Option Value)}
    {f__law_due : Addr} {oc23 kV23 dc23 pm23 cd23 ct23 : Value} {od23 an23 : Option Addr} {sl23 : Array (Option Value)}
    {f__law_shown : Addr} {oc24 kV24 dc24 pm24 cd24 ct24 : Value} {od24 an24 : Option Addr} {sl24 : Array (Option Value)}
    {f__law_odd : Addr} {oc25 kV25 dc25 pm25 cd25 ct25 : Value} {od25 an25 : Option Addr} {sl25 : Array (Option Value)}
    {f__law_looked : Addr} {oc26 kV26 dc26 pm26 cd26 ct26 : Value} {od26 an26 : Option Addr} {sl26 : Array (Option Value)}
    {f__law_made_right : Addr} {oc27 kV27 dc27 pm27 cd27 ct27 : Value} {od27 an27 : Option Addr} {sl27 : Array (Option Value)}
    {f__law_of : Addr} {oc28 kV28 dc28 pm28 cd28 ct28 : Value} {od28 an28 : Option Addr} {sl28 : Array (Option Value)}
    {f__law_of_right : Addr} {oc29 kV29 dc29 pm29 cd29 ct29 : Value} {od29 an29 : Option Addr} {sl29 : Array (Option Value)}
    {f__law_of_none_right : Addr} {oc30 kV30 dc30 pm30 cd30 ct30 : Value} {od30 an30 : Option Addr} {sl30 : Array (Option Value)}
    {f__law_between_right : Addr} {oc31 kV31 dc31 pm31 cd31 ct31 : Value} {od31 an31 : Option Addr} {sl31 : Array (Option Value)}
    {f_law : Addr} {oc32 kV32 dc32 pm32 cd32 ct32 : Value} {od32 an32 : Option Addr} {sl32 : Array (Option Value)}
    {C_CodeError : Addr}
    {C_BadCodes : Addr}
    {C_BadLayout : Addr}
    {C_BadRewrite : Addr}
    {C_BadStep : Addr}
    {C_BadText : Addr}
    {C_NotRight : Addr}
    {C_NoWay : Addr}
    {C_BadInput : Addr}
    {C_BadAddress f_BadAddressu_initu cda33 cc33 : Addr} {oc33 kV33 dc33 pm33 ct33 : Value} {od33 an33 : Option Addr} {sl33 : Array (Option Value)}
    {nm33 q33 : Str} {N33 : Addr} {bs33 bm33 sub33 : List Value} {sn33 : List Str} {ab33 : Bool} {col33 : Option Bool} {dd33 : Option Addr} {ka33 kb33 kc33 kd33 ke33 : Option Value}
    {ccl33 ocl33 : Value} {ccd33 ocd33 : Option Addr} {vs33 : Array Value} {ccs33 ocs33 : Array (Option Value)} {file33 : Str} {tf33 : Tok}
    {C_BadByte f_BadByteu_initu cda34 cc34 : Addr} {oc34 kV34 dc34 pm34 ct34 : Value} {od34 an34 : Option Addr} {sl34 : Array (Option Value)}
    {nm34 q34 : Str} {N34 : Addr} {bs34 bm34 sub34 : List Value} {sn34 : List Str} {ab34 : Bool} {col34 : Option Bool} {dd34 : Option Addr} {ka34 kb34 kc34 kd34 ke34 : Option Value}
    {ccl34 ocl34 : Value} {ccd34 ocd34 : Option Addr} {vs34 : Array Value} {ccs34 ocs34 : Array (Option Value)} {file34 : Str} {tf34 : Tok}
    {C_UnlikeLengths f_UnlikeLengthsu_initu cda35 cc35 : Addr} {oc35 kV35 dc35 pm35 ct35 : Value} {od35 an35 : Option Addr} {sl35 : Array (Option Value)}
    {nm35 q35 : Str} {N35 : Addr} {bs35 bm35 sub35 : List Value} {sn35 : List Str} {ab35 : Bool} {col35 : Option Bool} {dd35 : Option Addr} {ka35 kb35 kc35 kd35 ke35 : Option Value}
    {ccl35 ocl35 : Value} {ccd35 ocd35 : Option Addr} {vs35 : Array Value} {ccs35 ocs35 : Array (Option Value)} {file35 : Str} {tf35 : Tok}
    {cl__law_looked Pl__law_looked : Addr}
    {cl__law_made_right Pl__law_made_right : Addr}
    {cl__law_of_right Pl__law_of_right : Addr}
    {cl__law_of_none_right Pl__law_of_none_right : Addr}
    {cl__law_between_right Pl__law_between_right : Addr}
    (aC_Image : PySem.W.nsIn K mainGlobals "Image" = some (some (.ref C_Image)))
    (aC_Patch : PySem.W.nsIn K mainGlobals "Patch" = some (some (.ref C_Patch)))
    (a_is_byte : PySem.W.nsIn K mainGlobals "is_byte" = some (some (.ref f_is_byte)))
    (l_is_byte : K.lookup f_is_byte = some ⟨oc1, od1, .func (PySem.W.fnOf "is_byte" "is_byte" (defArgs s_is_byte) (defBody s_is_byte) (defScope s_is_byte) .none kV1 dc1 pm1 an1 cd1 ct1), sl1⟩)
    (c_is_byte : PySem.W.codeIn K cd1 "is_byte" = true)
    (k_is_byte : PySem.W.keepIn K (.ref f_is_byte) = true)
    (a_check_bytes : PySem.W.nsIn K mainGlobals "check_bytes" = some (some (.ref f_check_bytes)))
    (l_check_bytes : K.lookup f_check_bytes = some ⟨oc2, od2, .func (PySem.W.fnOf "check_bytes" "check_bytes" (defArgs s_check_bytes) (defBody s_check_bytes) (defScope s_check_bytes) .none kV2 dc2 pm2 an2 cd2 ct2), sl2⟩)
    (c_check_bytes : PySem.W.codeIn K cd2 "check_bytes" = true)
    (k_check_bytes : PySem.W.keepIn K (.ref f_check_bytes) = true)
    (a_span_of : PySem.W.nsIn K mainGlobals "span_of" = some (some (.ref f_span_of)))
    (l_span_of : K.lookup f_span_of = some ⟨oc3, od3, .func (PySem.W.fnOf "span_of" "span_of" (defArgs s_span_of) (defBody s_span_of) (defScope s_span_of) .none kV3 dc3 pm3 an3 cd3 ct3), sl3⟩)
    (c_span_of : PySem.W.codeIn K cd3 "span_of" = true)
    (k_span_of : PySem.W.keepIn K (.ref f_span_of) = true)
    (a_Imageu_initu : PySem.W.findIn K (.ref C_Image) "__init__" = some (some (.ref f_Imageu_initu)))
    (i_Imageu_initu : PySem.W.isFn K (.ref f_Imageu_initu) = true)
    (l_Imageu_initu : K.lookup f_Imageu_initu = some ⟨oc4, od4, .func (PySem.W.fnOf "__init__" "Image.__init__" (defArgs s_Imageu_initu) (defBody s_Imageu_initu) (defScope s_Imageu_initu) .none kV4 dc4 pm4 an4 cd4 ct4), sl4⟩)
    (c_Imageu_initu : PySem.W.codeIn K cd4 "Image.__init__" = true)
    (k_Imageu_initu : PySem.W.keepIn K (.ref f_Imageu_initu) = true)
    (a_Imageu_lenu : PySem.W.findIn K (.ref C_Image) "__len__" = some (some (.ref f_Imageu_lenu)))
    (i_Imageu_lenu : PySem.W.isFn K (.ref f_Imageu_lenu) = true)
    (l_Imageu_lenu : K.lookup f_Imageu_lenu = some ⟨oc5, od5, .func (PySem.W.fnOf "__len__" "Image.__len__" (defArgs s_Imageu_lenu) (defBody s_Imageu_lenu) (defScope s_Imageu_lenu) .none kV5 dc5 pm5 an5 cd5 ct5), sl5⟩)
    (c_Imageu_lenu : PySem.W.codeIn K cd5 "Image.__len__" = true)
    (k_Imageu_lenu : PySem.W.keepIn K (.ref f_Imageu_lenu) = true)
    (a_Imageu_iteru : PySem.W.findIn K (.ref C_Image) "__iter__" = some (some (.ref f_Imageu_iteru)))
    (i_Imageu_iteru : PySem.W.isFn K (.ref f_Imageu_iteru) = true)
    (l_Imageu_iteru : K.lookup f_Imageu_iteru = some ⟨oc6, od6, .func (PySem.W.fnOf "__iter__" "Image.__iter__" (defArgs s_Imageu_iteru) (defBody s_Imageu_iteru) (defScope s_Imageu_iteru) .none kV6 dc6 pm6 an6 cd6 ct6), sl6⟩)
    (c_Imageu_iteru : PySem.W.codeIn K cd6 "Image.__iter__" = true)
    (k_Imageu_iteru : PySem.W.keepIn K (.ref f_Imageu_iteru) = true)
    (a_Imageu_getitemu : PySem.W.findIn K (.ref C_Image) "__getitem__" = some (some (.ref f_Imageu_getitemu)))
    (i_Imageu_getitemu : PySem.W.isFn K (.ref f_Imageu_getitemu) = true)
    (l_Imageu_getitemu : K.lookup f_Imageu_getitemu = some ⟨oc7, od7, .func (PySem.W.fnOf "__getitem__" "Image.__getitem__" (defArgs s_Imageu_getitemu) (defBody s_Imageu_getitemu) (defScope s_Imageu_getitemu) .none kV7 dc7 pm7 an7 cd7 ct7), sl7⟩)
    (c_Imageu_getitemu : PySem.W.codeIn K cd7 "Image.__getitem__" = true)
    (k_Imageu_getitemu : PySem.W.keepIn K (.ref f_Imageu_getitemu) = true)
    (a_Patchu_initu : PySem.W.findIn K (.ref C_Patch) "__init__" = some (some (.ref f_Patchu_initu)))
    (i_Patchu_initu : PySem.W.isFn K (.ref f_Patchu_initu) = true)
    (l_Patchu_initu : K.lookup f_Patchu_initu = some ⟨oc8, od8, .func (PySem.W.fnOf "__init__" "Patch.__init__" (defArgs s_Patchu_initu) (defBody s_Patchu_initu) (defScope s_Patchu_initu) .none kV8 dc8 pm8 an8 cd8 ct8), sl8⟩)
    (c_Patchu_initu : PySem.W.codeIn K cd8 "Patch.__init__" = true)
    (k_Patchu_initu : PySem.W.keepIn K (.ref f_Patchu_initu) = true)
    (sma_Patch_of : PySem.W.findCls K (.ref C_Patch) (.type "type") "of" = some (.get (.builtin "classmethod.__get__") (.ref sm9) .none (.ref C_Patch)))
    (smr_Patch_of : PySem.W.recIn K sm9 "classmethod" = some (.ref f_Patch_of :: rst9))
    (fi_Patch_of : PySem.W.fnIn K f_Patch_of = true)
    (l_Patch_of : K.lookup f_Patch_of = some ⟨oc9, od9, .func (PySem.W.fnOf "of" "Patch.of" (defArgs s_Patch_of) (defBody s_Patch_of) (defScope s_Patch_of) .none kV9 dc9 pm9 an9 cd9 ct9), sl9⟩)
    (c_Patch_of : PySem.W.codeIn K cd9 "Patch.of" = true)
    (k_Patch_of : PySem.W.keepIn K (.ref f_Patch_of) = true)
    (sma_Patch_between : PySem.W.findCls K (.ref C_Patch) (.type "type") "between" = some (.get (.builtin "staticmethod.__get__") (.ref sm10) .none (.ref C_Patch)))
    (smr_Patch_between : PySem.W.recIn K sm10 "staticmethod" = some (.ref f_Patch_between :: rst10))
    (l_Patch_between : K.lookup f_Patch_between = some ⟨oc10, od10, .func (PySem.W.fnOf "between" "Patch.between" (defArgs s_Patch_between) (defBody s_Patch_between) (defScope s_Patch_between) .none kV10 dc10 pm10 an10 cd10 ct10), sl10⟩)
    (c_Patch_between : PySem.W.codeIn K cd10 "Patch.between" = true)
    (k_Patch_between : PySem.W.keepIn K (.ref f_Patch_between) = true)
    (a_Patchu_lenu : PySem.W.findIn K (.ref C_Patch) "__len__" = some (some (.ref f_Patchu_lenu)))
    (i_Patchu_lenu : PySem.W.isFn K (.ref f_Patchu_lenu) = true)
    (l_Patchu_lenu : K.lookup f_Patchu_lenu = some ⟨oc11, od11, .func (PySem.W.fnOf "__len__" "Patch.__len__" (defArgs s_Patchu_lenu) (defBody s_Patchu_lenu) (defScope s_Patchu_lenu) .none kV11 dc11 pm11 an11 cd11 ct11), sl11⟩)
    (c_Patchu_lenu : PySem.W.codeIn K cd11 "Patch.__len__" = true)
    (k_Patchu_lenu : PySem.W.keepIn K (.ref f_Patchu_lenu) = true)
    (a_Patch_addresses : PySem.W.findIn K (.ref C_Patch) "addresses" = some (some (.ref f_Patch_addresses)))
    (i_Patch_addresses : PySem.W.isFn K (.ref f_Patch_addresses) = true)
    (l_Patch_addresses : K.lookup f_Patch_addresses = some ⟨oc12, od12, .func (PySem.W.fnOf "addresses" "Patch.addresses" (defArgs s_Patch_addresses) (defBody s_Patch_addresses) (defScope s_Patch_addresses) .none kV12 dc12 pm12 an12 cd12 ct12), sl12⟩)
    (c_Patch_addresses : PySem.W.codeIn K cd12 "Patch.addresses" = true)
    (k_Patch_addresses : PySem.W.keepIn K (.ref f_Patch_addresses) = true)
    (a_Patchu_equ : PySem.W.findIn K (.ref C_Patch) "__eq__" = some (some (.ref f_Patchu_equ)))
    (i_Patchu_equ : PySem.W.isFn K (.ref f_Patchu_equ) = true)
    (l_Patchu_equ : K.lookup f_Patchu_equ = some ⟨oc13, od13, .func (PySem.W.fnOf "__eq__" "Patch.__eq__" (defArgs s_Patchu_equ) (defBody s_Patchu_equ) (defScope s_Patchu_equ) .none kV13 dc13 pm13 an13 cd13 ct13), sl13⟩)
    (c_Patchu_equ : PySem.W.codeIn K cd13 "Patch.__eq__" = true)
    (k_Patchu_equ : PySem.W.keepIn K (.ref f_Patchu_equ) = true)
    (a_Patchu_containsu : PySem.W.findIn K (.ref C_Patch) "__contains__" = some (some (.ref f_Patchu_containsu)))
    (i_Patchu_containsu : PySem.W.isFn K (.ref f_Patchu_containsu) = true)
    (l_Patchu_containsu : K.lookup f_Patchu_containsu = some ⟨oc14, od14, .func (PySem.W.fnOf "__contains__" "Patch.__contains__" (defArgs s_Patchu_containsu) (defBody s_Patchu_containsu) (defScope s_Patchu_containsu) .none kV14 dc14 pm14 an14 cd14 ct14), sl14⟩)
    (c_Patchu_containsu : PySem.W.codeIn K cd14 "Patch.__contains__" = true)
    (k_Patchu_containsu : PySem.W.keepIn K (.ref f_Patchu_containsu) = true)
    (a_Patchu_getitemu : PySem.W.findIn K (.ref C_Patch) "__getitem__" = some (some (.ref f_Patchu_getitemu)))
    (i_Patchu_getitemu : PySem.W.isFn K (.ref f_Patchu_getitemu) = true)
    (l_Patchu_getitemu : K.lookup f_Patchu_getitemu = some ⟨oc15, od15, .func (PySem.W.fnOf "__getitem__" "Patch.__getitem__" (defArgs s_Patchu_getitemu) (defBody s_Patchu_getitemu) (defScope s_Patchu_getitemu) .none kV15 dc15 pm15 an15 cd15 ct15), sl15⟩)
    (c_Patchu_getitemu : PySem.W.codeIn K cd15 "Patch.__getitem__" = true)
    (k_Patchu_getitemu : PySem.W.keepIn K (.ref f_Patchu_getitemu) = true)
    (a__law_pen : PySem.W.nsIn K mainGlobals "_law_pen" = some (some (.ref f__law_pen)))
    (l__law_pen : K.lookup f__law_pen = some ⟨oc16, od16, .func (PySem.W.fnOf "_law_pen" "_law_pen" (defArgs s__law_pen) (defBody s__law_pen) (defScope s__law_pen) .none kV16 dc16 pm16 an16 cd16 ct16), sl16⟩)
    (c__law_pen : PySem.W.codeIn K cd16 "_law_pen" = true)
    (k__law_pen : PySem.W.keepIn K (.ref f__law_pen) = true)
    (a__law_draw : PySem.W.nsIn K mainGlobals "_law_draw" = some (some (.ref f__law_draw)))
    (l__law_draw : K.lookup f__law_draw = some ⟨oc17, od17, .func (PySem.W.fnOf "_law_draw" "_law_draw" (defArgs s__law_draw) (defBody s__law_draw) (defScope s__law_draw) .none kV17 dc17 pm17 an17 cd17 ct17), sl17⟩)
    (c__law_draw : PySem.W.codeIn K cd17 "_law_draw" = true)
    (k__law_draw : PySem.W.keepIn K (.ref f__law_draw) = true)
    (a__law_pick : PySem.W.nsIn K mainGlobals "_law_pick" = some (some (.ref f__law_pick)))
    (l__law_pick : K.lookup f__law_pick = some ⟨oc18, od18, .func (PySem.W.fnOf "_law_pick" "_law_pick" (defArgs s__law_pick) (defBody s__law_pick) (defScope s__law_pick) .none kV18 dc18 pm18 an18 cd18 ct18), sl18⟩)
    (c__law_pick : PySem.W.codeIn K cd18 "_law_pick" = true)
    (k__law_pick : PySem.W.keepIn K (.ref f__law_pick) = true)
    (a__law_word : PySem.W.nsIn K mainGlobals "_law_word" = some (some (.ref f__law_word)))
    (l__law_word : K.lookup f__law_word = some ⟨oc19, od19, .func (PySem.W.fnOf "_law_word" "_law_word" (defArgs s__law_word) (defBody s__law_word) (defScope s__law_word) .none kV19 dc19 pm19 an19 cd19 ct19), sl19⟩)
    (c__law_word : PySem.W.codeIn K cd19 "_law_word" = true)
    (k__law_word : PySem.W.keepIn K (.ref f__law_word) = true)
    (a__law_heard : PySem.W.nsIn K mainGlobals "_law_heard" = some (some (.ref f__law_heard)))
    (l__law_heard : K.lookup f__law_heard = some ⟨oc20, od20, .func (PySem.W.fnOf "_law_heard" "_law_heard" (defArgs s__law_heard) (defBody s__law_heard) (defScope s__law_heard) .none kV20 dc20 pm20 an20 cd20 ct20), sl20⟩)
    (c__law_heard : PySem.W.codeIn K cd20 "_law_heard" = true)
    (k__law_heard : PySem.W.keepIn K (.ref f__law_heard) = true)
    (a__law_cells : PySem.W.nsIn K mainGlobals "_law_cells" = some (some (.ref f__law_cells)))
    (l__law_cells : K.lookup f__law_cells = some ⟨oc21, od21, .func (PySem.W.fnOf "_law_cells" "_law_cells" (defArgs s__law_cells) (defBody s__law_cells) (defScope s__law_cells) .none kV21 dc21 pm21 an21 cd21 ct21), sl21⟩)
    (c__law_cells : PySem.W.codeIn K cd21 "_law_cells" = true)
    (k__law_cells : PySem.W.keepIn K (.ref f__law_cells) = true)
    (a__law_pairs : PySem.W.nsIn K mainGlobals "_law_pairs" = some (some (.ref f__law_pairs)))
    (l__law_pairs : K.lookup f__law_pairs = some ⟨oc22, od22, .func (PySem.W.fnOf "_law_pairs" "_law_pairs" (defArgs s__law_pairs) (defBody s__law_pairs) (defScope s__law_pairs) .none kV22 dc22 pm22 an22 cd22 ct22), sl22⟩)
    (c__law_pairs : PySem.W.codeIn K cd22 "_law_pairs" = true)
    (k__law_pairs : PySem.W.keepIn K (.ref f__law_pairs) = true)
    (a__law_due : PySem.W.nsIn K mainGlobals "_law_due" = some (some (.ref f__law_due)))
    (l__law_due : K.lookup f__law_due = some ⟨oc23, od23, .func (PySem.W.fnOf "_law_due" "_law_due" (defArgs s__law_due) (defBody s__law_due) (defScope s__law_due) .none kV23 dc23 pm23 an23 cd23 ct23), sl23⟩)
    (c__law_due : PySem.W.codeIn K cd23 "_law_due" = true)
    (k__law_due : PySem.W.keepIn K (.ref f__law_due) = true)
    (a__law_shown : PySem.W.nsIn K mainGlobals "_law_shown" = some (some (.ref f__law_shown)))
    (l__law_shown : K.lookup f__law_shown = some ⟨oc24, od24, .func (PySem.W.fnOf "_law_shown" "_law_shown" (defArgs s__law_shown) (defBody s__law_shown) (defScope s__law_shown) .none kV24 dc24 pm24 an24 cd24 ct24), sl24⟩)
    (c__law_shown : PySem.W.codeIn K cd24 "_law_shown" = true)
    (k__law_shown : PySem.W.keepIn K (.ref f__law_shown) = true)
    (a__law_odd : PySem.W.nsIn K mainGlobals "_law_odd" = some (some (.ref f__law_odd)))
    (l__law_odd : K.lookup f__law_odd = some ⟨oc25, od25, .func (PySem.W.fnOf "_law_odd" "_law_odd" (defArgs s__law_odd) (defBody s__law_odd) (defScope s__law_odd) .none kV25 dc25 pm25 an25 cd25 ct25), sl25⟩)
    (c__law_odd : PySem.W.codeIn K cd25 "_law_odd" = true)
    (k__law_odd : PySem.W.keepIn K (.ref f__law_odd) = true)
    (a__law_looked : PySem.W.nsIn K mainGlobals "_law_looked" = some (some (.ref f__law_looked)))
    (l__law_looked : K.lookup f__law_looked = some ⟨oc26, od26, .func (PySem.W.fnOf "_law_looked" "_law_looked" (defArgs s__law_looked) (defBody s__law_looked) (defScope s__law_looked) .none kV26 dc26 pm26 an26 cd26 ct26), sl26⟩)
    (c__law_looked : PySem.W.codeIn K cd26 "_law_looked" = true)
    (k__law_looked : PySem.W.keepIn K (.ref f__law_looked) = true)
    (a__law_made_right : PySem.W.nsIn K mainGlobals "_law_made_right" = some (some (.ref f__law_made_right)))
    (l__law_made_right : K.lookup f__law_made_right = some ⟨oc27, od27, .func (PySem.W.fnOf "_law_made_right" "_law_made_right" (defArgs s__law_made_right) (defBody s__law_made_right) (defScope s__law_made_right) .none kV27 dc27 pm27 an27 cd27 ct27), sl27⟩)
    (c__law_made_right : PySem.W.codeIn K cd27 "_law_made_right" = true)
    (k__law_made_right : PySem.W.keepIn K (.ref f__law_made_right) = true)
    (a__law_of : PySem.W.nsIn K mainGlobals "_law_of" = some (some (.ref f__law_of)))
    (l__law_of : K.lookup f__law_of = some ⟨oc28, od28, .func (PySem.W.fnOf "_law_of" "_law_of" (defArgs s__law_of) (defBody s__law_of) (defScope s__law_of) .none kV28 dc28 pm28 an28 cd28 ct28), sl28⟩)
    (c__law_of : PySem.W.codeIn K cd28 "_law_of" = true)
    (k__law_of : PySem.W.keepIn K (.ref f__law_of) = true)
    (a__law_of_right : PySem.W.nsIn K mainGlobals "_law_of_right" = some (some (.ref f__law_of_right)))
    (l__law_of_right : K.lookup f__law_of_right = some ⟨oc29, od29, .func (PySem.W.fnOf "_law_of_right" "_law_of_right" (defArgs s__law_of_right) (defBody s__law_of_right) (defScope s__law_of_right) .none kV29 dc29 pm29 an29 cd29 ct29), sl29⟩)
    (c__law_of_right : PySem.W.codeIn K cd29 "_law_of_right" = true)
    (k__law_of_right : PySem.W.keepIn K (.ref f__law_of_right) = true)
    (a__law_of_none_right : PySem.W.nsIn K mainGlobals "_law_of_none_right" = some (some (.ref f__law_of_none_right)))
    (l__law_of_none_right : K.lookup f__law_of_none_right = some ⟨oc30, od30, .func (PySem.W.fnOf "_law_of_none_right" "_law_of_none_right" (defArgs s__law_of_none_right) (defBody s__law_of_none_right) (defScope s__law_of_none_right) .none kV30 dc30 pm30 an30 cd30 ct30), sl30⟩)
    (c__law_of_none_right : PySem.W.codeIn K cd30 "_law_of_none_right" = true)
    (k__law_of_none_right : PySem.W.keepIn K (.ref f__law_of_none_right) = true)
    (a__law_between_right : PySem.W.nsIn K mainGlobals "_law_between_right" = some (some (.ref f__law_between_right)))
    (l__law_between_right : K.lookup f__law_between_right = some ⟨oc31, od31, .func (PySem.W.fnOf "_law_between_right" "_law_between_right" (defArgs s__law_between_right) (defBody s__law_between_right) (defScope s__law_between_right) .none kV31 dc31 pm31 an31 cd31 ct31), sl31⟩)
    (c__law_between_right : PySem.W.codeIn K cd31 "_law_between_right" = true)
    (k__law_between_right : PySem.W.keepIn K (.ref f__law_between_right) = true)
    (a_law : PySem.W.nsIn K mainGlobals "law" = some (some (.ref f_law)))
    (l_law : K.lookup f_law = some ⟨oc32, od32, .func (PySem.W.fnOf "law" "law" (defArgs s_law) (defBody s_law) (defScope s_law) .none kV32 dc32 pm32 an32 cd32 ct32), sl32⟩)
    (c_law : PySem.W.codeIn K cd32 "law" = true)
    (k_law : PySem.W.keepIn K (.ref f_law) = true)
    (pg_Image : PySem.W.plainGet K C_Image Str.empty = true)
    (hd_Image : PySem.W.hasDictIn K C_Image = true)
    (po_Image : PySem.W.plainOver K C_Image = true)
    (sa_Image : PySem.W.findIn K (.ref C_Image) "__setattr__" = some (some (.builtin "object.__setattr__")))
    (mk_Image : PySem.W.makesIn K C_Image = true)
    (kc_Image : PySem.W.keepIn K (.ref C_Image) = true)
    (no_Image_cells : PySem.W.findIn K (.ref C_Image) "cells" = some none)
    (pg_Patch : PySem.W.plainGet K C_Patch Str.empty = true)
    (hd_Patch : PySem.W.hasDictIn K C_Patch = true)
    (po_Patch : PySem.W.plainOver K C_Patch = true)
    (sa_Patch : PySem.W.findIn K (.ref C_Patch) "__setattr__" = some (some (.builtin "object.__setattr__")))
    (mk_Patch : PySem.W.makesIn K C_Patch = true)
    (kc_Patch : PySem.W.keepIn K (.ref C_Patch) = true)
    (no_Patch_pairs : PySem.W.findIn K (.ref C_Patch) "pairs" = some none)
    (z_len : PySem.W.nsIn K mainGlobals "len" = some none)
    (z_abs : PySem.W.nsIn K mainGlobals "abs" = some none)
    (z_int : PySem.W.nsIn K mainGlobals "int" = some none)
    (z_list : PySem.W.nsIn K mainGlobals "list" = some none)
    (z_range : PySem.W.nsIn K mainGlobals "range" = some none)
    (z_isinstance : PySem.W.nsIn K mainGlobals "isinstance" = some none)
    (z_bool : PySem.W.nsIn K mainGlobals "bool" = some none)
    (z_str : PySem.W.nsIn K mainGlobals "str" = some none)
    (z_tuple : PySem.W.nsIn K mainGlobals "tuple" = some none)
    (z_all : PySem.W.nsIn K mainGlobals "all" = some none)
    (z_set : PySem.W.nsIn K mainGlobals "set" = some none)
    (z_sorted : PySem.W.nsIn K mainGlobals "sorted" = some none)
    (z_ValueError : PySem.W.nsIn K mainGlobals "ValueError" = some none)
    (z_repr : PySem.W.nsIn K mainGlobals "repr" = some none)
    (z_max : PySem.W.nsIn K mainGlobals "max" = some none)
    (z_min : PySem.W.nsIn K mainGlobals "min" = some none)
    (z_iter : PySem.W.nsIn K mainGlobals "iter" = some none)
    (z_enumerate : PySem.W.nsIn K mainGlobals "enumerate" = some none)
    (z_dict : PySem.W.nsIn K mainGlobals "dict" = some none)
    (aC_CodeError : PySem.W.nsIn K mainGlobals "CodeError" = some (some (.ref C_CodeError)))
    (aC_BadCodes : PySem.W.nsIn K mainGlobals "BadCodes" = some (some (.ref C_BadCodes)))
    (aC_BadLayout : PySem.W.nsIn K mainGlobals "BadLayout" = some (some (.ref C_BadLayout)))
    (aC_BadRewrite : PySem.W.nsIn K mainGlobals "BadRewrite" = some (some (.ref C_BadRewrite)))
    (aC_BadStep : PySem.W.nsIn K mainGlobals "BadStep" = some (some (.ref C_BadStep)))
    (aC_BadText : PySem.W.nsIn K mainGlobals "BadText" = some (some (.ref C_BadText)))
    (aC_NotRight : PySem.W.nsIn K mainGlobals "NotRight" = some (some (.ref C_NotRight)))
    (aC_NoWay : PySem.W.nsIn K mainGlobals "NoWay" = some (some (.ref C_NoWay)))
    (aC_BadInput : PySem.W.nsIn K mainGlobals "BadInput" = some (some (.ref C_BadInput)))
    (zsuper : PySem.W.nsIn K mainGlobals "super" = some none)
    (znoop : PySem.W.nsIn K cStatics "thirdparty.any" = some none)
    (zgcn : PySem.W.specialIn K (.builtin "object.__class__") "__get__" = some (some (.builtin "getset_descriptor.__get__")))
    (zgct : PySem.W.takesIn K (.builtin "object.__class__") = some true)
    (ztop : ((PySem.Challenge.pw_codestitch_k10_patches_made).main.scope.names.lookup ("super" : Str)).isSome = false)
    (aC_BadAddress : PySem.W.nsIn K mainGlobals "BadAddress" = some (some (.ref C_BadAddress)))
    (lkC_BadAddress : K.lookup C_BadAddress = some (excClassObj nm33 q33 C_BadAddress N33 bs33 bm33 true sn33 sub33 ab33 col33 dd33 ka33 kb33 kc33 kd33 ke33 "ValueError.__new__"))
    (bmC_BadAddress : PySem.HandSPX.refsVE bm33 = true)
    (saC_BadAddress : PySem.W.findIn K (.ref C_BadAddress) "__setattr__" = some (some (.builtin "object.__setattr__")))
    (exC_BadAddress : PySem.W.subIn K (.ref C_BadAddress) (.type "BaseException") = some true)
    (tyC_BadAddress : PySem.W.typeIn K (.ref C_BadAddress) = some (.type "type"))
    (kpC_BadAddress : PySem.W.keepIn K (.ref C_BadAddress) = true)
    (inC_BadAddress : PySem.W.findIn K (.ref C_BadAddress) "__init__" = some (some (.ref f_BadAddressu_initu)))
    (tiC_BadAddress : PySem.W.typeIn K (.ref f_BadAddressu_initu) = some (.type "function"))
    (noC_BadAddress_at : PySem.W.findIn K (.ref C_BadAddress) "at" = some none)
    (gaC_BadAddress : PySem.W.findIn K (.ref C_BadAddress) "__getattribute__" = some (some (.builtin "BaseException.__getattribute__")))
    (ggC_BadAddress : PySem.W.findIn K (.ref C_BadAddress) "__getattr__" = some none)
    (hdC_BadAddress : PySem.W.hasDictIn K C_BadAddress = true)
    (gcC_BadAddress : PySem.W.findIn K (.ref C_BadAddress) "__class__" = some (some (.builtin "object.__class__")))
    (moC_BadAddress : PySem.W.mroIn K C_BadAddress (.type "object") = some true)
    (l_BadAddressu_initu : K.lookup f_BadAddressu_initu = some ⟨oc33, od33, .func (PySem.W.ksFn "__init__" "BadAddress.__init__" (defArgs s_BadAddressu_initu) (defBody s_BadAddressu_initu) (defScope s_BadAddressu_initu) .none kV33 dc33 pm33 an33 (.ref cda33) ct33 cc33), sl33⟩)
    (c_BadAddressu_initu : PySem.W.codeIn K (.ref cda33) "BadAddress.__init__" = true)
    (k_BadAddressu_initu : PySem.W.keepIn K (.ref f_BadAddressu_initu) = true)
    (cl_BadAddressu_initu : K.lookup cda33 = some ⟨ccl33, ccd33, .fields vs33, ccs33⟩)
    (cf_BadAddressu_initu : vs33[2]? = some (.str file33 tf33))
    (fe_BadAddressu_initu : (((PySem.Challenge.pw_codestitch_k10_patches_made).main.file : Str) == file33) = true)
    (ce_BadAddressu_initu : K.lookup cc33 = some ⟨ocl33, ocd33, .cell (some (.ref C_BadAddress)), ocs33⟩)
    (mrC_BadAddress : PySem.W.mroIn K C_BadAddress (.ref C_BadAddress) = some true)
    (suC_BadAddress : PySem.W.ks_superIn K C_BadAddress C_BadAddress "__init__" = some (some (.builtin "ValueError.__init__")))
    (svC_BadAddress : PySem.W.subIn K (.ref C_BadAddress) (.type "ValueError") = some true)
    (aC_BadByte : PySem.W.nsIn K mainGlobals "BadByte" = some (some (.ref C_BadByte)))
    (lkC_BadByte : K.lookup C_BadByte = some (excClassObj nm34 q34 C_BadByte N34 bs34 bm34 true sn34 sub34 ab34 col34 dd34 ka34 kb34 kc34 kd34 ke34 "ValueError.__new__"))
    (bmC_BadByte : PySem.HandSPX.refsVE bm34 = true)
    (saC_BadByte : PySem.W.findIn K (.ref C_BadByte) "__setattr__" = some (some (.builtin "object.__setattr__")))
    (exC_BadByte : PySem.W.subIn K (.ref C_BadByte) (.type "BaseException") = some true)
    (tyC_BadByte : PySem.W.typeIn K (.ref C_BadByte) = some (.type "type"))
    (kpC_BadByte : PySem.W.keepIn K (.ref C_BadByte) = true)
    (inC_BadByte : PySem.W.findIn K (.ref C_BadByte) "__init__" = some (some (.ref f_BadByteu_initu)))
    (tiC_BadByte : PySem.W.typeIn K (.ref f_BadByteu_initu) = some (.type "function"))
    (noC_BadByte_at : PySem.W.findIn K (.ref C_BadByte) "at" = some none)
    (gaC_BadByte : PySem.W.findIn K (.ref C_BadByte) "__getattribute__" = some (some (.builtin "BaseException.__getattribute__")))
    (ggC_BadByte : PySem.W.findIn K (.ref C_BadByte) "__getattr__" = some none)
    (hdC_BadByte : PySem.W.hasDictIn K C_BadByte = true)
    (gcC_BadByte : PySem.W.findIn K (.ref C_BadByte) "__class__" = some (some (.builtin "object.__class__")))
    (moC_BadByte : PySem.W.mroIn K C_BadByte (.type "object") = some true)
    (l_BadByteu_initu : K.lookup f_BadByteu_initu = some ⟨oc34, od34, .func (PySem.W.ksFn "__init__" "BadByte.__init__" (defArgs s_BadByteu_initu) (defBody s_BadByteu_initu) (defScope s_BadByteu_initu) .none kV34 dc34 pm34 an34 (.ref cda34) ct34 cc34), sl34⟩)
    (c_BadByteu_initu : PySem.W.codeIn K (.ref cda34) "BadByte.__init__" = true)
    (k_BadByteu_initu : PySem.W.keepIn K (.ref f_BadByteu_initu) = true)
    (cl_BadByteu_initu : K.lookup cda34 = some ⟨ccl34, ccd34, .fields vs34, ccs34⟩)
    (cf_BadByteu_initu : vs34[2]? = some (.str file34 tf34))
    (fe_BadByteu_initu : (((PySem.Challenge.pw_codestitch_k10_patches_made).main.file : Str) == file34) = true)
    (ce_BadByteu_initu : K.lookup cc34 = some ⟨ocl34, ocd34, .cell (some (.ref C_BadByte)), ocs34⟩)
    (mrC_BadByte : PySem.W.mroIn K C_BadByte (.ref C_BadByte) = some true)
    (suC_BadByte : PySem.W.ks_superIn K C_BadByte C_BadByte "__init__" = some (some (.builtin "ValueError.__init__")))
    (svC_BadByte : PySem.W.subIn K (.ref C_BadByte) (.type "ValueError") = some true)
    (aC_UnlikeLengths : PySem.W.nsIn K mainGlobals "UnlikeLengths" = some (some (.ref C_UnlikeLengths)))
    (lkC_UnlikeLengths : K.lookup C_UnlikeLengths = some (excClassObj nm35 q35 C_UnlikeLengths N35 bs35 bm35 true sn35 sub35 ab35 col35 dd35 ka35 kb35 kc35 kd35 ke35 "ValueError.__new__"))
    (bmC_UnlikeLengths : PySem.HandSPX.refsVE bm35 = true)
    (saC_UnlikeLengths : PySem.W.findIn K (.ref C_UnlikeLengths) "__setattr__" = some (some (.builtin "object.__setattr__")))
    (exC_UnlikeLengths : PySem.W.subIn K (.ref C_UnlikeLengths) (.type "BaseException") = some true)
    (tyC_UnlikeLengths : PySem.W.typeIn K (.ref C_UnlikeLengths) = some (.type "type"))
    (kpC_UnlikeLengths : PySem.W.keepIn K (.ref C_UnlikeLengths) = true)
    (inC_UnlikeLengths : PySem.W.findIn K (.ref C_UnlikeLengths) "__init__" = some (some (.ref f_UnlikeLengthsu_initu)))
    (tiC_UnlikeLengths : PySem.W.typeIn K (.ref f_UnlikeLengthsu_initu) = some (.type "function"))
    (noC_UnlikeLengths_one : PySem.W.findIn K (.ref C_UnlikeLengths) "one" = some none)
    (noC_UnlikeLengths_other : PySem.W.findIn K (.ref C_UnlikeLengths) "other" = some none)
    (gaC_UnlikeLengths : PySem.W.findIn K (.ref C_UnlikeLengths) "__getattribute__" = some (some (.builtin "BaseException.__getattribute__")))
    (ggC_UnlikeLengths : PySem.W.findIn K (.ref C_UnlikeLengths) "__getattr__" = some none)
    (hdC_UnlikeLengths : PySem.W.hasDictIn K C_UnlikeLengths = true)
    (gcC_UnlikeLengths : PySem.W.findIn K (.ref C_UnlikeLengths) "__class__" = some (some (.builtin "object.__class__")))
    (moC_UnlikeLengths : PySem.W.mroIn K C_UnlikeLengths (.type "object") = some true)
    (l_UnlikeLengthsu_initu : K.lookup f_UnlikeLengthsu_initu = some ⟨oc35, od35, .func (PySem.W.ksFn "__init__" "UnlikeLengths.__init__" (defArgs s_UnlikeLengthsu_initu) (defBody s_UnlikeLengthsu_initu) (defScope s_UnlikeLengthsu_initu) .none kV35 dc35 pm35 an35 (.ref cda35) ct35 cc35), sl35⟩)
    (c_UnlikeLengthsu_initu : PySem.W.codeIn K (.ref cda35) "UnlikeLengths.__init__" = true)
    (k_UnlikeLengthsu_initu : PySem.W.keepIn K (.ref f_UnlikeLengthsu_initu) = true)
    (cl_UnlikeLengthsu_initu : K.lookup cda35 = some ⟨ccl35, ccd35, .fields vs35, ccs35⟩)
    (cf_UnlikeLengthsu_initu : vs35[2]? = some (.str file35 tf35))
    (fe_UnlikeLengthsu_initu : (((PySem.Challenge.pw_codestitch_k10_patches_made).main.file : Str) == file35) = true)
    (ce_UnlikeLengthsu_initu : K.lookup cc35 = some ⟨ocl35, ocd35, .cell (some (.ref C_UnlikeLengths)), ocs35⟩)
    (mrC_UnlikeLengths : PySem.W.mroIn K C_UnlikeLengths (.ref C_UnlikeLengths) = some true)
    (suC_UnlikeLengths : PySem.W.ks_superIn K C_UnlikeLengths C_UnlikeLengths "__init__" = some (some (.builtin "ValueError.__init__")))
    (svC_UnlikeLengths : PySem.W.subIn K (.ref C_UnlikeLengths) (.type "ValueError") = some true)
    (kit_BadAddress_BadAddress : PySem.W.kitOne K (.ref C_BadAddress) (.ref C_BadAddress) = some true)
    (kit_BadAddress_BadByte : PySem.W.kitOne K (.ref C_BadAddress) (.ref C_BadByte) = some false)
    (kit_BadAddress_UnlikeLengths : PySem.W.kitOne K (.ref C_BadAddress) (.ref C_UnlikeLengths) = some false)
    (kit_BadAddress_BadCodes : PySem.W.kitOne K (.ref C_BadAddress) (.ref C_BadCodes) = some false)
    (kit_BadAddress_BadLayout : PySem.W.kitOne K (.ref C_BadAddress) (.ref C_BadLayout) = some false)
    (kit_BadAddress_BadRewrite : PySem.W.kitOne K (.ref C_BadAddress) (.ref C_BadRewrite) = some false)
    (kit_BadAddress_BadStep : PySem.W.kitOne K (.ref C_BadAddress) (.ref C_BadStep) = some false)
    (kit_BadAddress_BadText : PySem.W.kitOne K (.ref C_BadAddress) (.ref C_BadText) = some false)
    (kit_BadAddress_NotRight : PySem.W.kitOne K (.ref C_BadAddress) (.ref C_NotRight) = some false)
    (kit_BadAddress_NoWay : PySem.W.kitOne K (.ref C_BadAddress) (.ref C_NoWay) = some false)
    (kit_BadAddress_BadInput : PySem.W.kitOne K (.ref C_BadAddress) (.ref C_BadInput) = some true)
    (kit_BadAddress_ValueError : PySem.W.kitOne K (.ref C_BadAddress) (.type "ValueError") = some true)
    (kit_BadByte_BadAddress : PySem.W.kitOne K (.ref C_BadByte) (.ref C_BadAddress) = some false)
    (kit_BadByte_BadByte : PySem.W.kitOne K (.ref C_BadByte) (.ref C_BadByte) = some true)
    (kit_BadByte_UnlikeLengths : PySem.W.kitOne K (.ref C_BadByte) (.ref C_UnlikeLengths) = some false)
    (kit_BadByte_BadCodes : PySem.W.kitOne K (.ref C_BadByte) (.ref C_BadCodes) = some false)
    (kit_BadByte_BadLayout : PySem.W.kitOne K (.ref C_BadByte) (.ref C_BadLayout) = some false)
    (kit_BadByte_BadRewrite : PySem.W.kitOne K (.ref C_BadByte) (.ref C_BadRewrite) = some false)
    (kit_BadByte_BadStep : PySem.W.kitOne K (.ref C_BadByte) (.ref C_BadStep) = some false)
    (kit_BadByte_BadText : PySem.W.kitOne K (.ref C_BadByte) (.ref C_BadText) = some false)
    (kit_BadByte_NotRight : PySem.W.kitOne K (.ref C_BadByte) (.ref C_NotRight) = some false)
    (kit_BadByte_NoWay : PySem.W.kitOne K (.ref C_BadByte) (.ref C_NoWay) = some false)
    (kit_BadByte_BadInput : PySem.W.kitOne K (.ref C_BadByte) (.ref C_BadInput) = some true)
    (kit_BadByte_ValueError : PySem.W.kitOne K (.ref C_BadByte) (.type "ValueError") = some true)
    (kit_UnlikeLengths_BadAddress : PySem.W.kitOne K (.ref C_UnlikeLengths) (.ref C_BadAddress) = some false)
    (kit_UnlikeLengths_BadByte : PySem.W.kitOne K (.ref C_UnlikeLengths) (.ref C_BadByte) = some false)
    (kit_UnlikeLengths_UnlikeLengths : PySem.W.kitOne K (.ref C_UnlikeLengths) (.ref C_UnlikeLengths) = some true)
    (kit_UnlikeLengths_BadCodes : PySem.W.kitOne K (.ref C_UnlikeLengths) (.ref C_BadCodes) = some false)
    (kit_UnlikeLengths_BadLayout : PySem.W.kitOne K (.ref C_UnlikeLengths) (.ref C_BadLayout) = some false)
    (kit_UnlikeLengths_BadRewrite : PySem.W.kitOne K (.ref C_UnlikeLengths) (.ref C_BadRewrite) = some false)
    (kit_UnlikeLengths_BadStep : PySem.W.kitOne K (.ref C_UnlikeLengths) (.ref C_BadStep) = some false)
    (kit_UnlikeLengths_BadText : PySem.W.kitOne K (.ref C_UnlikeLengths) (.ref C_BadText) = some false)
    (kit_UnlikeLengths_NotRight : PySem.W.kitOne K (.ref C_UnlikeLengths) (.ref C_NotRight) = some false)
    (kit_UnlikeLengths_NoWay : PySem.W.kitOne K (.ref C_UnlikeLengths) (.ref C_NoWay) = some false)
    (kit_UnlikeLengths_BadInput : PySem.W.kitOne K (.ref C_UnlikeLengths) (.ref C_BadInput) = some true)
    (kit_UnlikeLengths_ValueError : PySem.W.kitOne K (.ref C_UnlikeLengths) (.type "ValueError") = some true)
    (exm_BadAddress_CodeError : PySem.W.exmOne K (.ref C_BadAddress) (.ref C_CodeError) = some true)
    (exm_BadByte_CodeError : PySem.W.exmOne K (.ref C_BadByte) (.ref C_CodeError) = some true)
    (exm_UnlikeLengths_CodeError : PySem.W.exmOne K (.ref C_UnlikeLengths) (.ref C_CodeError) = some true)
    (icc_Image : PySem.W.findIn K (.ref C_Image) "__class__" = some (some (.builtin "object.__class__")))
    (icm_Image : PySem.W.mroIn K C_Image (.type "object") = some true)
    (kit_Image_Image : PySem.W.kitOne K (.ref C_Image) (.ref C_Image) = some true)
    (icc_Patch : PySem.W.findIn K (.ref C_Patch) "__class__" = some (some (.builtin "object.__class__")))
    (icm_Patch : PySem.W.mroIn K C_Patch (.type "object") = some true)
    (kit_Patch_Patch : PySem.W.kitOne K (.ref C_Patch) (.ref C_Patch) = some true)
    (kit_list_Image : PySem.W.kitOne K (.type "list") (.ref C_Image) = some false)
    (kit_tuple_Image : PySem.W.kitOne K (.type "tuple") (.ref C_Image) = some false)
    (kit_NoneType_Patch : PySem.W.kitOne K (.type "NoneType") (.ref C_Patch) = some false)
    (kit_bool_Patch : PySem.W.kitOne K (.type "bool") (.ref C_Patch) = some false)
    (kit_int_Patch : PySem.W.kitOne K (.type "int") (.ref C_Patch) = some false)
    (kit_str_Patch : PySem.W.kitOne K (.type "str") (.ref C_Patch) = some false)
    (kit_dict_Patch : PySem.W.kitOne K (.type "dict") (.ref C_Patch) = some false)
    (kit_list_Patch : PySem.W.kitOne K (.type "list") (.ref C_Patch) = some false)
    (kit_tuple_Patch : PySem.W.kitOne K (.type "tuple") (.ref C_Patch) = some false)
    (nf_Patch_Patch : PySem.W.notFirst K C_Patch (.ref C_Patch) = true)
    (nf_NoneType_Patch : PySem.W.notFirst K C_Patch (.type "NoneType") = true)
    (nf_bool_Patch : PySem.W.notFirst K C_Patch (.type "bool") = true)
    (nf_int_Patch : PySem.W.notFirst K C_Patch (.type "int") = true)
    (nf_str_Patch : PySem.W.notFirst K C_Patch (.type "str") = true)
    (nf_dict_Patch : PySem.W.notFirst K C_Patch (.type "dict") = true)
    (nf_list_Patch : PySem.W.notFirst K C_Patch (.type "list") = true)
    (nf_tuple_Patch : PySem.W.notFirst K C_Patch (.type "tuple") = true)
    (spi_Imageu_getitemu : PySem.W.fnIn K f_Imageu_getitemu = true)
    (spi_Patchu_getitemu : PySem.W.fnIn K f_Patchu_getitemu = true)
    (rd_Patch : PySem.W.readsIn K C_Patch (.type "type") = true)
    (gat_Patch : PySem.W.specialIn K (.ref C_Patch) "__getattribute__" = some (some (.builtin "type.__getattribute__")))
    (lam__law_looked : Vc.lamB K f__law_looked cl__law_looked Pl__law_looked = true)
    (lam__law_made_right : Vc.lamB K f__law_made_right cl__law_made_right Pl__law_made_right = true)
    (lam__law_of_right : Vc.lamB K f__law_of_right cl__law_of_right Pl__law_of_right = true)
    (lam__law_of_none_right : Vc.lamB K f__law_of_none_right cl__law_of_none_right Pl__law_of_none_right = true)
    (lam__law_between_right : Vc.lamB K f__law_between_right cl__law_between_right Pl__law_between_right = true)
    (lne__law_looked__law_made_right : (Pl__law_looked : Addr) ≠ Pl__law_made_right)
    (lne__law_looked__law_of_right : (Pl__law_looked : Addr) ≠ Pl__law_of_right)
    (lne__law_looked__law_of_none_right : (Pl__law_looked : Addr) ≠ Pl__law_of_none_right)
    (lne__law_looked__law_between_right : (Pl__law_looked : Addr) ≠ Pl__law_between_right)
    (lne__law_made_right__law_of_right : (Pl__law_made_right : Addr) ≠ Pl__law_of_right)
    (lne__law_made_right__law_of_none_right : (Pl__law_made_right : Addr) ≠ Pl__law_of_none_right)
    (lne__law_made_right__law_between_right : (Pl__law_made_right : Addr) ≠ Pl__law_between_right)
    (lne__law_of_right__law_of_none_right : (Pl__law_of_right : Addr) ≠ Pl__law_of_none_right)
    (lne__law_of_right__law_between_right : (Pl__law_of_right : Addr) ≠ Pl__law_between_right)
    (lne__law_of_none_right__law_between_right : (Pl__law_of_none_right : Addr) ≠ Pl__law_between_right) :
    ∃ fd : FuncData, (∀ (s : Shared) (v : Value), BindsTo s fd ⟨[v], []⟩ [("_law_script", v)]) ∧ ∀ base : Heap, K.In base → base.Ns mainGlobals mg → (∀ p ∈ [(cl__law_looked, Pl__law_looked), (cl__law_made_right, Pl__law_made_right), (cl__law_of_right, Pl__law_of_right), (cl__law_of_none_right, Pl__law_of_none_right), (cl__law_between_right, Pl__law_between_right)], LamX.TabB base mg p.1 p.2) → Vc.FnG PySem.Challenge.pw_codestitch_k10_patches_made w K mg base CX0 16 fa fd ["_law_script"] (spLaw K [(Pl__law_looked, ((("_law_looked" : Str) ++ (".<locals>." : Str)) ++ ("<lambda>" : Str))), (Pl__law_made_right, ((("_law_made_right" : Str) ++ (".<locals>." : Str)) ++ ("<lambda>" : Str))), (Pl__law_of_right, ((("_law_of_right" : Str) ++ (".<locals>." : Str)) ++ ("<lambda>" : Str))), (Pl__law_of_none_right, ((("_law_of_none_right" : Str) ++ (".<locals>." : Str)) ++ ("<lambda>" : Str))), (Pl__law_between_right, ((("_law_between_right" : Str) ++ (".<locals>." : Str)) ++ ("<lambda>" : Str)))]) := by
  have e := hfa.symm.trans (PySem.W.mg_of X G a_law)
  cases e
  have F_is_byte := fun_mk (st := s_is_byte) l_is_byte c_is_byte k_is_byte
  have F_check_bytes := fun_mk (st := s_check_bytes) l_check_bytes c_check_bytes k_check_bytes
  have F_span_of := fun_mk (st := s_span_of) l_span_of c_span_of k_span_of
  have F_Imageu_initu := fun_mk (st := s_Imageu_initu) l_Imageu_initu c_Imageu_initu k_Imageu_initu
  have F_Imageu_lenu := fun_mk (st := s_Imageu_lenu) l_Imageu_lenu c_Imageu_lenu k_Imageu_lenu
  have F_Imageu_iteru := fun_mk (st := s_Imageu_iteru) l_Imageu_iteru c_Imageu_iteru k_Imageu_iteru
  have F_Imageu_getitemu := fun_mk (st := s_Imageu_getitemu) l_Imageu_getitemu c_Imageu_getitemu k_Imageu_getitemu
  have F_Patchu_initu := fun_mk (st := s_Patchu_initu) l_Patchu_initu c_Patchu_initu k_Patchu_initu
  have F_Patch_of := fun_mk (st := s_Patch_of) l_Patch_of c_Patch_of k_Patch_of
  have F_Patch_between := fun_mk (st := s_Patch_between) l_Patch_between c_Patch_between k_Patch_between
  have F_Patchu_lenu := fun_mk (st := s_Patchu_lenu) l_Patchu_lenu c_Patchu_lenu k_Patchu_lenu
  have F_Patch_addresses := fun_mk (st := s_Patch_addresses) l_Patch_addresses c_Patch_addresses k_Patch_addresses
  have F_Patchu_equ := fun_mk (st := s_Patchu_equ) l_Patchu_equ c_Patchu_equ k_Patchu_equ
  have F_Patchu_containsu := fun_mk (st := s_Patchu_containsu) l_Patchu_containsu c_Patchu_containsu k_Patchu_containsu
  have F_Patchu_getitemu := fun_mk (st := s_Patchu_getitemu) l_Patchu_getitemu c_Patchu_getitemu k_Patchu_getitemu
  have F__law_pen := fun_mk (st := s__law_pen) l__law_pen c__law_pen k__law_pen
  have F__law_draw := fun_mk (st := s__law_draw) l__law_draw c__law_draw k__law_draw
  have F__law_pick := fun_mk (st := s__law_pick) l__law_pick c__law_pick k__law_pick
  have F__law_word := fun_mk (st := s__law_word) l__law_word c__law_word k__law_word
  have F__law_heard := fun_mk (st := s__law_heard) l__law_heard c__law_heard k__law_heard
  have F__law_cells := fun_mk (st := s__law_cells) l__law_cells c__law_cells k__law_cells
  have F__law_pairs := fun_mk (st := s__law_pairs) l__law_pairs c__law_pairs k__law_pairs
  have F__law_due := fun_mk (st := s__law_due) l__law_due c__law_due k__law_due
  have F__law_shown := fun_mk (st := s__law_shown) l__law_shown c__law_shown k__law_shown
  have F__law_odd := fun_mk (st := s__law_odd) l__law_odd c__law_odd k__law_odd
  have F__law_looked := fun_mk (st := s__law_looked) l__law_looked c__law_looked k__law_looked
  have F__law_made_right := fun_mk (st := s__law_made_right) l__law_made_right c__law_made_right k__law_made_right
  have F__law_of := fun_mk (st := s__law_of) l__law_of c__law_of k__law_of
  have F__law_of_right := fun_mk (st := s__law_of_right) l__law_of_right c__law_of_right k__law_of_right
  have F__law_of_none_right := fun_mk (st := s__law_of_none_right) l__law_of_none_right c__law_of_none_right k__law_of_none_right
  have F__law_between_right := fun_mk (st := s__law_between_right) l__law_between_right c__law_between_right k__law_between_right
  have F_law := fun_mk (st := s_law) l_law c_law k_law
  have F_BadAddressu_initu : Vc.FunS PySem.Challenge.pw_codestitch_k10_patches_made K mg "__init__" "BadAddress.__init__" s_BadAddressu_initu f_BadAddressu_initu (PySem.W.ksFn "__init__" "BadAddress.__init__" (defArgs s_BadAddressu_initu) (defBody s_BadAddressu_initu) (defScope s_BadAddressu_initu) .none kV33 dc33 pm33 an33 (.ref cda33) ct33 cc33) C_BadAddress "self" := ⟨⟨_, _, _, _, _, _, _, _, _, _, rfl, l_BadAddressu_initu, c_BadAddressu_initu, ⟨⟨_, _, _, l_BadAddressu_initu⟩, ⟨_, rfl, rfl⟩, ⟨_, _, _, _, _, _, cl_BadAddressu_initu, cf_BadAddressu_initu, fe_BadAddressu_initu⟩, ⟨_, _, _, ce_BadAddressu_initu⟩, mrC_BadAddress, suC_BadAddress, svC_BadAddress, PySem.W.mg_none_of X G zsuper, znoop, ztop⟩⟩, k_BadAddressu_initu⟩
  have F_BadByteu_initu : Vc.FunS PySem.Challenge.pw_codestitch_k10_patches_made K mg "__init__" "BadByte.__init__" s_BadByteu_initu f_BadByteu_initu (PySem.W.ksFn "__init__" "BadByte.__init__" (defArgs s_BadByteu_initu) (defBody s_BadByteu_initu) (defScope s_BadByteu_initu) .none kV34 dc34 pm34 an34 (.ref cda34) ct34 cc34) C_BadByte "self" := ⟨⟨_, _, _, _, _, _, _, _, _, _, rfl, l_BadByteu_initu, c_BadByteu_initu, ⟨⟨_, _, _, l_BadByteu_initu⟩, ⟨_, rfl, rfl⟩, ⟨_, _, _, _, _, _, cl_BadByteu_initu, cf_BadByteu_initu, fe_BadByteu_initu⟩, ⟨_, _, _, ce_BadByteu_initu⟩, mrC_BadByte, suC_BadByte, svC_BadByte, PySem.W.mg_none_of X G zsuper, znoop, ztop⟩⟩, k_BadByteu_initu⟩
  have F_UnlikeLengthsu_initu : Vc.FunS PySem.Challenge.pw_codestitch_k10_patches_made K mg "__init__" "UnlikeLengths.__init__" s_UnlikeLengthsu_initu f_UnlikeLengthsu_initu (PySem.W.ksFn "__init__" "UnlikeLengths.__init__" (defArgs s_UnlikeLengthsu_initu) (defBody s_UnlikeLengthsu_initu) (defScope s_UnlikeLengthsu_initu) .none kV35 dc35 pm35 an35 (.ref cda35) ct35 cc35) C_UnlikeLengths "self" := ⟨⟨_, _, _, _, _, _, _, _, _, _, rfl, l_UnlikeLengthsu_initu, c_UnlikeLengthsu_initu, ⟨⟨_, _, _, l_UnlikeLengthsu_initu⟩, ⟨_, rfl, rfl⟩, ⟨_, _, _, _, _, _, cl_UnlikeLengthsu_initu, cf_UnlikeLengthsu_initu, fe_UnlikeLengthsu_initu⟩, ⟨_, _, _, ce_UnlikeLengthsu_initu⟩, mrC_UnlikeLengths, suC_UnlikeLengths, svC_UnlikeLengths, PySem.W.mg_none_of X G zsuper, znoop, ztop⟩⟩, k_UnlikeLengthsu_initu⟩
  have T : Txt K mg { C_Image := C_Image, C_Patch := C_Patch, f_is_byte := f_is_byte, d_is_byte := PySem.W.fnOf "is_byte" "is_byte" (defArgs s_is_byte) (defBody s_is_byte) (defScope s_is_byte) .none kV1 dc1 pm1 an1 cd1 ct1, f_check_bytes := f_check_bytes, d_check_bytes := PySem.W.fnOf "check_bytes" "check_bytes" (defArgs s_check_bytes) (defBody s_check_bytes) (defScope s_check_bytes) .none kV2 dc2 pm2 an2 cd2 ct2, f_span_of := f_span_of, d_span_of := PySem.W.fnOf "span_of" "span_of" (defArgs s_span_of) (defBody s_span_of) (defScope s_span_of) .none kV3 dc3 pm3 an3 cd3 ct3, f_Imageu_initu := f_Imageu_initu, d_Imageu_initu := PySem.W.fnOf "__init__" "Image.__init__" (defArgs s_Imageu_initu) (defBody s_Imageu_initu) (defScope s_Imageu_initu) .none kV4 dc4 pm4 an4 cd4 ct4, f_Imageu_lenu := f_Imageu_lenu, d_Imageu_lenu := PySem.W.fnOf "__len__" "Image.__len__" (defArgs s_Imageu_lenu) (defBody s_Imageu_lenu) (defScope s_Imageu_lenu) .none kV5 dc5 pm5 an5 cd5 ct5, f_Imageu_iteru := f_Imageu_iteru, d_Imageu_iteru := PySem.W.fnOf "__iter__" "Image.__iter__" (defArgs s_Imageu_iteru) (defBody s_Imageu_iteru) (defScope s_Imageu_iteru) .none kV6 dc6 pm6 an6 cd6 ct6, f_Imageu_getitemu := f_Imageu_getitemu, d_Imageu_getitemu := PySem.W.fnOf "__getitem__" "Image.__getitem__" (defArgs s_Imageu_getitemu) (defBody s_Imageu_getitemu) (defScope s_Imageu_getitemu) .none kV7 dc7 pm7 an7 cd7 ct7, f_Patchu_initu := f_Patchu_initu, d_Patchu_initu := PySem.W.fnOf "__init__" "Patch.__init__" (defArgs s_Patchu_initu) (defBody s_Patchu_initu) (defScope s_Patchu_initu) .none kV8 dc8 pm8 an8 cd8 ct8, f_Patch_of := f_Patch_of, d_Patch_of := PySem.W.fnOf "of" "Patch.of" (defArgs s_Patch_of) (defBody s_Patch_of) (defScope s_Patch_of) .none kV9 dc9 pm9 an9 cd9 ct9, sm_Patch_of := sm9, f_Patch_between := f_Patch_between, d_Patch_between := PySem.W.fnOf "between" "Patch.between" (defArgs s_Patch_between) (defBody s_Patch_between) (defScope s_Patch_between) .none kV10 dc10 pm10 an10 cd10 ct10, sm_Patch_between := sm10, f_Patchu_lenu := f_Patchu_lenu, d_Patchu_lenu := PySem.W.fnOf "__len__" "Patch.__len__" (defArgs s_Patchu_lenu) (defBody s_Patchu_lenu) (defScope s_Patchu_lenu) .none kV11 dc11 pm11 an11 cd11 ct11, f_Patch_addresses := f_Patch_addresses, d_Patch_addresses := PySem.W.fnOf "addresses" "Patch.addresses" (defArgs s_Patch_addresses) (defBody s_Patch_addresses) (defScope s_Patch_addresses) .none kV12 dc12 pm12 an12 cd12 ct12, f_Patchu_equ := f_Patchu_equ, d_Patchu_equ := PySem.W.fnOf "__eq__" "Patch.__eq__" (defArgs s_Patchu_equ) (defBody s_Patchu_equ) (defScope s_Patchu_equ) .none kV13 dc13 pm13 an13 cd13 ct13, f_Patchu_containsu := f_Patchu_containsu, d_Patchu_containsu := PySem.W.fnOf "__contains__" "Patch.__contains__" (defArgs s_Patchu_containsu) (defBody s_Patchu_containsu) (defScope s_Patchu_containsu) .none kV14 dc14 pm14 an14 cd14 ct14, f_Patchu_getitemu := f_Patchu_getitemu, d_Patchu_getitemu := PySem.W.fnOf "__getitem__" "Patch.__getitem__" (defArgs s_Patchu_getitemu) (defBody s_Patchu_getitemu) (defScope s_Patchu_getitemu) .none kV15 dc15 pm15 an15 cd15 ct15, f__law_pen := f__law_pen, d__law_pen := PySem.W.fnOf "_law_pen" "_law_pen" (defArgs s__law_pen) (defBody s__law_pen) (defScope s__law_pen) .none kV16 dc16 pm16 an16 cd16 ct16, f__law_draw := f__law_draw, d__law_draw := PySem.W.fnOf "_law_draw" "_law_draw" (defArgs s__law_draw) (defBody s__law_draw) (defScope s__law_draw) .none kV17 dc17 pm17 an17 cd17 ct17, f__law_pick := f__law_pick, d__law_pick := PySem.W.fnOf "_law_pick" "_law_pick" (defArgs s__law_pick) (defBody s__law_pick) (defScope s__law_pick) .none kV18 dc18 pm18 an18 cd18 ct18, f__law_word := f__law_word, d__law_word := PySem.W.fnOf "_law_word" "_law_word" (defArgs s__law_word) (defBody s__law_word) (defScope s__law_word) .none kV19 dc19 pm19 an19 cd19 ct19, f__law_heard := f__law_heard, d__law_heard := PySem.W.fnOf "_law_heard" "_law_heard" (defArgs s__law_heard) (defBody s__law_heard) (defScope s__law_heard) .none kV20 dc20 pm20 an20 cd20 ct20, f__law_cells := f__law_cells, d__law_cells := PySem.W.fnOf "_law_cells" "_law_cells" (defArgs s__law_cells) (defBody s__law_cells) (defScope s__law_cells) .none kV21 dc21 pm21 an21 cd21 ct21, f__law_pairs := f__law_pairs, d__law_pairs := PySem.W.fnOf "_law_pairs" "_law_pairs" (defArgs s__law_pairs) (defBody s__law_pairs) (defScope s__law_pairs) .none kV22 dc22 pm22 an22 cd22 ct22, f__law_due := f__law_due, d__law_due := PySem.W.fnOf "_law_due" "_law_due" (defArgs s__law_due) (defBody s__law_due) (defScope s__law_due) .none kV23 dc23 pm23 an23 cd23 ct23, f__law_shown := f__law_shown, d__law_shown := PySem.W.fnOf "_law_shown" "_law_shown" (defArgs s__law_shown) (defBody s__law_shown) (defScope s__law_shown) .none kV24 dc24 pm24 an24 cd24 ct24, f__law_odd := f__law_odd, d__law_odd := PySem.W.fnOf "_law_odd" "_law_odd" (defArgs s__law_odd) (defBody s__law_odd) (defScope s__law_odd) .none kV25 dc25 pm25 an25 cd25 ct25, f__law_looked := f__law_looked, d__law_looked := PySem.W.fnOf "_law_looked" "_law_looked" (defArgs s__law_looked) (defBody s__law_looked) (defScope s__law_looked) .none kV26 dc26 pm26 an26 cd26 ct26, f__law_made_right := f__law_made_right, d__law_made_right := PySem.W.fnOf "_law_made_right" "_law_made_right" (defArgs s__law_made_right) (defBody s__law_made_right) (defScope s__law_made_right) .none kV27 dc27 pm27 an27 cd27 ct27, f__law_of := f__law_of, d__law_of := PySem.W.fnOf "_law_of" "_law_of" (defArgs s__law_of) (defBody s__law_of) (defScope s__law_of) .none kV28 dc28 pm28 an28 cd28 ct28, f__law_of_right := f__law_of_right, d__law_of_right := PySem.W.fnOf "_law_of_right" "_law_of_right" (defArgs s__law_of_right) (defBody s__law_of_right) (defScope s__law_of_right) .none kV29 dc29 pm29 an29 cd29 ct29, f__law_of_none_right := f__law_of_none_right, d__law_of_none_right := PySem.W.fnOf "_law_of_none_right" "_law_of_none_right" (defArgs s__law_of_none_right) (defBody s__law_of_none_right) (defScope s__law_of_none_right) .none kV30 dc30 pm30 an30 cd30 ct30, f__law_between_right := f__law_between_right, d__law_between_right := PySem.W.fnOf "_law_between_right" "_law_between_right" (defArgs s__law_between_right) (defBody s__law_between_right) (defScope s__law_between_right) .none kV31 dc31 pm31 an31 cd31 ct31, f_law := fa, d_law := PySem.W.fnOf "law" "law" (defArgs s_law) (defBody s_law) (defScope s_law) .none kV32 dc32 pm32 an32 cd32 ct32, C_CodeError := C_CodeError, C_BadCodes := C_BadCodes, C_BadLayout := C_BadLayout, C_BadRewrite := C_BadRewrite, C_BadStep := C_BadStep, C_BadText := C_BadText, C_NotRight := C_NotRight, C_NoWay := C_NoWay, C_BadInput := C_BadInput, C_BadAddress := C_BadAddress, f_BadAddressu_initu := f_BadAddressu_initu, d_BadAddressu_initu := PySem.W.ksFn "__init__" "BadAddress.__init__" (defArgs s_BadAddressu_initu) (defBody s_BadAddressu_initu) (defScope s_BadAddressu_initu) .none kV33 dc33 pm33 an33 (.ref cda33) ct33 cc33, C_BadByte := C_BadByte, f_BadByteu_initu := f_BadByteu_initu, d_BadByteu_initu := PySem.W.ksFn "__init__" "BadByte.__init__" (defArgs s_BadByteu_initu) (defBody s_BadByteu_initu) (defScope s_BadByteu_initu) .none kV34 dc34 pm34 an34 (.ref cda34) ct34 cc34, C_UnlikeLengths := C_UnlikeLengths, f_UnlikeLengthsu_initu := f_UnlikeLengthsu_initu, d_UnlikeLengthsu_initu := PySem.W.ksFn "__init__" "UnlikeLengths.__init__" (defArgs s_UnlikeLengthsu_initu) (defBody s_UnlikeLengthsu_initu) (defScope s_UnlikeLengthsu_initu) .none kV35 dc35 pm35 an35 (.ref cda35) ct35 cc35 } := {
    g_Image := (PySem.W.mg_of X G aC_Image),
    g_Patch := (PySem.W.mg_of X G aC_Patch),
    g_is_byte := (PySem.W.mg_of X G a_is_byte),
    F_is_byte := (F_is_byte),
    b_is_byte := (F_is_byte.binds (ps := ["value"]) fun _ _ _ _ _ _ us hl => match us, hl with | [_], _ => rfl),
    g_check_bytes := (PySem.W.mg_of X G a_check_bytes),
    F_check_bytes := (F_check_bytes),
    b_check_bytes := (F_check_bytes.binds (ps := ["values"]) fun _ _ _ _ _ _ us hl => match us, hl with | [_], _ => rfl),
    g_span_of := (PySem.W.mg_of X G a_span_of),
    F_span_of := (F_span_of),
    b_span_of := (F_span_of.binds (ps := ["at", "size"]) fun _ _ _ _ _ _ us hl => match us, hl with | [_, _], _ => rfl),
    F_Imageu_initu := (F_Imageu_initu),
    b_Imageu_initu := (F_Imageu_initu.binds (ps := ["self", "values"]) fun _ _ _ _ _ _ us hl => match us, hl with | [_, _], _ => rfl),
    F_Imageu_lenu := (F_Imageu_lenu),
    b_Imageu_lenu := (F_Imageu_lenu.binds (ps := ["self"]) fun _ _ _ _ _ _ us hl => match us, hl with | [_], _ => rfl),
    F_Imageu_iteru := (F_Imageu_iteru),
    b_Imageu_iteru := (F_Imageu_iteru.binds (ps := ["self"]) fun _ _ _ _ _ _ us hl => match us, hl with | [_], _ => rfl),
    F_Imageu_getitemu := (F_Imageu_getitemu),
    b_Imageu_getitemu := (F_Imageu_getitemu.binds (ps := ["self", "at"]) fun _ _ _ _ _ _ us hl => match us, hl with | [_, _], _ => rfl),
    F_Patchu_initu := (F_Patchu_initu),
    b_Patchu_initu := (F_Patchu_initu.binds (ps := ["self", "pairs"]) fun _ _ _ _ _ _ us hl => match us, hl with | [_, _], _ => rfl),
    cm_Patch_of := (⟨sma_Patch_of, ⟨_, smr_Patch_of⟩, fi_Patch_of⟩),
    F_Patch_of := (F_Patch_of),
    b_Patch_of := (Vc.Fun.bindsV F_Patch_of fun _ _ _ _ _ _ us rest hl => match us, rest, hl with | [_, _], [], _ => rfl | [_, _], _ :: _, _ => rfl),
    sm_Patch_between := (⟨sma_Patch_between, ⟨_, smr_Patch_between⟩, k_Patch_between⟩),
    F_Patch_between := (F_Patch_between),
    b_Patch_between := (F_Patch_between.binds (ps := ["old", "new"]) fun _ _ _ _ _ _ us hl => match us, hl with | [_, _], _ => rfl),
    F_Patchu_lenu := (F_Patchu_lenu),
    b_Patchu_lenu := (F_Patchu_lenu.binds (ps := ["self"]) fun _ _ _ _ _ _ us hl => match us, hl with | [_], _ => rfl),
    F_Patch_addresses := (F_Patch_addresses),
    b_Patch_addresses := (F_Patch_addresses.binds (ps := ["self"]) fun _ _ _ _ _ _ us hl => match us, hl with | [_], _ => rfl),
    F_Patchu_equ := (F_Patchu_equ),
    b_Patchu_equ := (F_Patchu_equ.binds (ps := ["self", "other"]) fun _ _ _ _ _ _ us hl => match us, hl with | [_, _], _ => rfl),
    F_Patchu_containsu := (F_Patchu_containsu),
    b_Patchu_containsu := (F_Patchu_containsu.binds (ps := ["self", "address"]) fun _ _ _ _ _ _ us hl => match us, hl with | [_, _], _ => rfl),
    F_Patchu_getitemu := (F_Patchu_getitemu),
    b_Patchu_getitemu := (F_Patchu_getitemu.binds (ps := ["self", "address"]) fun _ _ _ _ _ _ us hl => match us, hl with | [_, _], _ => rfl),
    g__law_pen := (PySem.W.mg_of X G a__law_pen),
    F__law_pen := (F__law_pen),
    b__law_pen := (F__law_pen.binds (ps := ["_law_script"]) fun _ _ _ _ _ _ us hl => match us, hl with | [_], _ => rfl),
    g__law_draw := (PySem.W.mg_of X G a__law_draw),
    F__law_draw := (F__law_draw),
    b__law_draw := (F__law_draw.binds (ps := ["_law_pen_here", "_law_many"]) fun _ _ _ _ _ _ us hl => match us, hl with | [_, _], _ => rfl),
    g__law_pick := (PySem.W.mg_of X G a__law_pick),
    F__law_pick := (F__law_pick),
    b__law_pick := (F__law_pick.binds (ps := ["_law_pen_here", "_law_some"]) fun _ _ _ _ _ _ us hl => match us, hl with | [_, _], _ => rfl),
    g__law_word := (PySem.W.mg_of X G a__law_word),
    F__law_word := (F__law_word),
    b__law_word := (F__law_word.binds (ps := ["_law_error"]) fun _ _ _ _ _ _ us hl => match us, hl with | [_], _ => rfl),
    g__law_heard := (PySem.W.mg_of X G a__law_heard),
    F__law_heard := (F__law_heard),
    b__law_heard := (F__law_heard.binds (ps := ["_law_asked"]) fun _ _ _ _ _ _ us hl => match us, hl with | [_], _ => rfl),
    g__law_cells := (PySem.W.mg_of X G a__law_cells),
    F__law_cells := (F__law_cells),
    b__law_cells := (F__law_cells.binds (ps := ["_law_row"]) fun _ _ _ _ _ _ us hl => match us, hl with | [_], _ => rfl),
    g__law_pairs := (PySem.W.mg_of X G a__law_pairs),
    F__law_pairs := (F__law_pairs),
    b__law_pairs := (F__law_pairs.binds (ps := ["_law_pen_here"]) fun _ _ _ _ _ _ us hl => match us, hl with | [_], _ => rfl),
    g__law_due := (PySem.W.mg_of X G a__law_due),
    F__law_due := (F__law_due),
    b__law_due := (F__law_due.binds (ps := ["_law_pairs_here"]) fun _ _ _ _ _ _ us hl => match us, hl with | [_], _ => rfl),
    g__law_shown := (PySem.W.mg_of X G a__law_shown),
    F__law_shown := (F__law_shown),
    b__law_shown := (F__law_shown.binds (ps := ["_law_patch"]) fun _ _ _ _ _ _ us hl => match us, hl with | [_], _ => rfl),
    g__law_odd := (PySem.W.mg_of X G a__law_odd),
    F__law_odd := (F__law_odd),
    b__law_odd := (F__law_odd.binds (ps := []) fun _ _ _ _ _ _ us hl => match us, hl with | [], _ => rfl),
    g__law_looked := (PySem.W.mg_of X G a__law_looked),
    F__law_looked := (F__law_looked),
    b__law_looked := (F__law_looked.binds (ps := ["_law_patch", "_law_pairs_here"]) fun _ _ _ _ _ _ us hl => match us, hl with | [_, _], _ => rfl),
    g__law_made_right := (PySem.W.mg_of X G a__law_made_right),
    F__law_made_right := (F__law_made_right),
    b__law_made_right := (F__law_made_right.binds (ps := ["_law_pairs_here"]) fun _ _ _ _ _ _ us hl => match us, hl with | [_], _ => rfl),
    g__law_of := (PySem.W.mg_of X G a__law_of),
    F__law_of := (F__law_of),
    b__law_of := (F__law_of.binds (ps := ["_law_first", "_law_row"]) fun _ _ _ _ _ _ us hl => match us, hl with | [_, _], _ => rfl),
    g__law_of_right := (PySem.W.mg_of X G a__law_of_right),
    F__law_of_right := (F__law_of_right),
    b__law_of_right := (F__law_of_right.binds (ps := ["_law_pen_here"]) fun _ _ _ _ _ _ us hl => match us, hl with | [_], _ => rfl),
    g__law_of_none_right := (PySem.W.mg_of X G a__law_of_none_right),
    F__law_of_none_right := (F__law_of_none_right),
    b__law_of_none_right := (F__law_of_none_right.binds (ps := []) fun _ _ _ _ _ _ us hl => match us, hl with | [], _ => rfl),
    g__law_between_right := (PySem.W.mg_of X G a__law_between_right),
    F__law_between_right := (F__law_between_right),
    b__law_between_right := (F__law_between_right.binds (ps := ["_law_pen_here"]) fun _ _ _ _ _ _ us hl => match us, hl with | [_], _ => rfl),
    g_law := (PySem.W.mg_of X G a_law),
    F_law := (F_law),
    b_law := (F_law.binds (ps := ["_law_script"]) fun _ _ _ _ _ _ us hl => match us, hl with | [_], _ => rfl),
    cl_Image := (⟨pg_Image, hd_Image, po_Image, sa_Image⟩),
    mk_Image := (⟨mk_Image, a_Imageu_initu, i_Imageu_initu, kc_Image⟩),
    no_Image_cells := (no_Image_cells),
    cl_Patch := (⟨pg_Patch, hd_Patch, po_Patch, sa_Patch⟩),
    mk_Patch := (⟨mk_Patch, a_Patchu_initu, i_Patchu_initu, kc_Patch⟩),
    m_Patch_addresses := (⟨a_Patch_addresses, i_Patch_addresses, k_Patch_addresses⟩),
    no_Patch_pairs := (no_Patch_pairs),
    n_len := (PySem.W.mg_none_of X G z_len),
    n_abs := (PySem.W.mg_none_of X G z_abs),
    n_int := (PySem.W.mg_none_of X G z_int),
    n_list := (PySem.W.mg_none_of X G z_list),
    n_range := (PySem.W.mg_none_of X G z_range),
    n_isinstance := (PySem.W.mg_none_of X G z_isinstance),
    n_bool := (PySem.W.mg_none_of X G z_bool),
    n_str := (PySem.W.mg_none_of X G z_str),
    n_tuple := (PySem.W.mg_none_of X G z_tuple),
    n_all := (PySem.W.mg_none_of X G z_all),
    n_set := (PySem.W.mg_none_of X G z_set),
    n_sorted := (PySem.W.mg_none_of X G z_sorted),
    n_ValueError := (PySem.W.mg_none_of X G z_ValueError),
    n_repr := (PySem.W.mg_none_of X G z_repr),
    n_max := (PySem.W.mg_none_of X G z_max),
    n_min := (PySem.W.mg_none_of X G z_min),
    n_iter := (PySem.W.mg_none_of X G z_iter),
    n_enumerate := (PySem.W.mg_none_of X G z_enumerate),
    n_dict := (PySem.W.mg_none_of X G z_dict),
    g_CodeError := (PySem.W.mg_of X G aC_CodeError),
    g_BadCodes := (PySem.W.mg_of X G aC_BadCodes),
    g_BadLayout := (PySem.W.mg_of X G aC_BadLayout),
    g_BadRewrite := (PySem.W.mg_of X G aC_BadRewrite),
    g_BadStep := (PySem.W.mg_of X G aC_BadStep),
    g_BadText := (PySem.W.mg_of X G aC_BadText),
    g_NotRight := (PySem.W.mg_of X G aC_NotRight),
    g_NoWay := (PySem.W.mg_of X G aC_NoWay),
    g_BadInput := (PySem.W.mg_of X G aC_BadInput),
    g_BadAddress := (PySem.W.mg_of X G aC_BadAddress),
    ox_BadAddress := (⟨⟨_, _, _, _, _, _, _, _, _, _, _, _, _, _, _, lkC_BadAddress, bmC_BadAddress⟩, saC_BadAddress, exC_BadAddress, tyC_BadAddress, kpC_BadAddress⟩),
    i_BadAddress := (inC_BadAddress),
    ti_BadAddress := (tiC_BadAddress),
    no_BadAddress_at := (noC_BadAddress_at),
    xf_BadAddress := (⟨gaC_BadAddress, ggC_BadAddress, exC_BadAddress, hdC_BadAddress⟩),
    ec_BadAddress := (⟨gaC_BadAddress, ggC_BadAddress, exC_BadAddress, hdC_BadAddress, gcC_BadAddress, zgcn, zgct, moC_BadAddress⟩),
    F_BadAddressu_initu := (F_BadAddressu_initu),
    b_BadAddressu_initu := (F_BadAddressu_initu.binds (ps := ["self", "at"]) fun _ _ _ _ _ _ _ us hl => match us, hl with | [_, _], _ => rfl),
    g_BadByte := (PySem.W.mg_of X G aC_BadByte),
    ox_BadByte := (⟨⟨_, _, _, _, _, _, _, _, _, _, _, _, _, _, _, lkC_BadByte, bmC_BadByte⟩, saC_BadByte, exC_BadByte, tyC_BadByte, kpC_BadByte⟩),
    i_BadByte := (inC_BadByte),
    ti_BadByte := (tiC_BadByte),
    no_BadByte_at := (noC_BadByte_at),
    xf_BadByte := (⟨gaC_BadByte, ggC_BadByte, exC_BadByte, hdC_BadByte⟩),
    ec_BadByte := (⟨gaC_BadByte, ggC_BadByte, exC_BadByte, hdC_BadByte, gcC_BadByte, zgcn, zgct, moC_BadByte⟩),
    F_BadByteu_initu := (F_BadByteu_initu),
    b_BadByteu_initu := (F_BadByteu_initu.binds (ps := ["self", "at"]) fun _ _ _ _ _ _ _ us hl => match us, hl with | [_, _], _ => rfl),
    g_UnlikeLengths := (PySem.W.mg_of X G aC_UnlikeLengths),
    ox_UnlikeLengths := (⟨⟨_, _, _, _, _, _, _, _, _, _, _, _, _, _, _, lkC_UnlikeLengths, bmC_UnlikeLengths⟩, saC_UnlikeLengths, exC_UnlikeLengths, tyC_UnlikeLengths, kpC_UnlikeLengths⟩),
    i_UnlikeLengths := (inC_UnlikeLengths),
    ti_UnlikeLengths := (tiC_UnlikeLengths),
    no_UnlikeLengths_one := (noC_UnlikeLengths_one),
    no_UnlikeLengths_other := (noC_UnlikeLengths_other),
    xf_UnlikeLengths := (⟨gaC_UnlikeLengths, ggC_UnlikeLengths, exC_UnlikeLengths, hdC_UnlikeLengths⟩),
    ec_UnlikeLengths := (⟨gaC_UnlikeLengths, ggC_UnlikeLengths, exC_UnlikeLengths, hdC_UnlikeLengths, gcC_UnlikeLengths, zgcn, zgct, moC_UnlikeLengths⟩),
    F_UnlikeLengthsu_initu := (F_UnlikeLengthsu_initu),
    b_UnlikeLengthsu_initu := (F_UnlikeLengthsu_initu.binds (ps := ["self", "one", "other"]) fun _ _ _ _ _ _ _ us hl => match us, hl with | [_, _, _], _ => rfl),
    kit_BadAddress_BadAddress := (kit_BadAddress_BadAddress),
    kit_BadAddress_BadByte := (kit_BadAddress_BadByte),
    kit_BadAddress_UnlikeLengths := (kit_BadAddress_UnlikeLengths),
    kit_BadAddress_BadCodes := (kit_BadAddress_BadCodes),
    kit_BadAddress_BadLayout := (kit_BadAddress_BadLayout),
    kit_BadAddress_BadRewrite := (kit_BadAddress_BadRewrite),
    kit_BadAddress_BadStep := (kit_BadAddress_BadStep),
    kit_BadAddress_BadText := (kit_BadAddress_BadText),
    kit_BadAddress_NotRight := (kit_BadAddress_NotRight),
    kit_BadAddress_NoWay := (kit_BadAddress_NoWay),
    kit_BadAddress_BadInput := (kit_BadAddress_BadInput),
    kit_BadAddress_ValueError := (kit_BadAddress_ValueError),
    kit_BadByte_BadAddress := (kit_BadByte_BadAddress),
    kit_BadByte_BadByte := (kit_BadByte_BadByte),
    kit_BadByte_UnlikeLengths := (kit_BadByte_UnlikeLengths),
    kit_BadByte_BadCodes := (kit_BadByte_BadCodes),
    kit_BadByte_BadLayout := (kit_BadByte_BadLayout),
    kit_BadByte_BadRewrite := (kit_BadByte_BadRewrite),
    kit_BadByte_BadStep := (kit_BadByte_BadStep),
    kit_BadByte_BadText := (kit_BadByte_BadText),
    kit_BadByte_NotRight := (kit_BadByte_NotRight),
    kit_BadByte_NoWay := (kit_BadByte_NoWay),
    kit_BadByte_BadInput := (kit_BadByte_BadInput),
    kit_BadByte_ValueError := (kit_BadByte_ValueError),
    kit_UnlikeLengths_BadAddress := (kit_UnlikeLengths_BadAddress),
    kit_UnlikeLengths_BadByte := (kit_UnlikeLengths_BadByte),
    kit_UnlikeLengths_UnlikeLengths := (kit_UnlikeLengths_UnlikeLengths),
    kit_UnlikeLengths_BadCodes := (kit_UnlikeLengths_BadCodes),
    kit_UnlikeLengths_BadLayout := (kit_UnlikeLengths_BadLayout),
    kit_UnlikeLengths_BadRewrite := (kit_UnlikeLengths_BadRewrite),
    kit_UnlikeLengths_BadStep := (kit_UnlikeLengths_BadStep),
    kit_UnlikeLengths_BadText := (kit_UnlikeLengths_BadText),
    kit_UnlikeLengths_NotRight := (kit_UnlikeLengths_NotRight),
    kit_UnlikeLengths_NoWay := (kit_UnlikeLengths_NoWay),
    kit_UnlikeLengths_BadInput := (kit_UnlikeLengths_BadInput),
    kit_UnlikeLengths_ValueError := (kit_UnlikeLengths_ValueError),
    exm_BadAddress_CodeError := (exm_BadAddress_CodeError),
    exm_BadByte_CodeError := (exm_BadByte_CodeError),
    exm_UnlikeLengths_CodeError := (exm_UnlikeLengths_CodeError),
    ic_Image := (⟨⟨pg_Image, hd_Image, po_Image, sa_Image⟩, icc_Image, zgcn, zgct, icm_Image, kit_Image_Image⟩),
    ic_Patch := (⟨⟨pg_Patch, hd_Patch, po_Patch, sa_Patch⟩, icc_Patch, zgcn, zgct, icm_Patch, kit_Patch_Patch⟩),
    eq_Patch := (⟨a_Patchu_equ, i_Patchu_equ⟩),
    kt_list_Image := (kit_list_Image),
    kt_tuple_Image := (kit_tuple_Image),
    kt_NoneType_Patch := (kit_NoneType_Patch),
    kt_bool_Patch := (kit_bool_Patch),
    kt_int_Patch := (kit_int_Patch),
    kt_str_Patch := (kit_str_Patch),
    kt_dict_Patch := (kit_dict_Patch),
    kt_list_Patch := (kit_list_Patch),
    kt_tuple_Patch := (kit_tuple_Patch),
    nf_Patch_Patch := (nf_Patch_Patch),
    nf_NoneType_Patch := (nf_NoneType_Patch),
    nf_bool_Patch := (nf_bool_Patch),
    nf_int_Patch := (nf_int_Patch),
    nf_str_Patch := (nf_str_Patch),
    nf_dict_Patch := (nf_dict_Patch),
    nf_list_Patch := (nf_list_Patch),
    nf_tuple_Patch := (nf_tuple_Patch),
    sp_Image_Imageu_iteru := (⟨a_Imageu_iteru, i_Imageu_iteru⟩),
    sp_Image_Imageu_lenu := (⟨a_Imageu_lenu, i_Imageu_lenu⟩),
    sp_Image_Imageu_getitemu := (⟨a_Imageu_getitemu, i_Imageu_getitemu⟩),
    spf_Imageu_getitemu := (spi_Imageu_getitemu),
    sp_Patch_Patchu_getitemu := (⟨a_Patchu_getitemu, i_Patchu_getitemu⟩),
    spf_Patchu_getitemu := (spi_Patchu_getitemu),
    sp_Patch_Patchu_containsu := (⟨a_Patchu_containsu, i_Patchu_containsu⟩),
    sp_Patch_Patchu_lenu := (⟨a_Patchu_lenu, i_Patchu_lenu⟩),
    cr_Patch := (⟨rd_Patch, gat_Patch⟩) }
  exact ⟨PySem.W.fnOf "law" "law" (defArgs s_law) (defBody s_law) (defScope s_law) .none kV32 dc32 pm32 an32 cd32 ct32, fun s v => .of_eq rfl, fun base _ _ hTB => ok_law T ⟨Vc.lamB_co lam__law_looked, hTB (cl__law_looked, Pl__law_looked) (by simp), by simp, (un_0 lne__law_looked__law_made_right lne__law_looked__law_of_right lne__law_looked__law_of_none_right lne__law_looked__law_between_right lne__law_made_right__law_of_right lne__law_made_right__law_of_none_right lne__law_made_right__law_between_right lne__law_of_right__law_of_none_right lne__law_of_right__law_between_right lne__law_of_none_right__law_between_right)⟩ ⟨Vc.lamB_co lam__law_made_right, hTB (cl__law_made_right, Pl__law_made_right) (by simp), by simp, (un_1 lne__law_looked__law_made_right lne__law_looked__law_of_right lne__law_looked__law_of_none_right lne__law_looked__law_between_right lne__law_made_right__law_of_right lne__law_made_right__law_of_none_right lne__law_made_right__law_between_right lne__law_of_right__law_of_none_right lne__law_of_right__law_between_right lne__law_of_none_right__law_between_right)⟩ ⟨Vc.lamB_co lam__law_of_right, hTB (cl__law_of_right, Pl__law_of_right) (by simp), by simp, (un_2 lne__law_looked__law_made_right lne__law_looked__law_of_right lne__law_looked__law_of_none_right lne__law_looked__law_between_right lne__law_made_right__law_of_right lne__law_made_right__law_of_none_right lne__law_made_right__law_between_right lne__law_of_right__law_of_none_right lne__law_of_right__law_between_right lne__law_of_none_right__law_between_right)⟩ ⟨Vc.lamB_co lam__law_of_none_right, hTB (cl__law_of_none_right, Pl__law_of_none_right) (by simp), by simp, (un_3 lne__law_looked__law_made_right lne__law_looked__law_of_right lne__law_looked__law_of_none_right lne__law_looked__law_between_right lne__law_made_right__law_of_right lne__law_made_right__law_of_none_right lne__law_made_right__law_between_right lne__law_of_right__law_of_none_right lne__law_of_right__law_between_right lne__law_of_none_right__law_between_right)⟩ ⟨Vc.lamB_co lam__law_between_right, hTB (cl__law_between_right, Pl__law_between_right) (by simp), by simp, (un_4 lne__law_looked__law_made_right lne__law_looked__law_of_right lne__law_looked__law_of_none_right lne__law_looked__law_between_right lne__law_made_right__law_of_right lne__law_made_right__law_of_none_right lne__law_made_right__law_between_right lne__law_of_right__law_of_none_right lne__law_of_right__law_between_right lne__law_of_none_right__law_between_right)⟩⟩
def TbN : List (Addr × Str) := [(533, ((("_law_looked" : Str) ++ (".<locals>." : Str)) ++ ("<lambda>" : Str))), (540, ((("_law_made_right" : Str) ++ (".<locals>." : Str)) ++ ("<lambda>" : Str))), (552, ((("_law_of_right" : Str) ++ (".<locals>." : Str)) ++ ("<lambda>" : Str))), (557, ((("_law_of_none_right" : Str) ++ (".<locals>." : Str)) ++ ("<lambda>" : Str))), (564, ((("_law_between_right" : Str) ++ (".<locals>." : Str)) ++ ("<lambda>" : Str)))]
theorem all_mk2 {w : World} {K : PySem.W.Frag} {h : Heap} {mg : Str → Option Value} {fa : Addr} (X : K.In h) (G : h.Ns mainGlobals mg) (hfa : mg "law" = some (.ref fa)) (c : Hx.chk faN K = true) (E : fnN.map (Hx.fnQ K) = fnN.map Hx.Dq.val) :
    (∀ p ∈ csN, ∃ (y : Str) (f : Addr), ((recsOf qv).any fun e => e.name == y) = true ∧ mg y = some (.ref f) ∧ Vc.lamB K f p.1 p.2 = true) ∧ ∃ fd : FuncData, (∀ (s : Shared) (v : Value), BindsTo s fd ⟨[v], []⟩ [("_law_script", v)]) ∧ ∀ base : Heap, K.In base → base.Ns mainGlobals mg → (∀ p ∈ csN, LamX.TabB base mg p.1 p.2) → Vc.FnG PySem.Challenge.pw_codestitch_k10_patches_made w K mg base CX0 16 fa fd ["_law_script"] (spLaw K TbN) := by
  obtain ⟨B0, c⟩ := Hx.chk_app c
  obtain ⟨B1, c⟩ := Hx.chk_app c
  obtain ⟨B2, c⟩ := Hx.chk_app c
  obtain ⟨B3, c⟩ := Hx.chk_app c
  obtain ⟨B4, c⟩ := Hx.chk_app c
  obtain ⟨B5, c⟩ := Hx.chk_app c
  obtain ⟨B6, c⟩ := Hx.chk_app c
  have B7 : Hx.chk fa7 K = true := c
  have aC_Image : PySem.W.nsIn K mainGlobals "Image" = some (some (.ref 461)) := of_decide_eq_true (Hx.fact B0 0 rfl)
  have aC_Patch : PySem.W.nsIn K mainGlobals "Patch" = some (some (.ref 353)) := of_decide_eq_true (Hx.fact B0 1 rfl)
  have a_is_byte : PySem.W.nsIn K mainGlobals "is_byte" = some (some (.ref 245)) := of_decide_eq_true (Hx.fact B0 2 rfl)
  obtain ⟨oc1, kV1, dc1, pm1, cd1, ct1, od1, an1, sl1, l_is_byte, c_is_byte⟩ := Hx.plain_ok (Hx.at_map E 0 rfl) (Hx.fact B0 3 rfl)
  have k_is_byte : PySem.W.keepIn K (.ref 245) = true := (Hx.fact B0 4 rfl)
  have a_check_bytes : PySem.W.nsIn K mainGlobals "check_bytes" = some (some (.ref 364)) := of_decide_eq_true (Hx.fact B0 5 rfl)
  obtain ⟨oc2, kV2, dc2, pm2, cd2, ct2, od2, an2, sl2, l_check_bytes, c_check_bytes⟩ := Hx.plain_ok (Hx.at_map E 1 rfl) (Hx.fact B0 6 rfl)
  have k_check_bytes : PySem.W.keepIn K (.ref 364) = true := (Hx.fact B0 7 rfl)
  have a_span_of : PySem.W.nsIn K mainGlobals "span_of" = some (some (.ref 371)) := of_decide_eq_true (Hx.fact B0 8 rfl)
  obtain ⟨oc3, kV3, dc3, pm3, cd3, ct3, od3, an3, sl3, l_span_of, c_span_of⟩ := Hx.plain_ok (Hx.at_map E 2 rfl) (Hx.fact B0 9 rfl)
  have k_span_of : PySem.W.keepIn K (.ref 371) = true := (Hx.fact B0 10 rfl)
  have a_Imageu_initu : PySem.W.findIn K (.ref 461) "__init__" = some (some (.ref 390)) := of_decide_eq_true (Hx.fact B0 11 rfl)
  have i_Imageu_initu : PySem.W.isFn K (.ref 390) = true := (Hx.fact B0 12 rfl)
  obtain ⟨oc4, kV4, dc4, pm4, cd4, ct4, od4, an4, sl4, l_Imageu_initu, c_Imageu_initu⟩ := Hx.plain_ok (Hx.at_map E 3 rfl) (Hx.fact B0 13 rfl)
  have k_Imageu_initu : PySem.W.keepIn K (.ref 390) = true := (Hx.fact B0 14 rfl)
  have a_Imageu_lenu : PySem.W.findIn K (.ref 461) "__len__" = some (some (.ref 397)) := of_decide_eq_true (Hx.fact B0 15 rfl)
  have i_Imageu_lenu : PySem.W.isFn K (.ref 397) = true := (Hx.fact B0 16 rfl)
  obtain ⟨oc5, kV5, dc5, pm5, cd5, ct5, od5, an5, sl5, l_Imageu_lenu, c_Imageu_lenu⟩ := Hx.plain_ok (Hx.at_map E 4 rfl) (Hx.fact B0 17 rfl)
  have k_Imageu_lenu : PySem.W.keepIn K (.ref 397) = true := (Hx.fact B0 18 rfl)
  have a_Imageu_iteru : PySem.W.findIn K (.ref 461) "__iter__" = some (some (.ref 404)) := of_decide_eq_true (Hx.fact B0 19 rfl)
  have i_Imageu_iteru : PySem.W.isFn K (.ref 404) = true := (Hx.fact B0 20 rfl)
  obtain ⟨oc6, kV6, dc6, pm6, cd6, ct6, od6, an6, sl6, l_Imageu_iteru, c_Imageu_iteru⟩ := Hx.plain_ok (Hx.at_map E 5 rfl) (Hx.fact B0 21 rfl)
  have k_Imageu_iteru : PySem.W.keepIn K (.ref 404) = true := (Hx.fact B0 22 rfl)
  have a_Imageu_getitemu : PySem.W.findIn K (.ref 461) "__getitem__" = some (some (.ref 418)) := of_decide_eq_true (Hx.fact B0 23 rfl)
  have i_Imageu_getitemu : PySem.W.isFn K (.ref 418) = true := (Hx.fact B0 24 rfl)
  obtain ⟨oc7, kV7, dc7, pm7, cd7, ct7, od7, an7, sl7, l_Imageu_getitemu, c_Imageu_getitemu⟩ := Hx.plain_ok (Hx.at_map E 6 rfl) (Hx.fact B0 25 rfl)
  have k_Imageu_getitemu : PySem.W.keepIn K (.ref 418) = true := (Hx.fact B0 26 rfl)
  have a_Patchu_initu : PySem.W.findIn K (.ref 353) "__init__" = some (some (.ref 257)) := of_decide_eq_true (Hx.fact B0 27 rfl)
  have i_Patchu_initu : PySem.W.isFn K (.ref 257) = true := (Hx.fact B0 28 rfl)
  obtain ⟨oc8, kV8, dc8, pm8, cd8, ct8, od8, an8, sl8, l_Patchu_initu, c_Patchu_initu⟩ := Hx.plain_ok (Hx.at_map E 7 rfl) (Hx.fact B0 29 rfl)
  have k_Patchu_initu : PySem.W.keepIn K (.ref 257) = true := (Hx.fact B0 30 rfl)
  have sma_Patch_of : PySem.W.findCls K (.ref 353) (.type "type") "of" = some (.get (.builtin "classmethod.__get__") (.ref 264) .none (.ref 353)) := Hx.fcC_ok (Hx.fact B0 31 rfl)
  obtain ⟨rst9, smr_Patch_of⟩ := Hx.rec1_ok (Hx.fact B0 32 rfl)
  have fi_Patch_of : PySem.W.fnIn K 262 = true := (Hx.fact B0 33 rfl)
  obtain ⟨oc9, kV9, dc9, pm9, cd9, ct9, od9, an9, sl9, l_Patch_of, c_Patch_of⟩ := Hx.plain_ok (Hx.at_map E 8 rfl) (Hx.fact B0 34 rfl)
  have k_Patch_of : PySem.W.keepIn K (.ref 262) = true := (Hx.fact B0 35 rfl)
  have sma_Patch_between : PySem.W.findCls K (.ref 353) (.type "type") "between" = some (.get (.builtin "staticmethod.__get__") (.ref 272) .none (.ref 353)) := Hx.fcS_ok (Hx.fact B0 36 rfl)
  obtain ⟨rst10, smr_Patch_between⟩ := Hx.rec1_ok (Hx.fact B0 37 rfl)
  obtain ⟨oc10, kV10, dc10, pm10, cd10, ct10, od10, an10, sl10, l_Patch_between, c_Patch_between⟩ := Hx.plain_ok (Hx.at_map E 9 rfl) (Hx.fact B0 38 rfl)
  have k_Patch_between : PySem.W.keepIn K (.ref 270) = true := (Hx.fact B0 39 rfl)
  have a_Patchu_lenu : PySem.W.findIn K (.ref 353) "__len__" = some (some (.ref 280)) := of_decide_eq_true (Hx.fact B1 0 rfl)
  have i_Patchu_lenu : PySem.W.isFn K (.ref 280) = true := (Hx.fact B1 1 rfl)
  obtain ⟨oc11, kV11, dc11, pm11, cd11, ct11, od11, an11, sl11, l_Patchu_lenu, c_Patchu_lenu⟩ := Hx.plain_ok (Hx.at_map E 10 rfl) (Hx.fact B1 2 rfl)
  have k_Patchu_lenu : PySem.W.keepIn K (.ref 280) = true := (Hx.fact B1 3 rfl)
  have a_Patch_addresses : PySem.W.findIn K (.ref 353) "addresses" = some (some (.ref 294)) := of_decide_eq_true (Hx.fact B1 4 rfl)
  have i_Patch_addresses : PySem.W.isFn K (.ref 294) = true := (Hx.fact B1 5 rfl)
  obtain ⟨oc12, kV12, dc12, pm12, cd12, ct12, od12, an12, sl12, l_Patch_addresses, c_Patch_addresses⟩ := Hx.plain_ok (Hx.at_map E 11 rfl) (Hx.fact B1 6 rfl)
  have k_Patch_addresses : PySem.W.keepIn K (.ref 294) = true := (Hx.fact B1 7 rfl)
  have a_Patchu_equ : PySem.W.findIn K (.ref 353) "__eq__" = some (some (.ref 301)) := of_decide_eq_true (Hx.fact B1 8 rfl)
  have i_Patchu_equ : PySem.W.isFn K (.ref 301) = true := (Hx.fact B1 9 rfl)
  obtain ⟨oc13, kV13, dc13, pm13, cd13, ct13, od13, an13, sl13, l_Patchu_equ, c_Patchu_equ⟩ := Hx.plain_ok (Hx.at_map E 12 rfl) (Hx.fact B1 10 rfl)
  have k_Patchu_equ : PySem.W.keepIn K (.ref 301) = true := (Hx.fact B1 11 rfl)
  have a_Patchu_containsu : PySem.W.findIn K (.ref 353) "__contains__" = some (some (.ref 308)) := of_decide_eq_true (Hx.fact B1 12 rfl)
  have i_Patchu_containsu : PySem.W.isFn K (.ref 308) = true := (Hx.fact B1 13 rfl)
  obtain ⟨oc14, kV14, dc14, pm14, cd14, ct14, od14, an14, sl14, l_Patchu_containsu, c_Patchu_containsu⟩ := Hx.plain_ok (Hx.at_map E 13 rfl) (Hx.fact B1 14 rfl)
  have k_Patchu_containsu : PySem.W.keepIn K (.ref 308) = true := (Hx.fact B1 15 rfl)
  have a_Patchu_getitemu : PySem.W.findIn K (.ref 353) "__getitem__" = some (some (.ref 315)) := of_decide_eq_true (Hx.fact B1 16 rfl)
  have i_Patchu_getitemu : PySem.W.isFn K (.ref 315) = true := (Hx.fact B1 17 rfl)
  obtain ⟨oc15, kV15, dc15, pm15, cd15, ct15, od15, an15, sl15, l_Patchu_getitemu, c_Patchu_getitemu⟩ := Hx.plain_ok (Hx.at_map E 14 rfl) (Hx.fact B1 18 rfl)
  have k_Patchu_getitemu : PySem.W.keepIn K (.ref 315) = true := (Hx.fact B1 19 rfl)
  have a__law_pen : PySem.W.nsIn K mainGlobals "_law_pen" = some (some (.ref 472)) := of_decide_eq_true (Hx.fact B1 20 rfl)
  obtain ⟨oc16, kV16, dc16, pm16, cd16, ct16, od16, an16, sl16, l__law_pen, c__law_pen⟩ := Hx.plain_ok (Hx.at_map E 15 rfl) (Hx.fact B1 21 rfl)
  have k__law_pen : PySem.W.keepIn K (.ref 472) = true := (Hx.fact B1 22 rfl)
  have a__law_draw : PySem.W.nsIn K mainGlobals "_law_draw" = some (some (.ref 479)) := of_decide_eq_true (Hx.fact B1 23 rfl)
  obtain ⟨oc17, kV17, dc17, pm17, cd17, ct17, od17, an17, sl17, l__law_draw, c__law_draw⟩ := Hx.plain_ok (Hx.at_map E 16 rfl) (Hx.fact B1 24 rfl)
  have k__law_draw : PySem.W.keepIn K (.ref 479) = true := (Hx.fact B1 25 rfl)
  have a__law_pick : PySem.W.nsIn K mainGlobals "_law_pick" = some (some (.ref 486)) := of_decide_eq_true (Hx.fact B1 26 rfl)
  obtain ⟨oc18, kV18, dc18, pm18, cd18, ct18, od18, an18, sl18, l__law_pick, c__law_pick⟩ := Hx.plain_ok (Hx.at_map E 17 rfl) (Hx.fact B1 27 rfl)
  have k__law_pick : PySem.W.keepIn K (.ref 486) = true := (Hx.fact B1 28 rfl)
  have a__law_word : PySem.W.nsIn K mainGlobals "_law_word" = some (some (.ref 493)) := of_decide_eq_true (Hx.fact B1 29 rfl)
  obtain ⟨oc19, kV19, dc19, pm19, cd19, ct19, od19, an19, sl19, l__law_word, c__law_word⟩ := Hx.plain_ok (Hx.at_map E 18 rfl) (Hx.fact B1 30 rfl)
  have k__law_word : PySem.W.keepIn K (.ref 493) = true := (Hx.fact B1 31 rfl)
  have a__law_heard : PySem.W.nsIn K mainGlobals "_law_heard" = some (some (.ref 500)) := of_decide_eq_true (Hx.fact B1 32 rfl)
  obtain ⟨oc20, kV20, dc20, pm20, cd20, ct20, od20, an20, sl20, l__law_heard, c__law_heard⟩ := Hx.plain_ok (Hx.at_map E 19 rfl) (Hx.fact B1 33 rfl)
  have k__law_heard : PySem.W.keepIn K (.ref 500) = true := (Hx.fact B1 34 rfl)
  have a__law_cells : PySem.W.nsIn K mainGlobals "_law_cells" = some (some (.ref 507)) := of_decide_eq_true (Hx.fact B1 35 rfl)
  obtain ⟨oc21, kV21, dc21, pm21, cd21, ct21, od21, an21, sl21, l__law_cells, c__law_cells⟩ := Hx.plain_ok (Hx.at_map E 20 rfl) (Hx.fact B1 36 rfl)
  have k__law_cells : PySem.W.keepIn K (.ref 507) = true := (Hx.fact B1 37 rfl)
  have a__law_pairs : PySem.W.nsIn K mainGlobals "_law_pairs" = some (some (.ref 514)) := of_decide_eq_true (Hx.fact B1 38 rfl)
  obtain ⟨oc22, kV22, dc22, pm22, cd22, ct22, od22, an22, sl22, l__law_pairs, c__law_pairs⟩ := Hx.plain_ok (Hx.at_map E 21 rfl) (Hx.fact B1 39 rfl)
  have k__law_pairs : PySem.W.keepIn K (.ref 514) = true := (Hx.fact B2 0 rfl)
  have a__law_due : PySem.W.nsIn K mainGlobals "_law_due" = some (some (.ref 519)) := of_decide_eq_true (Hx.fact B2 1 rfl)
  obtain ⟨oc23, kV23, dc23, pm23, cd23, ct23, od23, an23, sl23, l__law_due, c__law_due⟩ := Hx.plain_ok (Hx.at_map E 22 rfl) (Hx.fact B2 2 rfl)
  have k__law_due : PySem.W.keepIn K (.ref 519) = true := (Hx.fact B2 3 rfl)
  have a__law_shown : PySem.W.nsIn K mainGlobals "_law_shown" = some (some (.ref 524)) := of_decide_eq_true (Hx.fact B2 4 rfl)
  obtain ⟨oc24, kV24, dc24, pm24, cd24, ct24, od24, an24, sl24, l__law_shown, c__law_shown⟩ := Hx.plain_ok (Hx.at_map E 23 rfl) (Hx.fact B2 5 rfl)
  have k__law_shown : PySem.W.keepIn K (.ref 524) = true := (Hx.fact B2 6 rfl)
  have a__law_odd : PySem.W.nsIn K mainGlobals "_law_odd" = some (some (.ref 531)) := of_decide_eq_true (Hx.fact B2 7 rfl)
  obtain ⟨oc25, kV25, dc25, pm25, cd25, ct25, od25, an25, sl25, l__law_odd, c__law_odd⟩ := Hx.plain_ok (Hx.at_map E 24 rfl) (Hx.fact B2 8 rfl)
  have k__law_odd : PySem.W.keepIn K (.ref 531) = true := (Hx.fact B2 9 rfl)
  have a__law_looked : PySem.W.nsIn K mainGlobals "_law_looked" = some (some (.ref 538)) := of_decide_eq_true (Hx.fact B2 10 rfl)
  obtain ⟨oc26, kV26, dc26, pm26, cd26, ct26, od26, an26, sl26, l__law_looked, c__law_looked⟩ := Hx.plain_ok (Hx.at_map E 25 rfl) (Hx.fact B2 11 rfl)
  have k__law_looked : PySem.W.keepIn K (.ref 538) = true := (Hx.fact B2 12 rfl)
  have a__law_made_right : PySem.W.nsIn K mainGlobals "_law_made_right" = some (some (.ref 543)) := of_decide_eq_true (Hx.fact B2 13 rfl)
  obtain ⟨oc27, kV27, dc27, pm27, cd27, ct27, od27, an27, sl27, l__law_made_right, c__law_made_right⟩ := Hx.plain_ok (Hx.at_map E 26 rfl) (Hx.fact B2 14 rfl)
  have k__law_made_right : PySem.W.keepIn K (.ref 543) = true := (Hx.fact B2 15 rfl)
  have a__law_of : PySem.W.nsIn K mainGlobals "_law_of" = some (some (.ref 550)) := of_decide_eq_true (Hx.fact B2 16 rfl)
  obtain ⟨oc28, kV28, dc28, pm28, cd28, ct28, od28, an28, sl28, l__law_of, c__law_of⟩ := Hx.plain_ok (Hx.at_map E 27 rfl) (Hx.fact B2 17 rfl)
  have k__law_of : PySem.W.keepIn K (.ref 550) = true := (Hx.fact B2 18 rfl)
  have a__law_of_right : PySem.W.nsIn K mainGlobals "_law_of_right" = some (some (.ref 555)) := of_decide_eq_true (Hx.fact B2 19 rfl)
  obtain ⟨oc29, kV29, dc29, pm29, cd29, ct29, od29, an29, sl29, l__law_of_right, c__law_of_right⟩ := Hx.plain_ok (Hx.at_map E 28 rfl) (Hx.fact B2 20 rfl)
  have k__law_of_right : PySem.W.keepIn K (.ref 555) = true := (Hx.fact B2 21 rfl)
  have a__law_of_none_right : PySem.W.nsIn K mainGlobals "_law_of_none_right" = some (some (.ref 562)) := of_decide_eq_true (Hx.fact B2 22 rfl)
  obtain ⟨oc30, kV30, dc30, pm30, cd30, ct30, od30, an30, sl30, l__law_of_none_right, c__law_of_none_right⟩ := Hx.plain_ok (Hx.at_map E 29 rfl) (Hx.fact B2 23 rfl)
  have k__law_of_none_right : PySem.W.keepIn K (.ref 562) = true := (Hx.fact B2 24 rfl)
  have a__law_between_right : PySem.W.nsIn K mainGlobals "_law_between_right" = some (some (.ref 567)) := of_decide_eq_true (Hx.fact B2 25 rfl)
  obtain ⟨oc31, kV31, dc31, pm31, cd31, ct31, od31, an31, sl31, l__law_between_right, c__law_between_right⟩ := Hx.plain_ok (Hx.at_map E 30 rfl) (Hx.fact B2 26 rfl)
  have k__law_between_right : PySem.W.keepIn K (.ref 567) = true := (Hx.fact B2 27 rfl)
  have a_law : PySem.W.nsIn K mainGlobals "law" = some (some (.ref 574)) := of_decide_eq_true (Hx.fact B2 28 rfl)
  obtain ⟨oc32, kV32, dc32, pm32, cd32, ct32, od32, an32, sl32, l_law, c_law⟩ := Hx.plain_ok (Hx.at_map E 31 rfl) (Hx.fact B2 29 rfl)
  have k_law : PySem.W.keepIn K (.ref 574) = true := (Hx.fact B2 30 rfl)
  have pg_Image : PySem.W.plainGet K 461 Str.empty = true := (Hx.fact B2 31 rfl)
  have hd_Image : PySem.W.hasDictIn K 461 = true := (Hx.fact B2 32 rfl)
  have po_Image : PySem.W.plainOver K 461 = true := (Hx.fact B2 33 rfl)
  have sa_Image : PySem.W.findIn K (.ref 461) "__setattr__" = some (some (.builtin "object.__setattr__")) := of_decide_eq_true (Hx.fact B2 34 rfl)
  have mk_Image : PySem.W.makesIn K 461 = true := (Hx.fact B2 35 rfl)
  have kc_Image : PySem.W.keepIn K (.ref 461) = true := (Hx.fact B2 36 rfl)
  have no_Image_cells : PySem.W.findIn K (.ref 461) "cells" = some none := of_decide_eq_true (Hx.fact B2 37 rfl)
  have pg_Patch : PySem.W.plainGet K 353 Str.empty = true := (Hx.fact B2 38 rfl)
  have hd_Patch : PySem.W.hasDictIn K 353 = true := (Hx.fact B2 39 rfl)
  have po_Patch : PySem.W.plainOver K 353 = true := (Hx.fact B3 0 rfl)
  have sa_Patch : PySem.W.findIn K (.ref 353) "__setattr__" = some (some (.builtin "object.__setattr__")) := of_decide_eq_true (Hx.fact B3 1 rfl)
  have mk_Patch : PySem.W.makesIn K 353 = true := (Hx.fact B3 2 rfl)
  have kc_Patch : PySem.W.keepIn K (.ref 353) = true := (Hx.fact B3 3 rfl)
  have no_Patch_pairs : PySem.W.findIn K (.ref 353) "pairs" = some none := of_decide_eq_true (Hx.fact B3 4 rfl)
  have z_len : PySem.W.nsIn K mainGlobals "len" = some none := of_decide_eq_true (Hx.fact B3 5 rfl)
  have z_abs : PySem.W.nsIn K mainGlobals "abs" = some none := of_decide_eq_true (Hx.fact B3 6 rfl)
  have z_int : PySem.W.nsIn K mainGlobals "int" = some none := of_decide_eq_true (Hx.fact B3 7 rfl)
  have z_list : PySem.W.nsIn K mainGlobals "list" = some none := of_decide_eq_true (Hx.fact B3 8 rfl)
  have z_range : PySem.W.nsIn K mainGlobals "range" = some none := of_decide_eq_true (Hx.fact B3 9 rfl)
  have z_isinstance : PySem.W.nsIn K mainGlobals "isinstance" = some none := of_decide_eq_true (Hx.fact B3 10 rfl)
  have z_bool : PySem.W.nsIn K mainGlobals "bool" = some none := of_decide_eq_true (Hx.fact B3 11 rfl)
  have z_str : PySem.W.nsIn K mainGlobals "str" = some none := of_decide_eq_true (Hx.fact B3 12 rfl)
  have z_tuple : PySem.W.nsIn K mainGlobals "tuple" = some none := of_decide_eq_true (Hx.fact B3 13 rfl)
  have z_all : PySem.W.nsIn K mainGlobals "all" = some none := of_decide_eq_true (Hx.fact B3 14 rfl)
  have z_set : PySem.W.nsIn K mainGlobals "set" = some none := of_decide_eq_true (Hx.fact B3 15 rfl)
  have z_sorted : PySem.W.nsIn K mainGlobals "sorted" = some none := of_decide_eq_true (Hx.fact B3 16 rfl)
  have z_ValueError : PySem.W.nsIn K mainGlobals "ValueError" = some none := of_decide_eq_true (Hx.fact B3 17 rfl)
  have z_repr : PySem.W.nsIn K mainGlobals "repr" = some none := of_decide_eq_true (Hx.fact B3 18 rfl)
  have z_max : PySem.W.nsIn K mainGlobals "max" = some none := of_decide_eq_true (Hx.fact B3 19 rfl)
  have z_min : PySem.W.nsIn K mainGlobals "min" = some none := of_decide_eq_true (Hx.fact B3 20 rfl)
  have z_iter : PySem.W.nsIn K mainGlobals "iter" = some none := of_decide_eq_true (Hx.fact B3 21 rfl)
  have z_enumerate : PySem.W.nsIn K mainGlobals "enumerate" = some none := of_decide_eq_true (Hx.fact B3 22 rfl)
  have z_dict : PySem.W.nsIn K mainGlobals "dict" = some none := of_decide_eq_true (Hx.fact B3 23 rfl)
  have aC_CodeError : PySem.W.nsIn K mainGlobals "CodeError" = some (some (.ref 31)) := of_decide_eq_true (Hx.fact B3 24 rfl)
  have aC_BadCodes : PySem.W.nsIn K mainGlobals "BadCodes" = some (some (.ref 89)) := of_decide_eq_true (Hx.fact B3 25 rfl)
  have aC_BadLayout : PySem.W.nsIn K mainGlobals "BadLayout" = some (some (.ref 110)) := of_decide_eq_true (Hx.fact B3 26 rfl)
  have aC_BadRewrite : PySem.W.nsIn K mainGlobals "BadRewrite" = some (some (.ref 194)) := of_decide_eq_true (Hx.fact B3 27 rfl)
  have aC_BadStep : PySem.W.nsIn K mainGlobals "BadStep" = some (some (.ref 215)) := of_decide_eq_true (Hx.fact B3 28 rfl)
  have aC_BadText : PySem.W.nsIn K mainGlobals "BadText" = some (some (.ref 236)) := of_decide_eq_true (Hx.fact B3 29 rfl)
  have aC_NotRight : PySem.W.nsIn K mainGlobals "NotRight" = some (some (.ref 56)) := of_decide_eq_true (Hx.fact B3 30 rfl)
  have aC_NoWay : PySem.W.nsIn K mainGlobals "NoWay" = some (some (.ref 68)) := of_decide_eq_true (Hx.fact B3 31 rfl)
  have aC_BadInput : PySem.W.nsIn K mainGlobals "BadInput" = some (some (.ref 44)) := of_decide_eq_true (Hx.fact B3 32 rfl)
  have zsuper : PySem.W.nsIn K mainGlobals "super" = some none := of_decide_eq_true (Hx.fact B3 33 rfl)
  have znoop : PySem.W.nsIn K cStatics "thirdparty.any" = some none := of_decide_eq_true (Hx.fact B3 34 rfl)
  have zgcn : PySem.W.specialIn K (.builtin "object.__class__") "__get__" = some (some (.builtin "getset_descriptor.__get__")) := of_decide_eq_true (Hx.fact B3 35 rfl)
  have zgct : PySem.W.takesIn K (.builtin "object.__class__") = some true := of_decide_eq_true (Hx.fact B3 36 rfl)
  have ztop : ((PySem.Challenge.pw_codestitch_k10_patches_made).main.scope.names.lookup ("super" : Str)).isSome = false := by decide +kernel
  have aC_BadAddress : PySem.W.nsIn K mainGlobals "BadAddress" = some (some (.ref 152)) := of_decide_eq_true (Hx.fact B3 37 rfl)
  obtain ⟨nm33, q33, N33, bs33, bm33, sn33, sub33, ab33, col33, dd33, ka33, kb33, kc33, kd33, ke33, lkC_BadAddress, bmC_BadAddress⟩ := Hx.exc_ok (Hx.fact B3 38 rfl)
  have saC_BadAddress : PySem.W.findIn K (.ref 152) "__setattr__" = some (some (.builtin "object.__setattr__")) := of_decide_eq_true (Hx.fact B3 39 rfl)
  have exC_BadAddress : PySem.W.subIn K (.ref 152) (.type "BaseException") = some true := of_decide_eq_true (Hx.fact B4 0 rfl)
  have tyC_BadAddress : PySem.W.typeIn K (.ref 152) = some (.type "type") := of_decide_eq_true (Hx.fact B4 1 rfl)
  have kpC_BadAddress : PySem.W.keepIn K (.ref 152) = true := (Hx.fact B4 2 rfl)
  have inC_BadAddress : PySem.W.findIn K (.ref 152) "__init__" = some (some (.ref 149)) := of_decide_eq_true (Hx.fact B4 3 rfl)
  have tiC_BadAddress : PySem.W.typeIn K (.ref 149) = some (.type "function") := of_decide_eq_true (Hx.fact B4 4 rfl)
  have noC_BadAddress_at : PySem.W.findIn K (.ref 152) "at" = some none := of_decide_eq_true (Hx.fact B4 5 rfl)
  have gaC_BadAddress : PySem.W.findIn K (.ref 152) "__getattribute__" = some (some (.builtin "BaseException.__getattribute__")) := of_decide_eq_true (Hx.fact B4 6 rfl)
  have ggC_BadAddress : PySem.W.findIn K (.ref 152) "__getattr__" = some none := of_decide_eq_true (Hx.fact B4 7 rfl)
  have hdC_BadAddress : PySem.W.hasDictIn K 152 = true := (Hx.fact B4 8 rfl)
  have gcC_BadAddress : PySem.W.findIn K (.ref 152) "__class__" = some (some (.builtin "object.__class__")) := of_decide_eq_true (Hx.fact B4 9 rfl)
  have moC_BadAddress : PySem.W.mroIn K 152 (.type "object") = some true := of_decide_eq_true (Hx.fact B4 10 rfl)
  obtain ⟨oc33, kV33, dc33, pm33, ct33, od33, an33, sl33, l_BadAddressu_initu, c_BadAddressu_initu⟩ := Hx.sup_ok (Hx.at_map E 32 rfl) (Hx.fact B4 11 rfl)
  have k_BadAddressu_initu : PySem.W.keepIn K (.ref 149) = true := (Hx.fact B4 12 rfl)
  obtain ⟨ccl33, ccd33, vs33, ccs33, file33, tf33, cl_BadAddressu_initu, cf_BadAddressu_initu, fe_BadAddressu_initu⟩ := Hx.fil_ok (Hx.fact B4 13 rfl)
  obtain ⟨ocl33, ocd33, ocs33, ce_BadAddressu_initu⟩ := Hx.cel_ok (Hx.fact B4 14 rfl)
  have mrC_BadAddress : PySem.W.mroIn K 152 (.ref 152) = some true := of_decide_eq_true (Hx.fact B4 15 rfl)
  have suC_BadAddress : PySem.W.ks_superIn K 152 152 "__init__" = some (some (.builtin "ValueError.__init__")) := of_decide_eq_true (Hx.fact B4 16 rfl)
  have svC_BadAddress : PySem.W.subIn K (.ref 152) (.type "ValueError") = some true := of_decide_eq_true (Hx.fact B4 17 rfl)
  have aC_BadByte : PySem.W.nsIn K mainGlobals "BadByte" = some (some (.ref 131)) := of_decide_eq_true (Hx.fact B4 18 rfl)
  obtain ⟨nm34, q34, N34, bs34, bm34, sn34, sub34, ab34, col34, dd34, ka34, kb34, kc34, kd34, ke34, lkC_BadByte, bmC_BadByte⟩ := Hx.exc_ok (Hx.fact B4 19 rfl)
  have saC_BadByte : PySem.W.findIn K (.ref 131) "__setattr__" = some (some (.builtin "object.__setattr__")) := of_decide_eq_true (Hx.fact B4 20 rfl)
  have exC_BadByte : PySem.W.subIn K (.ref 131) (.type "BaseException") = some true := of_decide_eq_true (Hx.fact B4 21 rfl)
  have tyC_BadByte : PySem.W.typeIn K (.ref 131) = some (.type "type") := of_decide_eq_true (Hx.fact B4 22 rfl)
  have kpC_BadByte : PySem.W.keepIn K (.ref 131) = true := (Hx.fact B4 23 rfl)
  have inC_BadByte : PySem.W.findIn K (.ref 131) "__init__" = some (some (.ref 128)) := of_decide_eq_true (Hx.fact B4 24 rfl)
  have tiC_BadByte : PySem.W.typeIn K (.ref 128) = some (.type "function") := of_decide_eq_true (Hx.fact B4 25 rfl)
  have noC_BadByte_at : PySem.W.findIn K (.ref 131) "at" = some none := of_decide_eq_true (Hx.fact B4 26 rfl)
  have gaC_BadByte : PySem.W.findIn K (.ref 131) "__getattribute__" = some (some (.builtin "BaseException.__getattribute__")) := of_decide_eq_true (Hx.fact B4 27 rfl)
  have ggC_BadByte : PySem.W.findIn K (.ref 131) "__getattr__" = some none := of_decide_eq_true (Hx.fact B4 28 rfl)
  have hdC_BadByte : PySem.W.hasDictIn K 131 = true := (Hx.fact B4 29 rfl)
  have gcC_BadByte : PySem.W.findIn K (.ref 131) "__class__" = some (some (.builtin "object.__class__")) := of_decide_eq_true (Hx.fact B4 30 rfl)
  have moC_BadByte : PySem.W.mroIn K 131 (.type "object") = some true := of_decide_eq_true (Hx.fact B4 31 rfl)
  obtain ⟨oc34, kV34, dc34, pm34, ct34, od34, an34, sl34, l_BadByteu_initu, c_BadByteu_initu⟩ := Hx.sup_ok (Hx.at_map E 33 rfl) (Hx.fact B4 32 rfl)
  have k_BadByteu_initu : PySem.W.keepIn K (.ref 128) = true := (Hx.fact B4 33 rfl)
  obtain ⟨ccl34, ccd34, vs34, ccs34, file34, tf34, cl_BadByteu_initu, cf_BadByteu_initu, fe_BadByteu_initu⟩ := Hx.fil_ok (Hx.fact B4 34 rfl)
  obtain ⟨ocl34, ocd34, ocs34, ce_BadByteu_initu⟩ := Hx.cel_ok (Hx.fact B4 35 rfl)
  have mrC_BadByte : PySem.W.mroIn K 131 (.ref 131) = some true := of_decide_eq_true (Hx.fact B4 36 rfl)
  have suC_BadByte : PySem.W.ks_superIn K 131 131 "__init__" = some (some (.builtin "ValueError.__init__")) := of_decide_eq_true (Hx.fact B4 37 rfl)
  have svC_BadByte : PySem.W.subIn K (.ref 131) (.type "ValueError") = some true := of_decide_eq_true (Hx.fact B4 38 rfl)
  have aC_UnlikeLengths : PySem.W.nsIn K mainGlobals "UnlikeLengths" = some (some (.ref 173)) := of_decide_eq_true (Hx.fact B4 39 rfl)
  obtain ⟨nm35, q35, N35, bs35, bm35, sn35, sub35, ab35, col35, dd35, ka35, kb35, kc35, kd35, ke35, lkC_UnlikeLengths, bmC_UnlikeLengths⟩ := Hx.exc_ok (Hx.fact B5 0 rfl)
  have saC_UnlikeLengths : PySem.W.findIn K (.ref 173) "__setattr__" = some (some (.builtin "object.__setattr__")) := of_decide_eq_true (Hx.fact B5 1 rfl)
  have exC_UnlikeLengths : PySem.W.subIn K (.ref 173) (.type "BaseException") = some true := of_decide_eq_true (Hx.fact B5 2 rfl)
  have tyC_UnlikeLengths : PySem.W.typeIn K (.ref 173) = some (.type "type") := of_decide_eq_true (Hx.fact B5 3 rfl)
  have kpC_UnlikeLengths : PySem.W.keepIn K (.ref 173) = true := (Hx.fact B5 4 rfl)
  have inC_UnlikeLengths : PySem.W.findIn K (.ref 173) "__init__" = some (some (.ref 170)) := of_decide_eq_true (Hx.fact B5 5 rfl)
  have tiC_UnlikeLengths : PySem.W.typeIn K (.ref 170) = some (.type "function") := of_decide_eq_true (Hx.fact B5 6 rfl)
  have noC_UnlikeLengths_one : PySem.W.findIn K (.ref 173) "one" = some none := of_decide_eq_true (Hx.fact B5 7 rfl)
  have noC_UnlikeLengths_other : PySem.W.findIn K (.ref 173) "other" = some none := of_decide_eq_true (Hx.fact B5 8 rfl)
  have gaC_UnlikeLengths : PySem.W.findIn K (.ref 173) "__getattribute__" = some (some (.builtin "BaseException.__getattribute__")) := of_decide_eq_true (Hx.fact B5 9 rfl)
  have ggC_UnlikeLengths : PySem.W.findIn K (.ref 173) "__getattr__" = some none := of_decide_eq_true (Hx.fact B5 10 rfl)
  have hdC_UnlikeLengths : PySem.W.hasDictIn K 173 = true := (Hx.fact B5 11 rfl)
  have gcC_UnlikeLengths : PySem.W.findIn K (.ref 173) "__class__" = some (some (.builtin "object.__class__")) := of_decide_eq_true (Hx.fact B5 12 rfl)
  have moC_UnlikeLengths : PySem.W.mroIn K 173 (.type "object") = some true := of_decide_eq_true (Hx.fact B5 13 rfl)
  obtain ⟨oc35, kV35, dc35, pm35, ct35, od35, an35, sl35, l_UnlikeLengthsu_initu, c_UnlikeLengthsu_initu⟩ := Hx.sup_ok (Hx.at_map E 34 rfl) (Hx.fact B5 14 rfl)
  have k_UnlikeLengthsu_initu : PySem.W.keepIn K (.ref 170) = true := (Hx.fact B5 15 rfl)
  obtain ⟨ccl35, ccd35, vs35, ccs35, file35, tf35, cl_UnlikeLengthsu_initu, cf_UnlikeLengthsu_initu, fe_UnlikeLengthsu_initu⟩ := Hx.fil_ok (Hx.fact B5 16 rfl)
  obtain ⟨ocl35, ocd35, ocs35, ce_UnlikeLengthsu_initu⟩ := Hx.cel_ok (Hx.fact B5 17 rfl)
  have mrC_UnlikeLengths : PySem.W.mroIn K 173 (.ref 173) = some true := of_decide_eq_true (Hx.fact B5 18 rfl)
  have suC_UnlikeLengths : PySem.W.ks_superIn K 173 173 "__init__" = some (some (.builtin "ValueError.__init__")) := of_decide_eq_true (Hx.fact B5 19 rfl)
  have svC_UnlikeLengths : PySem.W.subIn K (.ref 173) (.type "ValueError") = some true := of_decide_eq_true (Hx.fact B5 20 rfl)
  have kit_BadAddress_BadAddress : PySem.W.kitOne K (.ref 152) (.ref 152) = some true := of_decide_eq_true (Hx.fact B5 21 rfl)
  have kit_BadAddress_BadByte : PySem.W.kitOne K (.ref 152) (.ref 131) = some false := of_decide_eq_true (Hx.fact B5 22 rfl)
  have kit_BadAddress_UnlikeLengths : PySem.W.kitOne K (.ref 152) (.ref 173) = some false := of_decide_eq_true (Hx.fact B5 23 rfl)
  have kit_BadAddress_BadCodes : PySem.W.kitOne K (.ref 152) (.ref 89) = some false := of_decide_eq_true (Hx.fact B5 24 rfl)
  have kit_BadAddress_BadLayout : PySem.W.kitOne K (.ref 152) (.ref 110) = some false := of_decide_eq_true (Hx.fact B5 25 rfl)
  have kit_BadAddress_BadRewrite : PySem.W.kitOne K (.ref 152) (.ref 194) = some false := of_decide_eq_true (Hx.fact B5 26 rfl)
  have kit_BadAddress_BadStep : PySem.W.kitOne K (.ref 152) (.ref 215) = some false := of_decide_eq_true (Hx.fact B5 27 rfl)
  have kit_BadAddress_BadText : PySem.W.kitOne K (.ref 152) (.ref 236) = some false := of_decide_eq_true (Hx.fact B5 28 rfl)
  have kit_BadAddress_NotRight : PySem.W.kitOne K (.ref 152) (.ref 56) = some false := of_decide_eq_true (Hx.fact B5 29 rfl)
  have kit_BadAddress_NoWay : PySem.W.kitOne K (.ref 152) (.ref 68) = some false := of_decide_eq_true (Hx.fact B5 30 rfl)
  have kit_BadAddress_BadInput : PySem.W.kitOne K (.ref 152) (.ref 44) = some true := of_decide_eq_true (Hx.fact B5 31 rfl)
  have kit_BadAddress_ValueError : PySem.W.kitOne K (.ref 152) (.type "ValueError") = some true := of_decide_eq_true (Hx.fact B5 32 rfl)
  have kit_BadByte_BadAddress : PySem.W.kitOne K (.ref 131) (.ref 152) = some false := of_decide_eq_true (Hx.fact B5 33 rfl)
  have kit_BadByte_BadByte : PySem.W.kitOne K (.ref 131) (.ref 131) = some true := of_decide_eq_true (Hx.fact B5 34 rfl)
  have kit_BadByte_UnlikeLengths : PySem.W.kitOne K (.ref 131) (.ref 173) = some false := of_decide_eq_true (Hx.fact B5 35 rfl)
  have kit_BadByte_BadCodes : PySem.W.kitOne K (.ref 131) (.ref 89) = some false := of_decide_eq_true (Hx.fact B5 36 rfl)
  have kit_BadByte_BadLayout : PySem.W.kitOne K (.ref 131) (.ref 110) = some false := of_decide_eq_true (Hx.fact B5 37 rfl)
  have kit_BadByte_BadRewrite : PySem.W.kitOne K (.ref 131) (.ref 194) = some false := of_decide_eq_true (Hx.fact B5 38 rfl)
  have kit_BadByte_BadStep : PySem.W.kitOne K (.ref 131) (.ref 215) = some false := of_decide_eq_true (Hx.fact B5 39 rfl)
  have kit_BadByte_BadText : PySem.W.kitOne K (.ref 131) (.ref 236) = some false := of_decide_eq_true (Hx.fact B6 0 rfl)
  have kit_BadByte_NotRight : PySem.W.kitOne K (.ref 131) (.ref 56) = some false := of_decide_eq_true (Hx.fact B6 1 rfl)
  have kit_BadByte_NoWay : PySem.W.kitOne K (.ref 131) (.ref 68) = some false := of_decide_eq_true (Hx.fact B6 2 rfl)
  have kit_BadByte_BadInput : PySem.W.kitOne K (.ref 131) (.ref 44) = some true := of_decide_eq_true (Hx.fact B6 3 rfl)
  have kit_BadByte_ValueError : PySem.W.kitOne K (.ref 131) (.type "ValueError") = some true := of_decide_eq_true (Hx.fact B6 4 rfl)
  have kit_UnlikeLengths_BadAddress : PySem.W.kitOne K (.ref 173) (.ref 152) = some false := of_decide_eq_true (Hx.fact B6 5 rfl)
  have kit_UnlikeLengths_BadByte : PySem.W.kitOne K (.ref 173) (.ref 131) = some false := of_decide_eq_true (Hx.fact B6 6 rfl)
  have kit_UnlikeLengths_UnlikeLengths : PySem.W.kitOne K (.ref 173) (.ref 173) = some true := of_decide_eq_true (Hx.fact B6 7 rfl)
  have kit_UnlikeLengths_BadCodes : PySem.W.kitOne K (.ref 173) (.ref 89) = some false := of_decide_eq_true (Hx.fact B6 8 rfl)
  have kit_UnlikeLengths_BadLayout : PySem.W.kitOne K (.ref 173) (.ref 110) = some false := of_decide_eq_true (Hx.fact B6 9 rfl)
  have kit_UnlikeLengths_BadRewrite : PySem.W.kitOne K (.ref 173) (.ref 194) = some false := of_decide_eq_true (Hx.fact B6 10 rfl)
  have kit_UnlikeLengths_BadStep : PySem.W.kitOne K (.ref 173) (.ref 215) = some false := of_decide_eq_true (Hx.fact B6 11 rfl)
  have kit_UnlikeLengths_BadText : PySem.W.kitOne K (.ref 173) (.ref 236) = some false := of_decide_eq_true (Hx.fact B6 12 rfl)
  have kit_UnlikeLengths_NotRight : PySem.W.kitOne K (.ref 173) (.ref 56) = some false := of_decide_eq_true (Hx.fact B6 13 rfl)
  have kit_UnlikeLengths_NoWay : PySem.W.kitOne K (.ref 173) (.ref 68) = some false := of_decide_eq_true (Hx.fact B6 14 rfl)
  have kit_UnlikeLengths_BadInput : PySem.W.kitOne K (.ref 173) (.ref 44) = some true := of_decide_eq_true (Hx.fact B6 15 rfl)
  have kit_UnlikeLengths_ValueError : PySem.W.kitOne K (.ref 173) (.type "ValueError") = some true := of_decide_eq_true (Hx.fact B6 16 rfl)
  have exm_BadAddress_CodeError : PySem.W.exmOne K (.ref 152) (.ref 31) = some true := of_decide_eq_true (Hx.fact B6 17 rfl)
  have exm_BadByte_CodeError : PySem.W.exmOne K (.ref 131) (.ref 31) = some true := of_decide_eq_true (Hx.fact B6 18 rfl)
  have exm_UnlikeLengths_CodeError : PySem.W.exmOne K (.ref 173) (.ref 31) = some true := of_decide_eq_true (Hx.fact B6 19 rfl)
  have icc_Image : PySem.W.findIn K (.ref 461) "__class__" = some (some (.builtin "object.__class__")) := of_decide_eq_true (Hx.fact B6 20 rfl)
  have icm_Image : PySem.W.mroIn K 461 (.type "object") = some true := of_decide_eq_true (Hx.fact B6 21 rfl)
  have kit_Image_Image : PySem.W.kitOne K (.ref 461) (.ref 461) = some true := of_decide_eq_true (Hx.fact B6 22 rfl)
  have icc_Patch : PySem.W.findIn K (.ref 353) "__class__" = some (some (.builtin "object.__class__")) := of_decide_eq_true (Hx.fact B6 23 rfl)
  have icm_Patch : PySem.W.mroIn K 353 (.type "object") = some true := of_decide_eq_true (Hx.fact B6 24 rfl)
  have kit_Patch_Patch : PySem.W.kitOne K (.ref 353) (.ref 353) = some true := of_decide_eq_true (Hx.fact B6 25 rfl)
  have kit_list_Image : PySem.W.kitOne K (.type "list") (.ref 461) = some false := of_decide_eq_true (Hx.fact B6 26 rfl)
  have kit_tuple_Image : PySem.W.kitOne K (.type "tuple") (.ref 461) = some false := of_decide_eq_true (Hx.fact B6 27 rfl)
  have kit_NoneType_Patch : PySem.W.kitOne K (.type "NoneType") (.ref 353) = some false := of_decide_eq_true (Hx.fact B6 28 rfl)
  have kit_bool_Patch : PySem.W.kitOne K (.type "bool") (.ref 353) = some false := of_decide_eq_true (Hx.fact B6 29 rfl)
  have kit_int_Patch : PySem.W.kitOne K (.type "int") (.ref 353) = some false := of_decide_eq_true (Hx.fact B6 30 rfl)
  have kit_str_Patch : PySem.W.kitOne K (.type "str") (.ref 353) = some false := of_decide_eq_true (Hx.fact B6 31 rfl)
  have kit_dict_Patch : PySem.W.kitOne K (.type "dict") (.ref 353) = some false := of_decide_eq_true (Hx.fact B6 32 rfl)
  have kit_list_Patch : PySem.W.kitOne K (.type "list") (.ref 353) = some false := of_decide_eq_true (Hx.fact B6 33 rfl)
  have kit_tuple_Patch : PySem.W.kitOne K (.type "tuple") (.ref 353) = some false := of_decide_eq_true (Hx.fact B6 34 rfl)
  have nf_Patch_Patch : PySem.W.notFirst K 353 (.ref 353) = true := (Hx.fact B6 35 rfl)
  have nf_NoneType_Patch : PySem.W.notFirst K 353 (.type "NoneType") = true := (Hx.fact B6 36 rfl)
  have nf_bool_Patch : PySem.W.notFirst K 353 (.type "bool") = true := (Hx.fact B6 37 rfl)
  have nf_int_Patch : PySem.W.notFirst K 353 (.type "int") = true := (Hx.fact B6 38 rfl)
  have nf_str_Patch : PySem.W.notFirst K 353 (.type "str") = true := (Hx.fact B6 39 rfl)
  have nf_dict_Patch : PySem.W.notFirst K 353 (.type "dict") = true := (Hx.fact B7 0 rfl)
  have nf_list_Patch : PySem.W.notFirst K 353 (.type "list") = true := (Hx.fact B7 1 rfl)
  have nf_tuple_Patch : PySem.W.notFirst K 353 (.type "tuple") = true := (Hx.fact B7 2 rfl)
  have spi_Imageu_getitemu : PySem.W.fnIn K 418 = true := (Hx.fact B7 3 rfl)
  have spi_Patchu_getitemu : PySem.W.fnIn K 315 = true := (Hx.fact B7 4 rfl)
  have rd_Patch : PySem.W.readsIn K 353 (.type "type") = true := (Hx.fact B7 5 rfl)
  have gat_Patch : PySem.W.specialIn K (.ref 353) "__getattribute__" = some (some (.builtin "type.__getattribute__")) := of_decide_eq_true (Hx.fact B7 6 rfl)
  have lam__law_looked : Vc.lamB K 538 537 533 = true := (Hx.fact B7 7 rfl)
  have lam__law_made_right : Vc.lamB K 543 542 540 = true := (Hx.fact B7 8 rfl)
  have lam__law_of_right : Vc.lamB K 555 554 552 = true := (Hx.fact B7 9 rfl)
  have lam__law_of_none_right : Vc.lamB K 562 561 557 = true := (Hx.fact B7 10 rfl)
  have lam__law_between_right : Vc.lamB K 567 566 564 = true := (Hx.fact B7 11 rfl)
  have lne__law_looked__law_made_right : (533 : Addr) ≠ 540 := by decide +kernel
  have lne__law_looked__law_of_right : (533 : Addr) ≠ 552 := by decide +kernel
  have lne__law_looked__law_of_none_right : (533 : Addr) ≠ 557 := by decide +kernel
  have lne__law_looked__law_between_right : (533 : Addr) ≠ 564 := by decide +kernel
  have lne__law_made_right__law_of_right : (540 : Addr) ≠ 552 := by decide +kernel
  have lne__law_made_right__law_of_none_right : (540 : Addr) ≠ 557 := by decide +kernel
  have lne__law_made_right__law_between_right : (540 : Addr) ≠ 564 := by decide +kernel
  have lne__law_of_right__law_of_none_right : (552 : Addr) ≠ 557 := by decide +kernel
  have lne__law_of_right__law_between_right : (552 : Addr) ≠ 564 := by decide +kernel
  have lne__law_of_none_right__law_between_right : (557 : Addr) ≠ 564 := by decide +kernel
  have rec__law_looked : ((recsOf qv).any fun e => e.name == ("_law_looked" : Str)) = true := by kernel_rfl
  have rec__law_made_right : ((recsOf qv).any fun e => e.name == ("_law_made_right" : Str)) = true := by kernel_rfl
  have rec__law_of_right : ((recsOf qv).any fun e => e.name == ("_law_of_right" : Str)) = true := by kernel_rfl
  have rec__law_of_none_right : ((recsOf qv).any fun e => e.name == ("_law_of_none_right" : Str)) = true := by kernel_rfl
  have rec__law_between_right : ((recsOf qv).any fun e => e.name == ("_law_between_right" : Str)) = true := by kernel_rfl
  refine ⟨fun p hp => ?_, ?_⟩
  · have hp : p = (537, 533) ∨ p = (542, 540) ∨ p = (554, 552) ∨ p = (561, 557) ∨ p = (566, 564) := by simpa [csN] using hp
    rcases hp with rfl | rfl | rfl | rfl | rfl
    · exact ⟨_, _, rec__law_looked, PySem.W.mg_of X G a__law_looked, lam__law_looked⟩
    · exact ⟨_, _, rec__law_made_right, PySem.W.mg_of X G a__law_made_right, lam__law_made_right⟩
    · exact ⟨_, _, rec__law_of_right, PySem.W.mg_of X G a__law_of_right, lam__law_of_right⟩
    · exact ⟨_, _, rec__law_of_none_right, PySem.W.mg_of X G a__law_of_none_right, lam__law_of_none_right⟩
    · exact ⟨_, _, rec__law_between_right, PySem.W.mg_of X G a__law_between_right, lam__law_between_right⟩
  exact all_mk X G hfa aC_Image aC_Patch a_is_byte l_is_byte c_is_byte k_is_byte a_check_bytes l_check_bytes c_check_bytes k_check_bytes a_span_of l_span_of c_span_of k_span_of a_Imageu_initu i_Imageu_initu l_Imageu_initu c_Imageu_initu k_Imageu_initu a_Imageu_lenu i_Imageu_lenu l_Imageu_lenu c_Imageu_lenu k_Imageu_lenu a_Imageu_iteru i_Imageu_iteru l_Imageu_iteru c_Imageu_iteru k_Imageu_iteru a_Imageu_getitemu i_Imageu_getitemu l_Imageu_getitemu c_Imageu_getitemu k_Imageu_getitemu a_Patchu_initu i_Patchu_initu l_Patchu_initu c_Patchu_initu k_Patchu_initu sma_Patch_of smr_Patch_of fi_Patch_of l_Patch_of c_Patch_of k_Patch_of sma_Patch_between smr_Patch_between l_Patch_between c_Patch_between k_Patch_between a_Patchu_lenu i_Patchu_lenu l_Patchu_lenu c_Patchu_lenu k_Patchu_lenu a_Patch_addresses i_Patch_addresses l_Patch_addresses c_Patch_addresses k_Patch_addresses a_Patchu_equ i_Patchu_equ l_Patchu_equ c_Patchu_equ k_Patchu_equ a_Patchu_containsu i_Patchu_containsu l_Patchu_containsu c_Patchu_containsu k_Patchu_containsu a_Patchu_getitemu i_Patchu_getitemu l_Patchu_getitemu c_Patchu_getitemu k_Patchu_getitemu a__law_pen l__law_pen c__law_pen k__law_pen a__law_draw l__law_draw c__law_draw k__law_draw a__law_pick l__law_pick c__law_pick k__law_pick a__law_word l__law_word c__law_word k__law_word a__law_heard l__law_heard c__law_heard k__law_heard a__law_cells l__law_cells c__law_cells k__law_cells a__law_pairs l__law_pairs c__law_pairs k__law_pairs a__law_due l__law_due c__law_due k__law_due a__law_shown l__law_shown c__law_shown k__law_shown a__law_odd l__law_odd c__law_odd k__law_odd a__law_looked l__law_looked c__law_looked k__law_looked a__law_made_right l__law_made_right c__law_made_right k__law_made_right a__law_of l__law_of c__law_of k__law_of a__law_of_right l__law_of_right c__law_of_right k__law_of_right a__law_of_none_right l__law_of_none_right c__law_of_none_right k__law_of_none_right a__law_between_right l__law_between_right c__law_between_right k__law_between_right a_law l_law c_law k_law pg_Image hd_Image po_Image sa_Image mk_Image kc_Image no_Image_cells pg_Patch hd_Patch po_Patch sa_Patch mk_Patch kc_Patch no_Patch_pairs z_len z_abs z_int z_list z_range z_isinstance z_bool z_str z_tuple z_all z_set z_sorted z_ValueError z_repr z_max z_min z_iter z_enumerate z_dict aC_CodeError aC_BadCodes aC_BadLayout aC_BadRewrite aC_BadStep aC_BadText aC_NotRight aC_NoWay aC_BadInput zsuper znoop zgcn zgct ztop aC_BadAddress lkC_BadAddress bmC_BadAddress saC_BadAddress exC_BadAddress tyC_BadAddress kpC_BadAddress inC_BadAddress tiC_BadAddress noC_BadAddress_at gaC_BadAddress ggC_BadAddress hdC_BadAddress gcC_BadAddress moC_BadAddress l_BadAddressu_initu c_BadAddressu_initu k_BadAddressu_initu cl_BadAddressu_initu cf_BadAddressu_initu fe_BadAddressu_initu ce_BadAddressu_initu mrC_BadAddress suC_BadAddress svC_BadAddress aC_BadByte lkC_BadByte bmC_BadByte saC_BadByte exC_BadByte tyC_BadByte kpC_BadByte inC_BadByte tiC_BadByte noC_BadByte_at gaC_BadByte ggC_BadByte hdC_BadByte gcC_BadByte moC_BadByte l_BadByteu_initu c_BadByteu_initu k_BadByteu_initu cl_BadByteu_initu cf_BadByteu_initu fe_BadByteu_initu ce_BadByteu_initu mrC_BadByte suC_BadByte svC_BadByte aC_UnlikeLengths lkC_UnlikeLengths bmC_UnlikeLengths saC_UnlikeLengths exC_UnlikeLengths tyC_UnlikeLengths kpC_UnlikeLengths inC_UnlikeLengths tiC_UnlikeLengths noC_UnlikeLengths_one noC_UnlikeLengths_other gaC_UnlikeLengths ggC_UnlikeLengths hdC_UnlikeLengths gcC_UnlikeLengths moC_UnlikeLengths l_UnlikeLengthsu_initu c_UnlikeLengthsu_initu k_UnlikeLengthsu_initu cl_UnlikeLengthsu_initu cf_UnlikeLengthsu_initu fe_UnlikeLengthsu_initu ce_UnlikeLengthsu_initu mrC_UnlikeLengths suC_UnlikeLengths svC_UnlikeLengths kit_BadAddress_BadAddress kit_BadAddress_BadByte kit_BadAddress_UnlikeLengths kit_BadAddress_BadCodes kit_BadAddress_BadLayout kit_BadAddress_BadRewrite kit_BadAddress_BadStep kit_BadAddress_BadText kit_BadAddress_NotRight kit_BadAddress_NoWay kit_BadAddress_BadInput kit_BadAddress_ValueError kit_BadByte_BadAddress kit_BadByte_BadByte kit_BadByte_UnlikeLengths kit_BadByte_BadCodes kit_BadByte_BadLayout kit_BadByte_BadRewrite kit_BadByte_BadStep kit_BadByte_BadText kit_BadByte_NotRight kit_BadByte_NoWay kit_BadByte_BadInput kit_BadByte_ValueError kit_UnlikeLengths_BadAddress kit_UnlikeLengths_BadByte kit_UnlikeLengths_UnlikeLengths kit_UnlikeLengths_BadCodes kit_UnlikeLengths_BadLayout kit_UnlikeLengths_BadRewrite kit_UnlikeLengths_BadStep kit_UnlikeLengths_BadText kit_UnlikeLengths_NotRight kit_UnlikeLengths_NoWay kit_UnlikeLengths_BadInput kit_UnlikeLengths_ValueError exm_BadAddress_CodeError exm_BadByte_CodeError exm_UnlikeLengths_CodeError icc_Image icm_Image kit_Image_Image icc_Patch icm_Patch kit_Patch_Patch kit_list_Image kit_tuple_Image kit_NoneType_Patch kit_bool_Patch kit_int_Patch kit_str_Patch kit_dict_Patch kit_list_Patch kit_tuple_Patch nf_Patch_Patch nf_NoneType_Patch nf_bool_Patch nf_int_Patch nf_str_Patch nf_dict_Patch nf_list_Patch nf_tuple_Patch spi_Imageu_getitemu spi_Patchu_getitemu rd_Patch gat_Patch lam__law_looked lam__law_made_right lam__law_of_right lam__law_of_none_right lam__law_between_right lne__law_looked__law_made_right lne__law_looked__law_of_right lne__law_looked__law_of_none_right lne__law_looked__law_between_right lne__law_made_right__law_of_right lne__law_made_right__law_of_none_right lne__law_made_right__law_between_right lne__law_of_right__law_of_none_right lne__law_of_right__law_between_right lne__law_of_none_right__law_between_right

end My
theorem PySem.Challenge.cw_codestitch_k10_patches_made_holds : PySem.Challenge.rw_codestitch_k10_patches_made.Holds := by
  exact My.top_of (sp := fun K => My.spLaw K My.TbN) My.all_mk2 (fun _ _ a ns _ _ hT hS hl q => ⟨a, ns, rfl, hS, hl, Vc.tabs0 hT (by simp [My.TbN, My.csN]), q⟩)
