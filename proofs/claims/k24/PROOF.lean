import PyProof.Rows.All
import Wide.All
import OpenK.AllK
import Wide.FinOn
import HandS.ForMost
import HandS.Wide
import HandS.IsInst
import HandS.Evl
import HandS.Walk
import HandS.Strs
import HandS.Conv
import HandS.ClsMeth
import HandS.DictComp
import KE.KSuper
import KE.KExcSuper
import KE.KExcIs
import KE.RegKSuper
import KE.RegKIsAll
import KE.RegKTryMore
import HandS.ForExc
import HandS.ExcInit
import HandS.ExcIs
import HandS.ExcField
import HandS.Star
import HandS.Property
import HandS.HotCalls
import HandS.Codes
import HandS.Defaults
import HandS.MakeKw
import HandS.More
import HandS.FStr
import HandS.Finally
import HandS.Style
import PyProof.P3Eq
import HandS.Star
import HandS.WordsExc
import HandS.RaiseMore
import HandS.TryOnly
import HandS.Property
import PyProof.InstNe
import HandS.ExcInitHot
import KE.GoesMore
import PyProof.EnumMake
import KE.KStar
import PyProof.ReprRoads
import PyProof.ReprBulk
import HandS.IterNext
import HandS.IterVal
import HandS.Lambda
import HandS.TupAny
import KE.OsRunLaw
import HandS.Ends
import HandS.Iter
import HandS.OwnIter
import PyProof.FitsInt
import PyProof.Rows.ReprOcc
import PyProof.Rows.StrJoinMade
import PyProof.StrLawsRepr
import HandS.EndTab
import HandS.EndBits
import HandS.ExcOwn
import HandS.CallSlots
import KE.KDictList
import PyProof.LongRange
import HandS.Deep
import HandS.OwnEq
import HandS.Small
import KE.KOpsOwn
import HandS.OwnIter
import HandS.MakeKwOnly
import HandS.Head0
import HandS.Head1
import HandS.Head2
import HandS.HeadEnd
import HandS.HeadHook1
import HandS.HeadHook2
import HandS.ExcInit
import HandS.Defaults
import KE.KSuper
import PySem.Challenge.RW_codestitch_k24_bytes_behind_steps
import HandS.SetFor
import PyProof.StrBlock2
import HandS.EndOwn
import KE.KNestM
import HandS.Base
import HandS.Call
set_option Elab.async false
set_option linter.all false
set_option maxRecDepth 100000
set_option maxHeartbeats 4000000
open PySem PySem.Spec PyProof.Rows L2
/-! Vc: edges between abstract heaps, and readings answered step by step (my own layer over HandS). -/
namespace Vc
open PySem PySem.Spec PyProof.Rows L2

/-! ### edges: H' comes from H; at most the objects of S were changed -/
structure Ed (S : List Addr) (H H' : Hp) : Prop where
  keep : ∀ a o, a ∉ S → H a = some o → H' a = some o
  tup : ∀ a xs, H a = some (.tup xs) → H' a = some (.tup xs)
  frz : ∀ a o u, H a = some (.frz o u) → H' a = some (.frz o u)
  dom : ∀ a, H' a = none → H a = none
theorem Ed.refl {S : List Addr} {H : Hp} : Ed S H H := ⟨fun _ _ _ h => h, fun _ _ h => h, fun _ _ _ h => h, fun _ h => h⟩
theorem Ed.new {S : List Addr} {H : Hp} {p : Addr} {o : HO} (h : H p = none) : Ed S H (upd H p o) where
  keep := fun a u _ e => by rw [upd_ne (ne_of_none e h)]; exact e
  tup := fun a u e => by rw [upd_ne (ne_of_none e h)]; exact e
  frz := fun a _ u e => by rw [upd_ne (ne_of_none e h)]; exact e
  dom := fun a e => by
    by_cases q : a = p
    · rw [q]; exact h
    · rw [upd_ne q] at e; exact e
theorem Ed.mut {H : Hp} {p : Addr} {o u : HO} (h : H p = some u) (m : Mut (some u)) : Ed [p] H (upd H p o) where
  keep := fun a v ha e => by
    have : a ≠ p := fun q => ha (by rw [q]; exact List.mem_singleton.mpr rfl)
    rw [upd_ne this]; exact e
  tup := fun a xs e => by
    have : a ≠ p := fun q => by rw [q, h] at e; cases e; exact m
    rw [upd_ne this]; exact e
  frz := fun a _ xs e => by
    have : a ≠ p := fun q => by rw [q, h] at e; cases e; exact m
    rw [upd_ne this]; exact e
  dom := fun a e => by
    by_cases q : a = p
    · subst q; rw [upd_same] at e; cases e
    · rw [upd_ne q] at e; exact e
theorem Ed.trans {S T : List Addr} {H H1 H2 : Hp} (a : Ed S H H1) (b : Ed T H1 H2) (hs : ∀ x ∈ T, x ∈ S ∨ H x = none) : Ed S H H2 where
  keep := fun x o hx e => by
    have e1 := a.keep x o hx e
    refine b.keep x o (fun z => ?_) e1
    rcases hs x z with q | q
    · exact hx q
    · rw [e] at q; cases q
  tup := fun x o e => b.tup x o (a.tup x o e)
  frz := fun x o u e => b.frz x o u (a.frz x o u e)
  dom := fun x e => a.dom x (b.dom x e)
theorem Ed.mono {S T : List Addr} {H H1 : Hp} (a : Ed S H H1) (hs : ∀ x ∈ S, x ∈ T) : Ed T H H1 :=
  ⟨fun x o hx e => a.keep x o (fun z => hx (hs x z)) e, a.tup, a.frz, a.dom⟩
theorem Ed.ex {S : List Addr} {H H1 H2 : Hp} (a : Ed S H H1) (b : Ed [] H1 H2) : Ed S H H2 := a.trans b fun _ z => nomatch z
theorem Ed.one {S : List Addr} {H H1 H2 : Hp} {p : Addr} (a : Ed S H H1) (b : Ed [p] H1 H2) (h : p ∈ S ∨ H p = none) : Ed S H H2 :=
  a.trans b fun x z => by rw [List.mem_singleton.mp z]; exact h
theorem Ed.same {H H' : Hp} (e : Ed [] H H') : Same H H' := fun a o h => e.keep a o (fun z => nomatch z) h
theorem Ed.at0 {H H' : Hp} {a : Addr} {o : HO} (e : Ed [] H H') (h : H a = some o) : H' a = some o := e.keep a o (fun z => nomatch z) h
theorem Ed.at1 {H H' : Hp} {a p : Addr} {o : HO} (e : Ed [p] H H') (n : a ≠ p) (h : H a = some o) : H' a = some o := e.keep a o (fun z => n (List.mem_singleton.mp z)) h
theorem Ed.at2 {H H' : Hp} {a p q : Addr} {o : HO} (e : Ed [p, q] H H') (n : a ≠ p) (m : a ≠ q) (h : H a = some o) : H' a = some o := e.keep a o (fun z => by
  rcases List.mem_cons.mp z with z | z
  · exact n z
  · exact m (List.mem_singleton.mp z)) h
theorem Ed.rdt {S : List Addr} {H H' : Hp} {a : Addr} {xs : List V} (e : Ed S H H') (h : Rd H a (.tup xs)) : Rd H' a (.tup xs) := by
  rcases h with h | ⟨o, h⟩
  · exact .inl (e.tup _ _ h)
  · exact .inr ⟨o, e.frz _ _ _ h⟩
theorem Ed.sqt {K : PySem.W.Frag} {S : List Addr} {H H' : Hp} {a : Addr} {xs : List V} (e : Ed S H H') (h : SqT K H a xs) : SqT K H' a xs := by
  rcases h with h | h
  · exact .inl (e.rdt h)
  · exact .inr h
theorem Ed.sql {K : PySem.W.Frag} {S : List Addr} {H H' : Hp} {a : Addr} {xs : List V} (e : Ed S H H') (n : a ∉ S) (h : SqL K H a xs) : SqL K H' a xs := by
  rcases h with (h | ⟨o, h⟩) | h
  · exact .inl (.inl (e.keep _ _ n h))
  · exact .inl (.inr ⟨o, e.frz _ _ _ h⟩)
  · exact .inr h
theorem Ed.sql0 {K : PySem.W.Frag} {H H' : Hp} {a : Addr} {xs : List V} (e : Ed [] H H') (h : SqL K H a xs) : SqL K H' a xs := e.sql (fun z => nomatch z) h
theorem Ed.sql1 {K : PySem.W.Frag} {H H' : Hp} {a p : Addr} {xs : List V} (e : Ed [p] H H') (n : a ≠ p) (h : SqL K H a xs) : SqL K H' a xs := e.sql (fun z => n (List.mem_singleton.mp z)) h
/-- a list that is read; p holds no list -/
theorem Ed.sqlk {K : PySem.W.Frag} {H H' : Hp} {a p : Addr} {o : HO} {xs : List V} (e : Ed [p] H H') (hp : H p = some o) (n : ∀ ys, o ≠ .lst ys) (h : SqL K H a xs) : SqL K H' a xs := by
  rcases h with (h | ⟨ob, h⟩) | h
  · exact .inl (.inl (e.keep _ _ (fun z => by rw [List.mem_singleton.mp z, hp] at h; cases h; exact n xs rfl) h))
  · exact .inl (.inr ⟨ob, e.frz _ _ _ h⟩)
  · exact .inr h

/-! ### data stay -/
mutual
theorem Dp.ed {K : PySem.W.Frag} {S : List Addr} {H H' : Hp} (e : Ed S H H') (hS : ∀ a ∈ S, ∀ xs, H a ≠ some (.lst xs)) : ∀ (d : PyData) (v : V), Dp K H v d → Dp K H' v d
  | .none, _, h => by cases h; exact .non
  | .bool b, _, h => by cases h; exact .bl b
  | .int i, _, h => by cases h; exact .int i
  | .str x, _, h => by cases h; exact .str x
  | .list ds, _, h => by
    cases h with
    | lst ha hd =>
      refine .lst ?_ (Dp.edAll e hS ds _ hd)
      rcases ha with (ha | ⟨ob, ha⟩) | ha
      · exact .inl (.inl (e.keep _ _ (fun z => hS _ z _ ha) ha))
      · exact .inl (.inr ⟨ob, e.frz _ _ _ ha⟩)
      · exact .inr ha
  | .tuple ds, _, h => by
    cases h with
    | tup ha hd => exact .tup (e.sqt ha) (Dp.edAll e hS ds _ hd)
theorem Dp.edAll {K : PySem.W.Frag} {S : List Addr} {H H' : Hp} (e : Ed S H H') (hS : ∀ a ∈ S, ∀ xs, H a ≠ some (.lst xs)) : ∀ (ds : List PyData) (vs : List V), DpAll K H vs ds → DpAll K H' vs ds
  | [], _, h => by cases h; exact .nil
  | d :: ds, _, h => by
    cases h with
    | cons h1 h2 => exact .cons (Dp.ed e hS d _ h1) (Dp.edAll e hS ds _ h2)
end
theorem Dp.ed0 {K : PySem.W.Frag} {H H' : Hp} {d : PyData} {v : V} (e : Ed [] H H') (h : Dp K H v d) : Dp K H' v d := Dp.ed e (fun _ z => nomatch z) d v h

/-! ### readings, step by step: what is left is stated without its binders -/
section
variable {K : PySem.W.Frag} {σ : L2.St} {H : Hp} {D : Ends} {Q : VK} {QB : Bool → Hp → Prop} {QA : List V → Hp → Prop} {te ta tb : TE} {tt tu : TT} {t u : TS} {g : TG} {v x y : V} {i j : Int}
-- statements
theorem go_seq (h : t { D with nx := u D } σ H) : tSeq t u D σ H := h
theorem go_asg (h : te σ H fun x H1 => g x σ H1 D.nx) : tAsg te g D σ H := h
theorem go_drop (h : te σ H fun _ H1 => D.nx σ H1) : tDrop te D σ H := h
theorem go_ret (h : te σ H D.rt) : tRet te D σ H := h
theorem go_retN (h : D.rt .non H) : tRetN D σ H := h
theorem go_next (h : D.nx σ H) : tNext D σ H := h
theorem go_break (h : D.bk σ H) : tBreak D σ H := h
theorem go_cont (h : D.ct σ H) : tCont D σ H := h
theorem go_ifS (h : tt σ H fun b H1 => if b = true then t D σ H1 else u D σ H1) : tIfS tt t u D σ H := h
theorem go_name {n : Nat} {R : L2.St → Hp → Prop} (h : R (σ.set n (some v)) H) : gName n v σ H R := h
-- tests
theorem go_test (h : te σ H fun x H' => ∃ k, x = .bl k ∧ QB k H') : tTest te σ H QB := h
theorem go_B (h : te σ H fun x H' => ∃ k, x = .bl k ∧ QB k H') : tB te σ H QB := h
theorem go_bl {b : Bool} {R : Bool → Prop} (h : R b) : ∃ k, V.bl b = .bl k ∧ R k := ⟨b, rfl, h⟩
theorem go_notT (h : tt σ H fun c H1 => QB (!c) H1) : tNot tt σ H QB := h
theorem go_andT (h : tt σ H fun c H1 => if c = true then tu σ H1 QB else QB false H1) : tAnd tt tu σ H QB := h
theorem go_orT (h : tt σ H fun c H1 => if c = true then QB true H1 else tu σ H1 QB) : tOr tt tu σ H QB := h
theorem go_yes (h : QB true H) : tYes σ H QB := h
-- values
theorem go_var {n : Nat} (e : σ[n]? = some (some v)) (h : Q v H) : tVar n σ H Q := ⟨v, e, h⟩
theorem go_c (h : Q v H) : tC v σ H Q := h
theorem go_op {r : R2} (h : ta σ H fun x H1 => tb σ H1 fun y H2 => r x y H2 Q) : tOp r ta tb σ H Q := h
theorem go_un {r : V → Hp → VK → Prop} (h : ta σ H fun x H1 => r x H1 Q) : tUn r ta σ H Q := h
theorem go_andV (h : ta σ H fun x H1 => ∃ c, x = .bl c ∧ if c = true then tb σ H1 Q else Q (.bl false) H1) : tAndV ta tb σ H Q := h
theorem go_orV (h : ta σ H fun x H1 => ∃ c, x = .bl c ∧ if c = true then Q (.bl true) H1 else tb σ H1 Q) : tOrV ta tb σ H Q := h
theorem go_notV (h : ta σ H fun x H1 => ∃ c, x = .bl c ∧ Q (.bl (!c)) H1) : tNotV ta σ H Q := h
theorem go_blP {b : Bool} {P : Bool → Prop} (h : P b) : ∃ c, V.bl b = .bl c ∧ P c := ⟨b, rfl, h⟩
theorem go_if (h : tt σ H fun c H1 => if c = true then ta σ H1 Q else tb σ H1 Q) : tIf tt ta tb σ H Q := h
theorem go_I0 {f : Int → Int → V} (h : Q (f i j) H) : rI0 f (.int i) (.int j) H Q := ⟨i, j, rfl, rfl, h⟩
theorem go_I {C : Int → Int → Prop} {f : Int → Int → V} (hc : C i j) (h : Q (f i j) H) : rI C f (.int i) (.int j) H Q := ⟨i, j, rfl, rfl, hc, h⟩
theorem go_U {f : Int → V} (h : Q (f i) H) : rU f (.int i) H Q := ⟨i, rfl, h⟩
theorem go_eqI (h : Q (.bl (decide (i = j))) H) : rEq (.int i) (.int j) H Q := ⟨rfl, by
  have : decide (V.int i = V.int j) = decide (i = j) := by rw [Bool.eq_iff_iff]; simp
  rw [this]; exact h⟩
theorem go_neI (h : Q (.bl (!decide (i = j))) H) : rNe (.int i) (.int j) H Q := ⟨rfl, by
  have : decide (V.int i = V.int j) = decide (i = j) := by rw [Bool.eq_iff_iff]; simp
  rw [this]; exact h⟩
theorem go_eqS {a b : Str} (h : Q (.bl (decide (a = b))) H) : rEq (.str a) (.str b) H Q := ⟨rfl, by
  have : decide (V.str a = V.str b) = decide (a = b) := by rw [Bool.eq_iff_iff]; simp
  rw [this]; exact h⟩
theorem go_neS {a b : Str} (h : Q (.bl (!decide (a = b))) H) : rNe (.str a) (.str b) H Q := ⟨rfl, by
  have : decide (V.str a = V.str b) = decide (a = b) := by rw [Bool.eq_iff_iff]; simp
  rw [this]; exact h⟩
theorem go_eqB {a b : Bool} (h : Q (.bl (decide (a = b))) H) : rEq (.bl a) (.bl b) H Q := ⟨rfl, by
  have : decide (V.bl a = V.bl b) = decide (a = b) := by rw [Bool.eq_iff_iff]; simp
  rw [this]; exact h⟩
theorem go_neB {a b : Bool} (h : Q (.bl (!decide (a = b))) H) : rNe (.bl a) (.bl b) H Q := ⟨rfl, by
  have : decide (V.bl a = V.bl b) = decide (a = b) := by rw [Bool.eq_iff_iff]; simp
  rw [this]; exact h⟩
theorem go_eqg (hs : scal x y = true) (h : Q (.bl (decide (x = y))) H) : rEq x y H Q := ⟨hs, h⟩
theorem go_neg (hs : scal x y = true) (h : Q (.bl (!decide (x = y))) H) : rNe x y H Q := ⟨hs, h⟩
theorem go_cb {r : List V → Hp → VK → Prop} {ts : TA} (h : ts σ H fun vs H1 => r vs H1 Q) : tCB r ts σ H Q := h
theorem go_nil (h : QA [] H) : tNil σ H QA := h
theorem go_cons {tr : TA} (h : ta σ H fun x H1 => tr σ H1 fun xs H2 => QA (x :: xs) H2) : tCons ta tr σ H QA := h
theorem go_call {sp : Sp} {E : XK} {ts : TA} (h : ts σ H fun vs H1 => sp vs H1 Q E) : tCall sp [] E ts σ H Q := by
  unfold tCall
  simpa only [List.append_nil] using h
theorem go_tup {ts : TA} (h : ts σ H fun xs H1 => xs.length ≤ sizeLine ∧ ∀ p, H1 p = none → Q (.ref p) (upd H1 p (.tup xs))) : tTup ts σ H Q := h
theorem go_lst {ts : TA} (h : ts σ H fun xs H1 => xs.length ≤ sizeLine ∧ ∀ p, H1 p = none → Q (.ref p) (upd H1 p (.lst xs))) : tLst ts σ H Q := h
theorem go_len {xs : List V} {P : Prop} (hl : xs.length ≤ 1000) (h : P) : xs.length ≤ sizeLine ∧ P := ⟨Nat.le_of_lt (small1000 hl), h⟩
theorem go_dnew (h : ∀ p, H p = none → Q (.ref p) (upd H p (.dK []))) : tDNewK σ H Q := h
theorem go_dget (h : ta σ H fun x H1 => tb σ H1 fun y H2 => ∃ a v, x = .ref a ∧ DGet H2 a y (some v) ∧ Q v H2) : tDGet ta tb σ H Q := h
theorem go_dgetS {a : Addr} {k : Str} {kvs : List (Key × V)} {v : V} {R : V → Prop} (e : H a = some (.dK kvs)) (ev : valV kvs (.inr k) = some v) (h : R v) : ∃ a' v', V.ref a = .ref a' ∧ DGet H a' (.str k) (some v') ∧ R v' :=
  ⟨a, v, rfl, by rw [← ev]; exact DGet.k (k := .inr k) e, h⟩
theorem go_dgetI {a : Addr} {k : Int} {kvs : List (Key × V)} {v : V} {R : V → Prop} (e : H a = some (.dK kvs)) (ev : valV kvs (.inl k) = some v) (h : R v) : ∃ a' v', V.ref a = .ref a' ∧ DGet H a' (.int k) (some v') ∧ R v' :=
  ⟨a, v, rfl, by rw [← ev]; exact DGet.k (k := .inl k) e, h⟩
theorem go_din (h : ta σ H fun y H1 => tb σ H1 fun x H2 => ∃ a o, x = .ref a ∧ DGet H2 a y o ∧ Q (.bl o.isSome) H2) : tDIn ta tb σ H Q := h
theorem go_dnotin (h : ta σ H fun y H1 => tb σ H1 fun x H2 => ∃ a o, x = .ref a ∧ DGet H2 a y o ∧ Q (.bl (!o.isSome)) H2) : tDNotIn ta tb σ H Q := h
theorem go_dinI {a : Addr} {k : Int} {kvs : List (Key × V)} {P : Option V → Prop} (e : H a = some (.dK kvs)) (h : P (valV kvs (.inl k))) : ∃ a' o, V.ref a = .ref a' ∧ DGet H a' (.int k) o ∧ P o :=
  ⟨a, _, rfl, DGet.k (k := .inl k) e, h⟩
theorem go_dput {tv : TE} (h : tv σ H fun v H1 => ta σ H1 fun x H2 => tb σ H2 fun y H3 => ∃ a H4, x = .ref a ∧ DPut H3 a y v H4 ∧ D.nx σ H4) : sDPut ta tb tv D σ H := h
theorem go_dputS {a : Addr} {k : Str} {kvs : List (Key × V)} {v : V} {P : Hp → Prop} (e : H a = some (.dK kvs)) (hl : kvs.length ≤ 1000) (h : P (upd H a (.dK (putK kvs (.inr k) v)))) : ∃ a' H4, V.ref a = .ref a' ∧ DPut H a' (.str k) v H4 ∧ P H4 :=
  ⟨a, _, rfl, DPut.k (k := .inr k) e (small1000 hl), h⟩
theorem go_dputI {a : Addr} {k : Int} {kvs : List (Key × V)} {v : V} {P : Hp → Prop} (e : H a = some (.dK kvs)) (hl : kvs.length ≤ 1000) (h : P (upd H a (.dK (putK kvs (.inl k) v)))) : ∃ a' H4, V.ref a = .ref a' ∧ DPut H a' (.int k) v H4 ∧ P H4 :=
  ⟨a, _, rfl, DPut.k (k := .inl k) e (small1000 hl), h⟩
theorem go_ixL {p : Addr} {xs : List V} (hs : SqL K H p xs) (ha : atI xs i = some v) (h : Q v H) : rIxL K (.ref p) (.int i) H Q := ⟨p, xs, i, v, rfl, rfl, hs, ha, h⟩
theorem go_ixT {p : Addr} {xs : List V} (hs : SqT K H p xs) (ha : atI xs i = some v) (h : Q v H) : rIxT K (.ref p) (.int i) H Q := ⟨p, xs, i, v, rfl, rfl, hs, ha, h⟩
theorem go_ixS {z : Str} {c : Nat} (hz : z.length ≤ 1000) (ha : atI z.cps.toList i = some c) (h : Q (.str ⟨#[c]⟩) H) : rIxS (.str z) (.int i) H Q := ⟨z, i, c, rfl, rfl, Nat.le_of_lt (small1000 hz), ha, h⟩
theorem go_sl {r : V → Option Int → Option Int → Hp → VK → Prop} {tl th : TO} (h : te σ H fun x H1 => tl σ H1 fun l H2 => th σ H2 fun u H3 => r x l u H3 Q) : tSl r te tl th σ H Q := h
theorem go_nopart {QO : Option Int → Hp → Prop} (h : QO none H) : tNoPart σ H QO := h
theorem go_part {QO : Option Int → Hp → Prop} (h : te σ H fun x H1 => ∃ i, x = .int i ∧ QO (some i) H1) : tPart te σ H QO := h
theorem go_partI {P : Int → Prop} (h : P i) : ∃ j, V.int i = .int j ∧ P j := ⟨i, rfl, h⟩
theorem go_slL {p : Addr} {xs : List V} {lo hi : Option Int} (hs : SqL K H p xs) (h : ∀ q, H q = none → Q (.ref q) (upd H q (.lst (cutV xs lo hi)))) : rSlL K (.ref p) lo hi H Q := ⟨p, xs, rfl, hs, h⟩
theorem go_slS {z : Str} {lo hi : Option Int} (hz : z.length ≤ 1000) (h : Q (.str (cutS z lo hi)) H) : rSlS (.str z) lo hi H Q := ⟨z, rfl, Nat.le_of_lt (small1000 hz), h⟩
theorem go_abs {R : Int → Prop} (h : R i) : ∃ j, [V.int i] = [.int j] ∧ R j := ⟨i, rfl, h⟩
theorem go_int1 {R : Int → Prop} {R' : Bool → Prop} (h : R i) : (∃ j, [V.int i] = [.int j] ∧ R j) ∨ ∃ k, [V.int i] = [.bl k] ∧ R' k := .inl ⟨i, rfl, h⟩
theorem go_int1b {k : Bool} {R : Int → Prop} {R' : Bool → Prop} (h : R' k) : (∃ j, [V.bl k] = [.int j] ∧ R j) ∨ ∃ k', [V.bl k] = [.bl k'] ∧ R' k' := .inr ⟨k, rfl, h⟩
theorem go_bm {T : String} {r : V → List V → Hp → VK → Prop} {to : TE} {ts : TA} (h : to σ H fun x H1 => tyV K T x H1 ∧ ts σ H1 fun xs H2 => r x xs H2 Q) : tBM K T r to ts σ H Q := h
theorem go_bm0 {T : String} {r : V → List V → Hp → VK → Prop} {to : TE} (h : to σ H fun x H1 => tyV K T x H1 ∧ r x [] H1 Q) : tBM0 K T r to σ H Q := h
theorem go_tyL {p : Addr} {xs : List V} {P : Prop} (e : SqL K H p xs) (h : P) : tyV K "list" (.ref p) H ∧ P := ⟨.inl ⟨rfl, xs, e⟩, h⟩
theorem go_append {p : Addr} {xs : List V} (e : H p = some (.lst xs)) (hl : xs.length ≤ 1000) (h : Q .non (upd H p (.lst (xs ++ [v])))) : rAppend (.ref p) [v] H Q := ⟨p, xs, v, rfl, rfl, e, small1000 hl, h⟩
theorem go_lenL {p : Addr} {xs : List V} {R : List V → Prop} (e : SqL K H p xs) (h : R xs) : ∃ q ys, [V.ref p] = [.ref q] ∧ (SqL K H q ys ∨ SqT K H q ys) ∧ R ys := ⟨p, xs, rfl, .inl e, h⟩
theorem go_lenT {p : Addr} {xs : List V} {R : List V → Prop} (e : SqT K H p xs) (h : R xs) : ∃ q ys, [V.ref p] = [.ref q] ∧ (SqL K H q ys ∨ SqT K H q ys) ∧ R ys := ⟨p, xs, rfl, .inr e, h⟩
theorem go_for {wi : TI} (h : wi σ H fun J H1 => ∃ W : Nat → Nat → L2.St → Hp → Prop, (∃ m, W 0 m σ H1) ∧ ∀ i m σ H, W i m σ H →
  (J.stop i H ∧ D.nx σ H) ∨ (J.go i H ∧ ∃ N : L2.St → Hp → Prop, (∀ σ' H', N σ' H' → ∃ m', m' < m ∧ W (i + 1) m' σ' H') ∧ ∀ x H', J.yld i H x H' → g x σ H' fun σ2 H2 => t { D with nx := N, ct := N, bk := D.nx } σ2 H2)) : tFor wi g t D σ H := h
theorem go_iList {tl : TE} {R : It → Hp → Prop} (h : tl σ H fun x H1 => ∃ a, x = .ref a ∧ (∃ xs, SqL K H1 a xs) ∧ R (Itl K a) H1) : iList K tl σ H R := h
theorem go_iTup {tl : TE} {R : It → Hp → Prop} (h : tl σ H fun x H1 => ∃ a, x = .ref a ∧ (∃ xs, SqT K H1 a xs) ∧ R (Itt K a) H1) : iTup K tl σ H R := h
theorem go_iRng1 {ts : TA} {R : It → Hp → Prop} (h : ts σ H fun vs H1 => ∃ j : Int, vs = [.int j] ∧ -(2 ^ 62) ≤ j ∧ j < 2 ^ 62 ∧ R (Itr 0 j.toNat) H1) : iRng1 ts σ H R := h
theorem go_iRng2 {ts : TA} {R : It → Hp → Prop} (h : ts σ H fun vs H1 => ∃ i j : Int, vs = [.int i, .int j] ∧ (-(2 ^ 62) ≤ i ∧ i < 2 ^ 62 ∧ -(2 ^ 62) ≤ j ∧ j < 2 ^ 62) ∧ R (Itr i (j - i).toNat) H1) : iRng2 ts σ H R := h
theorem go_iStr {tl : TE} {R : It → Hp → Prop} (h : tl σ H fun v H1 => ∃ x, v = .str x ∧ R (Its x) H1) : iStr tl σ H R := h
theorem go_lc {wi : TI} {vs : List Nat} (h : wi σ H fun J H1 => ∀ D, H1 D = none → ∃ W : Nat → Nat → Hp → Prop, (∃ m, W 0 m (upd H1 D (.lst []))) ∧ ∀ i m H, W i m H →
  (J.stop i H ∧ Q (.ref D) H) ∨ (J.go i H ∧ ∃ Nx : Hp → Prop, (∀ H', Nx H' → ∃ m', m' < m ∧ W (i + 1) m' H') ∧ ∀ x H', J.yld i H x H' → g x (wipe σ vs) H' fun σ2 H2 => wipe σ2 vs = wipe σ vs ∧ tt σ2 H2 fun b H3 =>
    if b = true then te σ2 H3 fun y H4 => ∃ acc, H4 D = some (.lst acc) ∧ acc.length < sizeLine ∧ Nx (upd H4 D (.lst (acc ++ [y]))) else Nx H3)) : tLc wi g tt te vs σ H Q := h
/-- a comprehension over n turns that give items one by one: the new list's items so far are told by Pv -/
theorem lc_by {J : It} {n : Nat} {G : Hp → Prop} {Y : Nat → Hp → V → Hp → Prop} {vs : List Nat} {R : Addr → Hp → Prop} (w : Walk J n G Y) (Pv : Addr → Nat → Hp → Prop) (h0 : ∀ D H2, H D = none → Ed [] H H2 → H2 D = some (.lst []) → Pv D 0 H2) (hG : ∀ D i H', H D = none → i ≤ n → Pv D i H' → G H')
    (hs : ∀ D i x H1 H', H D = none → i < n → Pv D i H1 → Y i H1 x H' → g x (wipe σ vs) H' fun σ2 H2 => wipe σ2 vs = wipe σ vs ∧ tt σ2 H2 fun b H3 =>
      if b = true then te σ2 H3 fun y H4 => ∃ acc, H4 D = some (.lst acc) ∧ acc.length < sizeLine ∧ Pv D (i + 1) (upd H4 D (.lst (acc ++ [y]))) else Pv D (i + 1) H3) (hd : ∀ D H', H D = none → Pv D n H' → R D H') :
    ∀ D, H D = none → ∃ W : Nat → Nat → Hp → Prop, (∃ m, W 0 m (upd H D (.lst []))) ∧ ∀ i m H, W i m H →
      (J.stop i H ∧ R D H) ∨ (J.go i H ∧ ∃ Nx : Hp → Prop, (∀ H', Nx H' → ∃ m', m' < m ∧ W (i + 1) m' H') ∧ ∀ x H', J.yld i H x H' → g x (wipe σ vs) H' fun σ2 H2 => wipe σ2 vs = wipe σ vs ∧ tt σ2 H2 fun b H3 =>
        if b = true then te σ2 H3 fun y H4 => ∃ acc, H4 D = some (.lst acc) ∧ acc.length < sizeLine ∧ Nx (upd H4 D (.lst (acc ++ [y]))) else Nx H3) := fun D nD =>
  lc_it w (Pv D) (h0 D _ nD (Ed.new nD) upd_same) (fun i H' hi p => hG D i H' nD hi p) (fun i x H1 H' hi p y => hs D i x H1 H' nD hi p y) (fun H' p => hd D H' nD p)
/-- list(xs) -/
theorem go_listL {p : Addr} {xs : List V} {R : List V → Prop} (e : SqL K H p xs) (h : R xs) : ∃ q ys, [V.ref p] = [.ref q] ∧ (SqL K H q ys ∨ SqT K H q ys) ∧ R ys := ⟨p, xs, rfl, .inl e, h⟩
theorem go_disp {trs : List (TE × TE)} (h : ∀ p, H p = none → tPairs trs σ (upd H p (.dK [])) fun ps H2 => H2 p = some (.dK []) ∧ ∃ kvs : List (Key × V), ps = kvs.map (fun kv => (kV kv.1, kv.2)) ∧ kvs.length ≤ 15 ∧ Q (.ref p) (upd H2 p (.dK (mergeK [] kvs)))) : tDisp trs σ H Q := h
theorem go_pairs {tk tv : TE} {trs : List (TE × TE)} {R : List (V × V) → Hp → Prop} (h : tk σ H fun k H1 => tv σ H1 fun v H2 => tPairs trs σ H2 fun ps H3 => R ((k, v) :: ps) H3) : tPairs ((tk, tv) :: trs) σ H R := h
theorem go_pairs0 {R : List (V × V) → Hp → Prop} (h : R [] H) : tPairs [] σ H R := h
/-- a new object, by name -/
theorem alloc {p : Addr} {o : HO} {H2 : Hp} (hu : upd H p o = H2) (h : H p = none) : Ed [] H H2 ∧ H2 p = some o := by subst hu; exact ⟨Ed.new h, upd_same⟩
/-- an object changed, by name -/
theorem chg {p : Addr} {o u : HO} {H2 : Hp} (hu : upd H p o = H2) (h : H p = some u) (m : Mut (some u) := by trivial) : Ed [p] H H2 ∧ H2 p = some o := by subst hu; exact ⟨Ed.mut h m, upd_same⟩
-- ifs
theorem go_ite {c : Prop} [Decidable c] {A B : Prop} (h1 : c → A) (h2 : ¬ c → B) : if decide c = true then A else B := by
  by_cases h : c
  · rw [if_pos (decide_eq_true h)]; exact h1 h
  · rw [if_neg (fun z => h (of_decide_eq_true z))]; exact h2 h
theorem go_iten {c : Prop} [Decidable c] {A B : Prop} (h1 : ¬ c → A) (h2 : c → B) : if (!decide c) = true then A else B := by
  by_cases h : c
  · rw [decide_eq_true h]; exact iteF (h2 h)
  · rw [decide_eq_false h]; exact iteT (h1 h)
theorem go_iteb {b : Bool} {A B : Prop} (h1 : b = true → A) (h2 : b = false → B) : if b = true then A else B := by
  cases b with
  | true => exact iteT (h1 rfl)
  | false => exact iteF (h2 rfl)
theorem go_itebn {b : Bool} {A B : Prop} (h1 : b = false → A) (h2 : b = true → B) : if (!b) = true then A else B := by
  cases b with
  | true => exact iteF (h2 rfl)
  | false => exact iteT (h1 rfl)
end

/-! ### distinct places -/
theorem ne1 {H : Hp} {a b : Addr} {o : HO} (h' : H b = none) (h : H a = some o) : a ≠ b := ne_of_none h h'
theorem ne2 {H : Hp} {a b : Addr} {o : HO} (h' : H a = none) (h : H b = some o) : a ≠ b := (ne_of_none h h').symm
theorem nek {H : Hp} {a b : Addr} {o u : HO} (h : H a = some o) (h' : H b = some u) (d : o ≠ u) : a ≠ b := ne_of h h' d
theorem Ed.ex' {S : List Addr} {H H1 H2 : Hp} (b : Ed [] H1 H2) (a : Ed S H H1) : Ed S H H2 := a.ex b
theorem Ed.one' {S : List Addr} {H H1 H2 : Hp} {p : Addr} (b : Ed [p] H1 H2) (a : Ed S H H1) (h : p ∈ S ∨ H p = none) : Ed S H H2 := a.one b h
theorem Ed.two' {S : List Addr} {H H1 H2 : Hp} {p q : Addr} (b : Ed [p, q] H1 H2) (a : Ed S H H1) (h : p ∈ S ∨ H p = none) (h' : q ∈ S ∨ H q = none) : Ed S H H2 :=
  a.trans b fun x z => by
    rcases List.mem_cons.mp z with z | z
    · rw [z]; exact h
    · rw [List.mem_singleton.mp z]; exact h'
theorem Ed.back {S : List Addr} {H H' : Hp} {a : Addr} (e : Ed S H H') (h : H' a = none) : H a = none := e.dom a h
theorem sqt_of {K : PySem.W.Frag} {H : Hp} {a : Addr} {xs : List V} (h : H a = some (.tup xs)) : SqT K H a xs := .inl (.inl h)
theorem go_neL {α : Type} [DecidableEq α] {a : α} {A B : Prop} (h : B) : if (!decide (a = a)) = true then A else B := by rw [decide_eq_true rfl]; exact iteF h
theorem go_eqL {α : Type} [DecidableEq α] {a : α} {A B : Prop} (h : A) : if decide (a = a) = true then A else B := by rw [decide_eq_true rfl]; exact iteT h
theorem go_nT {A B : Prop} (h : B) : if (!true) = true then A else B := iteF h
theorem go_nF {A B : Prop} (h : A) : if (!false) = true then A else B := iteT h
theorem go_iteT' {c : Prop} [Decidable c] {A B : Prop} (hc : c) (h : A) : if decide c = true then A else B := by rw [decide_eq_true hc]; exact iteT h
theorem go_iteF' {c : Prop} [Decidable c] {A B : Prop} (hc : ¬ c) (h : B) : if decide c = true then A else B := by rw [decide_eq_false hc]; exact iteF h
theorem go_itenT' {c : Prop} [Decidable c] {A B : Prop} (hc : ¬ c) (h : A) : if (!decide c) = true then A else B := by rw [decide_eq_false hc]; exact iteT h
theorem go_itenF' {c : Prop} [Decidable c] {A B : Prop} (hc : c) (h : B) : if (!decide c) = true then A else B := by rw [decide_eq_true hc]; exact iteF h
theorem go_strE {z : Str} {R : Str → Prop} (h : R z) : ∃ x, V.str z = .str x ∧ R x := ⟨z, rfl, h⟩
theorem go_sign {c : Nat} {z : Str} {R : Nat → Str → Prop} (h : R c z) : ∃ c' z', V.str ⟨#[c]⟩ = .str ⟨#[c']⟩ ∧ V.str z = .str z' ∧ R c' z' := ⟨c, z, rfl, rfl, h⟩
theorem go_lenS {z : Str} {R : Str → Prop} (l : z.length ≤ 1000) (h : R z) : ∃ x, [V.str z] = [.str x] ∧ x.length ≤ sizeLine ∧ R x := ⟨z, rfl, Nat.le_of_lt (small1000 l), h⟩
/-! ### is None -/
theorem go_isN {R : Prop} (h : R) : V.non = V.non ∧ R := ⟨rfl, h⟩
theorem go_iteN {x : V} {A B : Prop} (hx : x ≠ .non) (h : B) : if decide (x = V.non) = true then A else B := by rw [decide_eq_false hx]; exact iteF h
theorem go_iteNT {A B : Prop} (h : A) : if decide (V.non = V.non) = true then A else B := iteT h
/-! ### isinstance -/
theorem kit_int_int : kitB "int" "int" = some true := by decide +kernel
theorem kit_int_bool : kitB "int" "bool" = some false := by decide +kernel
theorem kit_int_str : kitB "int" "str" = some false := by decide +kernel
theorem kit_int_tuple : kitB "int" "tuple" = some false := by decide +kernel
theorem kit_int_list : kitB "int" "list" = some false := by decide +kernel
theorem kit_int_dict : kitB "int" "dict" = some false := by decide +kernel
theorem kit_bool_int : kitB "bool" "int" = some true := by decide +kernel
theorem kit_bool_bool : kitB "bool" "bool" = some true := by decide +kernel
theorem kit_bool_str : kitB "bool" "str" = some false := by decide +kernel
theorem kit_bool_tuple : kitB "bool" "tuple" = some false := by decide +kernel
theorem kit_bool_list : kitB "bool" "list" = some false := by decide +kernel
theorem kit_bool_dict : kitB "bool" "dict" = some false := by decide +kernel
theorem kit_str_int : kitB "str" "int" = some false := by decide +kernel
theorem kit_str_bool : kitB "str" "bool" = some false := by decide +kernel
theorem kit_str_str : kitB "str" "str" = some true := by decide +kernel
theorem kit_str_tuple : kitB "str" "tuple" = some false := by decide +kernel
theorem kit_str_list : kitB "str" "list" = some false := by decide +kernel
theorem kit_str_dict : kitB "str" "dict" = some false := by decide +kernel
theorem kit_NoneType_int : kitB "NoneType" "int" = some false := by decide +kernel
theorem kit_NoneType_bool : kitB "NoneType" "bool" = some false := by decide +kernel
theorem kit_NoneType_str : kitB "NoneType" "str" = some false := by decide +kernel
theorem kit_NoneType_tuple : kitB "NoneType" "tuple" = some false := by decide +kernel
theorem kit_NoneType_list : kitB "NoneType" "list" = some false := by decide +kernel
theorem kit_NoneType_dict : kitB "NoneType" "dict" = some false := by decide +kernel
theorem kit_list_int : kitB "list" "int" = some false := by decide +kernel
theorem kit_list_bool : kitB "list" "bool" = some false := by decide +kernel
theorem kit_list_str : kitB "list" "str" = some false := by decide +kernel
theorem kit_list_tuple : kitB "list" "tuple" = some false := by decide +kernel
theorem kit_list_list : kitB "list" "list" = some true := by decide +kernel
theorem kit_list_dict : kitB "list" "dict" = some false := by decide +kernel
theorem kit_tuple_int : kitB "tuple" "int" = some false := by decide +kernel
theorem kit_tuple_bool : kitB "tuple" "bool" = some false := by decide +kernel
theorem kit_tuple_str : kitB "tuple" "str" = some false := by decide +kernel
theorem kit_tuple_tuple : kitB "tuple" "tuple" = some true := by decide +kernel
theorem kit_tuple_list : kitB "tuple" "list" = some false := by decide +kernel
theorem kit_tuple_dict : kitB "tuple" "dict" = some false := by decide +kernel
theorem kit_dict_int : kitB "dict" "int" = some false := by decide +kernel
theorem kit_dict_bool : kitB "dict" "bool" = some false := by decide +kernel
theorem kit_dict_str : kitB "dict" "str" = some false := by decide +kernel
theorem kit_dict_tuple : kitB "dict" "tuple" = some false := by decide +kernel
theorem kit_dict_list : kitB "dict" "list" = some false := by decide +kernel
theorem kit_dict_dict : kitB "dict" "dict" = some true := by decide +kernel
section
variable {K : PySem.W.Frag} {H : Hp} {Q : VK} {x : V}
theorem tyL {a : Addr} {xs : List V} (h : SqL K H a xs) : TyX K H (.ref a) (.type "list") := by
  rcases h with (h | ⟨o, h⟩) | ⟨o, _, _, h, c, _⟩
  · exact .base (.lst h)
  · exact .base (.frz h)
  · exact .kList h c
theorem tyT {a : Addr} {xs : List V} (h : SqT K H a xs) : TyX K H (.ref a) (.type "tuple") := by
  rcases h with (h | ⟨o, h⟩) | ⟨o, _, _, h, c, _⟩
  · exact .base (.tup h)
  · exact .fTuple h
  · exact .kTuple h c
theorem go_isi {n m : String} {b : Bool} (ht : TyX K H x (.type n)) (hk : kitB n m = some b) (h : Q (.bl b) H) : rIsi K [x, .ty m] H Q := ⟨x, .ty m, .type n, .type m, b, rfl, .ty m, ht, kit_ty hk, h⟩
theorem or_t {b : Bool} : (true || b) = true := rfl
theorem or_f {b : Bool} : (false || b) = b := rfl
theorem go_isiT2 {tp : Addr} {n m m' : String} {b b' c : Bool} (ht : TyX K H x (.type n)) (e : H tp = some (.tup [.ty m, .ty m'])) (hk : kitB n m = some b) (hk' : kitB n m' = some b') (hc : (b || b') = c) (h : Q (.bl c) H) : rIsiT K [x, .ref tp] H Q :=
  ⟨x, tp, _, .type n, [.type m, .type m'], b || b', rfl, e, .cons (.ty m) (.cons (.ty m') .nil), ht,
    kitAny_cons (kit_ty hk) (fun z => by subst z; exact kitAny_cons (kit_ty hk') (fun z => by subst z; exact kitAny_nil) fun z => by subst z; rfl) fun z => by subst z; rfl, by rw [hc]; exact h⟩
end
/-! ### slices -/
theorem cut_take (xs : List V) (k : Nat) : cutV xs none (some (k : Int)) = xs.take k := by
  unfold cutV
  rw [HT.sIx_nat, HT.sIx_none, List.drop_zero, Nat.sub_zero]
  rcases Nat.le_total k xs.length with h | h
  · rw [Nat.min_eq_left h]
  · rw [Nat.min_eq_right h, List.take_length, List.take_of_length_le h]
theorem cut_drop (xs : List V) (k : Nat) : cutV xs (some (k : Int)) none = xs.drop k := by
  unfold cutV
  rw [HT.sIx_nat, HT.sIx_none]
  rcases Nat.le_total k xs.length with h | h
  · rw [Nat.min_eq_left h, List.take_of_length_le (by rw [List.length_drop]; omega)]
  · rw [Nat.min_eq_right h, List.drop_of_length_le h, List.drop_length, List.take_nil]
theorem cut_mid (xs : List V) (j k : Nat) : cutV xs (some (j : Int)) (some (k : Int)) = (xs.drop j).take (k - j) := by
  unfold cutV
  rw [HT.sIx_nat, HT.sIx_nat]
  rcases Nat.le_total j xs.length with h | h
  · rw [Nat.min_eq_left h]
    rcases Nat.le_total k xs.length with h' | h'
    · rw [Nat.min_eq_left h']
    · rw [Nat.min_eq_right h', List.take_of_length_le (by rw [List.length_drop]; omega), List.take_of_length_le (by rw [List.length_drop]; omega)]
  · rw [Nat.min_eq_right h, List.drop_of_length_le h, List.drop_length, List.take_nil, List.take_nil]
/-! ### sizes -/
theorem mulw {i j : Int} (hi : i.natAbs < 2 ^ 200) (hj : j.natAbs < 2 ^ 200) : CMulW i j := wide_mul (a := 200) (b := 200) hi hj (by decide) (by decide) (by decide)
theorem divw {i j : Int} (h : 0 < j) (hj : j.natAbs < 2 ^ 200) : CDivW i j := wide_div (b := 200) h hj (by decide) (by decide)
end Vc

/-! Vk: further readings by name: chains, classes' constants, fields, new instances, locked dicts, sorted. -/
namespace Vc
open PySem PySem.Spec PyProof.Rows L2
/-- a reading within a comprehension, told without the comprehension's own frame -/
theorem blkE {Y : Cx} {e : Expr} {t' t : TE} (h : PE Y e t') (q : t' = t) : PE Y e t := q ▸ h
theorem blkT {Y : Cx} {e : List Expr} {t' t : TT} (h : PTs Y e t') (q : t' = t) : PTs Y e t := q ▸ h
section
variable {K : PySem.W.Frag} {σ : L2.St} {H : Hp} {D : Ends} {Q : VK} {te ta tb tc tv : TE} {f : Str} {v x y : V} {i j : Int} {ts : TA} {g : TG} {t : TS} {tt : TT}
theorem go_chain {r r' : R2} (h : ta σ H fun x H1 => tb σ H1 fun y H2 => r x y H2 fun z H3 => ∃ k, z = .bl k ∧ (if k = true then tc σ H3 fun w' H4 => r' y w' H4 Q else Q (.bl false) H3)) : tChain r r' ta tb tc σ H Q := h
theorem go_cvalR (h : ta σ H fun x H1 => ∃ C mc v u, x = .ref C ∧ ClX.CRead K C mc ∧ ClX.CVal K C mc f v u ∧ Q v H1) : ClX.tCVal K ta f σ H Q := h
theorem go_cval {C : Addr} {mc u : Value} {R : V → Prop} (hr : ClX.CRead K C mc) (hv : ClX.CVal K C mc f v u) (h : R v) : ∃ C' mc' v' u', V.ref C = .ref C' ∧ ClX.CRead K C' mc' ∧ ClX.CVal K C' mc' f v' u' ∧ R v' := ⟨C, mc, v, u, rfl, hr, hv, h⟩
theorem go_fld (h : ta σ H fun x H1 => ∃ a C dx fs v, x = .ref a ∧ H1 a = some (.ins C dx fs) ∧ Cls K C ∧ NoAttr K C f ∧ fs.lookup f = some v ∧ Q v H1) : tFld K ta f σ H Q := h
theorem go_fldV {a C dx : Addr} {fs : List (Str × V)} {R : V → Prop} (e : H a = some (.ins C dx fs)) (hl : fs.lookup f = some v) (c : Cls K C) (n : NoAttr K C f) (h : R v) :
    ∃ a' C' dx' fs' v', V.ref a = .ref a' ∧ H a' = some (.ins C' dx' fs') ∧ Cls K C' ∧ NoAttr K C' f ∧ fs'.lookup f = some v' ∧ R v' := ⟨a, C, dx, fs, v, rfl, e, c, n, hl, h⟩
theorem go_sfld (h : tv σ H fun y H1 => ta σ H1 fun x H2 => ∃ a C dx fs, x = .ref a ∧ H2 a = some (.ins C dx fs) ∧ Cls K C ∧ NoAttr K C f ∧ fs.length < 1000 ∧ D.nx σ (upd H2 a (.ins C dx (putF f y fs)))) : sFld K ta tv f D σ H := h
theorem go_sfldV {a C dx : Addr} {fs : List (Str × V)} {R : Hp → Prop} (e : H a = some (.ins C dx fs)) (l : fs.length < 1000) (c : Cls K C) (n : NoAttr K C f) (h : R (upd H a (.ins C dx (putF f v fs)))) :
    ∃ a' C' dx' fs', V.ref a = .ref a' ∧ H a' = some (.ins C' dx' fs') ∧ Cls K C' ∧ NoAttr K C' f ∧ fs'.length < 1000 ∧ R (upd H a' (.ins C' dx' (putF f v fs'))) := ⟨a, C, dx, fs, rfl, e, c, n, l, h⟩
theorem go_make {C : Addr} {sp : Sp} {E : XK} (h : ts σ H fun vs H1 => ∀ x dx, H1 x = none → H1 dx = none → dx ≠ x → sp (.ref x :: vs) (upd (upd H1 dx (.own x)) x (.ins C dx [])) (fun v H2 => v = .non ∧ Q (.ref x) H2) E) : tMake C sp [] E ts σ H Q := by
  unfold tMake
  simpa only [List.append_nil] using h
theorem go_meth {C : Addr} {m : Str} {sp : Sp} {E : XK} (h : ta σ H fun x H1 => ∃ a dx fs, x = .ref a ∧ H1 a = some (.ins C dx fs) ∧ fs.lookup m = none ∧ ts σ H1 fun vs H2 => sp (x :: vs) H2 Q E) : tMeth C m sp [] E ta ts σ H Q := by
  unfold tMeth
  simpa only [List.append_nil] using h
theorem go_methV {a C dx : Addr} {fs : List (Str × V)} {m : Str} {R : Prop} (e : H a = some (.ins C dx fs)) (l : fs.lookup m = none) (h : R) : ∃ a' dx' fs', V.ref a = .ref a' ∧ H a' = some (.ins C dx' fs') ∧ fs'.lookup m = none ∧ R := ⟨a, dx, fs, rfl, e, l, h⟩
/-- a new instance, by name -/
theorem allocI {C p dx : Addr} {H2 : Hp} (hu : upd (upd H dx (.own p)) p (.ins C dx []) = H2) (np : H p = none) (nd : H dx = none) (ne : dx ≠ p) : Ed [] H H2 ∧ H2 p = some (.ins C dx []) ∧ H2 dx = some (.own p) := by
  subst hu
  have n1 : (upd H dx (.own p)) p = none := by rw [upd_ne ne.symm]; exact np
  exact ⟨(Ed.new nd).ex (Ed.new n1), upd_same, by rw [upd_ne ne]; exact upd_same⟩
theorem go_dgetIF {a : Addr} {k : Int} {o : Obj} {kvs : List (Key × V)} {R : V → Prop} (e : H a = some (.frz o (.dK kvs))) (ev : valV kvs (.inl k) = some v) (h : R v) : ∃ a' v', V.ref a = .ref a' ∧ DGet H a' (.int k) (some v') ∧ R v' :=
  ⟨a, v, rfl, .inl ⟨kvs, .inl k, .inr ⟨o, e⟩, rfl, ev.symm⟩, h⟩
theorem go_sorted {a : Addr} {ns : List Int} (e : SqL K H a (ns.map V.int)) (l : ns.length < 64) (h : ∀ (ns' : List Int) (p : Addr), ns'.Perm ns → ns'.Pairwise (· ≤ ·) → H p = none → Q (.ref p) (upd H p (.lst (ns'.map V.int)))) : rSorted K [.ref a] H Q := ⟨a, ns, rfl, e, l, h⟩
theorem go_listD {a : Addr} {kvs : List (Key × V)} (e : H a = some (.dK kvs)) (h : ∀ q, H q = none → Q (.ref q) (upd H q (.lst (kvs.map fun kv => kV kv.1)))) : rListD [.ref a] H Q := ⟨a, kvs, rfl, e, h⟩
theorem go_lenD {a : Addr} {kvs : List (Key × V)} {R : List (Key × V) → Prop} (e : H a = some (.dK kvs)) (h : R kvs) : ∃ b ls, [V.ref a] = [V.ref b] ∧ H b = some (.dK ls) ∧ R ls := ⟨a, kvs, rfl, e, h⟩
theorem go_in {a : Addr} {neg : Bool} {xs : List V} (e : SqL K H a xs ∨ SqT K H a xs) (hx : flatV x = true) (hf : xs.all flatV = true) (h : Q (.bl (if neg then !inV x xs else inV x xs)) H) : rIn K neg x (.ref a) H Q := ⟨a, xs, rfl, e, hx, hf, h⟩
theorem go_inL {a : Addr} {xs : List V} (e : SqL K H a xs) (hx : flatV x = true) (hf : xs.all flatV = true) (h : Q (.bl (inV x xs)) H) : rIn K false x (.ref a) H Q := go_in (neg := false) (.inl e) hx hf h
theorem go_inT {a : Addr} {xs : List V} (e : SqT K H a xs) (hx : flatV x = true) (hf : xs.all flatV = true) (h : Q (.bl (inV x xs)) H) : rIn K false x (.ref a) H Q := go_in (neg := false) (.inr e) hx hf h
theorem go_niL {a : Addr} {xs : List V} (e : SqL K H a xs) (hx : flatV x = true) (hf : xs.all flatV = true) (h : Q (.bl (!inV x xs)) H) : rIn K true x (.ref a) H Q := go_in (neg := true) (.inl e) hx hf h
theorem go_niT {a : Addr} {xs : List V} (e : SqT K H a xs) (hx : flatV x = true) (hf : xs.all flatV = true) (h : Q (.bl (!inV x xs)) H) : rIn K true x (.ref a) H Q := go_in (neg := true) (.inr e) hx hf h
theorem go_dc {wi : TI} {tk : TE} {vs : List Nat} (h : wi σ H fun J H1 => ∀ D, H1 D = none → ∃ W : Nat → Nat → Hp → Prop, (∃ m, W 0 m (upd H1 D (.dK []))) ∧ ∀ i m H, W i m H →
  (J.stop i H ∧ Q (.ref D) H) ∨ (J.go i H ∧ ∃ Nx : Hp → Prop, (∀ H', Nx H' → ∃ m', m' < m ∧ W (i + 1) m' H') ∧ ∀ x H', J.yld i H x H' → g x (wipe σ vs) H' fun σ2 H2 => wipe σ2 vs = wipe σ vs ∧ tt σ2 H2 fun b H3 =>
    if b = true then tk σ2 H3 fun y H4 => tv σ2 H4 fun z H5 => ∃ kvs k, y = kV k ∧ H5 D = some (.dK kvs) ∧ kvs.length < sizeLine ∧ Nx (upd H5 D (.dK (putK kvs k z))) else Nx H3)) : tDc wi g tt tk tv vs σ H Q := h
theorem go_aug {n : Nat} {ti : TIp} {x : V} (e : σ[n]? = some (some x)) (h : te σ H fun y H1 => ti x y H1 fun z H2 => D.nx (σ.set n (some z)) H2) : tAug n te ti D σ H := ⟨x, e, h⟩
theorem go_ipI {f : Int → Int → Int} (h : Q (.int (f i j)) H) : ipI f (.int i) (.int j) H Q := ⟨i, j, rfl, rfl, h⟩
theorem go_addS {a b : Str} {R : Str → Str → Prop} (l : a.length + b.length ≤ 1000) (h : R a b) : ∃ i j, V.str a = .str i ∧ V.str b = .str j ∧ i.length + j.length ≤ sizeLine ∧ R i j := ⟨a, b, rfl, rfl, Nat.le_of_lt (small1000 l), h⟩
theorem go_M1 {r : V → List V → Hp → VK → Prop} (h : ta σ H fun x H1 => (∃ a, x = .str a) ∧ tb σ H1 fun y H2 => r x [y] H2 Q) : tM1 r ta tb σ H Q := h
theorem go_M0 {r : V → List V → Hp → VK → Prop} (h : ta σ H fun x H1 => (∃ a, x = .str a) ∧ r x [] H1 Q) : tM0 r ta σ H Q := h
theorem go_isS {z : Str} {R : Prop} (h : R) : (∃ a, V.str z = .str a) ∧ R := ⟨⟨z, rfl⟩, h⟩
theorem go_join {a : Str} {p : Addr} {ys : List Str} {R : Str → List Str → Prop} (e : SqL K H p (ys.map V.str)) (l : (ys.map (·.length)).sum + ys.length * a.length ≤ 16777216) (h : R a ys) :
    ∃ a' p', ∃ zs : List Str, V.str a = .str a' ∧ [V.ref p] = [.ref p'] ∧ (SqL K H p' (zs.map V.str) ∨ SqT K H p' (zs.map V.str)) ∧ (zs.map (·.length)).sum + zs.length * a'.length ≤ 16777216 ∧ R a' zs := ⟨a, p, ys, rfl, rfl, .inl e, l, h⟩
theorem go_sub {to ti : TE} {ts : TSet} {R : L2.St → Hp → Prop} (h : to σ H fun o H1 => ti σ H1 fun i H2 => ts o i v H2 fun H3 => R σ H3) : gSub to ti ts v σ H R := h
theorem go_setL {p : Addr} {xs : List V} {k : Int} {j : Nat} {R : Hp → Prop} (e : H p = some (.lst xs)) (hj : ixN xs.length k = some j) (h : R (upd H p (.lst (xs.set j v)))) : rSetL (.ref p) (.int k) v H R := ⟨p, xs, k, j, rfl, rfl, e, hj, h⟩
theorem go_tupL {p : Addr} {xs : List V} {R : Addr → Hp → Prop} (e : SqL K H p xs) (h : ∀ l, H l = none → R l (upd H l (.tup xs))) : ∃ p' ys, [V.ref p] = [.ref p'] ∧ ((SqL K H p' ys ∧ ∀ l, H l = none → R l (upd H l (.tup ys))) ∨ (SqT K H p' ys ∧ R p' H)) := ⟨p, xs, rfl, .inl ⟨e, h⟩⟩
theorem at_m1 {xs : List V} (h : xs[xs.length - 1]? = some v) : atI xs (-1) = some v := by
  have h0 : 0 < xs.length := by
    rcases Nat.eq_zero_or_pos xs.length with e | e
    · rw [List.eq_nil_of_length_eq_zero e] at h; cases h
    · exact e
  unfold atI ixN
  rw [if_neg (by omega), if_pos (by omega)]
  have : (-1 + (xs.length : Int)).toNat = xs.length - 1 := by omega
  show xs[(-1 + (xs.length : Int)).toNat]? = some v
  rw [this]; exact h
/-- a dict comprehension over n turns that give items one by one -/
theorem dc_by {J : It} {n : Nat} {G : Hp → Prop} {Y : Nat → Hp → V → Hp → Prop} {tk : TE} {vs : List Nat} {R : Addr → Hp → Prop} (w : Walk J n G Y) (Pv : Addr → Nat → Hp → Prop) (h0 : ∀ D H2, H D = none → Ed [] H H2 → H2 D = some (.dK []) → Pv D 0 H2) (hG : ∀ D i H', H D = none → i ≤ n → Pv D i H' → G H')
    (hs : ∀ D i x H1 H', H D = none → i < n → Pv D i H1 → Y i H1 x H' → g x (wipe σ vs) H' fun σ2 H2 => wipe σ2 vs = wipe σ vs ∧ tt σ2 H2 fun b H3 =>
      if b = true then tk σ2 H3 fun y H4 => tv σ2 H4 fun z H5 => ∃ kvs k, y = kV k ∧ H5 D = some (.dK kvs) ∧ kvs.length < sizeLine ∧ Pv D (i + 1) (upd H5 D (.dK (putK kvs k z))) else Pv D (i + 1) H3) (hd : ∀ D H', H D = none → Pv D n H' → R D H') :
    ∀ D, H D = none → ∃ W : Nat → Nat → Hp → Prop, (∃ m, W 0 m (upd H D (.dK []))) ∧ ∀ i m H, W i m H →
      (J.stop i H ∧ R D H) ∨ (J.go i H ∧ ∃ Nx : Hp → Prop, (∀ H', Nx H' → ∃ m', m' < m ∧ W (i + 1) m' H') ∧ ∀ x H', J.yld i H x H' → g x (wipe σ vs) H' fun σ2 H2 => wipe σ2 vs = wipe σ vs ∧ tt σ2 H2 fun b H3 =>
        if b = true then tk σ2 H3 fun y H4 => tv σ2 H4 fun z H5 => ∃ kvs k, y = kV k ∧ H5 D = some (.dK kvs) ∧ kvs.length < sizeLine ∧ Nx (upd H5 D (.dK (putK kvs k z))) else Nx H3) := fun D nD => by
  refine ⟨fun i m H' => m = n - i ∧ i ≤ n ∧ Pv D i H', ⟨n, by simp, Nat.zero_le _, h0 D _ nD (Ed.new nD) upd_same⟩, ?_⟩
  rintro i m H1 ⟨rfl, hi, p⟩
  have q := hG D i H1 nD hi p
  by_cases hlt : i < n
  · exact .inr ⟨w.goes i H1 hlt q, Pv D (i + 1), fun H' p' => ⟨n - (i + 1), by omega, rfl, hlt, p'⟩, fun x H' y => hs D i x H1 H' nD hlt p (w.yields i H1 x H' hlt q y)⟩
  · have : i = n := by omega
    subst this
    exact .inl ⟨w.stops H1 q, hd D H1 nD p⟩
theorem putK_le {κ : Type} [DecidableEq κ] (c : List (κ × V)) (k : κ) (x : V) : (putK c k x).length ≤ c.length + 1 := by
  unfold putK
  split
  · rw [List.length_map]; omega
  · rw [List.length_append]; simp
theorem all_sqt {a : Addr} {xs : List V} (h : ∀ H, SqT K H a xs) (H : Hp) : SqT K H a xs := h H
/-! ### a dict that is locked while it is walked -/
theorem frz' {S : List Addr} {H' : Hp} {a : Addr} {o : Obj} {u : HO} (e : Ed S H H') (h : H a = some (.frz o u)) : H' a = some (.frz o u) := e.frz _ _ _ h
/-- unlocked again: d is what it was, all else as it is -/
theorem unlock {S : List Addr} {d : Addr} {u : HO} {od : Obj} {H1 H' H2 : Hp} (h : H d = some u) (m : Mut (some u)) (e1 : upd H d (.frz od u) = H1) (e2 : Ed S H1 H') (e3 : upd H' d u = H2) :
    Ed S H H2 ∧ H2 d = some u ∧ ∀ a o, a ≠ d → H' a = some o → H2 a = some o := by
  subst e1 e3
  have nf : ∀ ob w, u ≠ .frz ob w := fun ob w z => by rw [z] at m; exact m
  have nt : ∀ xs, u ≠ .tup xs := fun xs z => by rw [z] at m; exact m
  refine ⟨⟨fun a o ha e => ?_, fun a xs e => ?_, fun a ob w e => ?_, fun a e => ?_⟩, upd_same, fun a o n e => by rw [upd_ne n]; exact e⟩
  · by_cases q : a = d
    · subst q; rw [h] at e; cases e; exact upd_same
    · rw [upd_ne q]; exact e2.keep a o ha (by rw [upd_ne q]; exact e)
  · by_cases q : a = d
    · subst q; rw [h] at e; cases e; exact (nt _ rfl).elim
    · rw [upd_ne q]; exact e2.tup a xs (by rw [upd_ne q]; exact e)
  · by_cases q : a = d
    · subst q; rw [h] at e; cases e; exact (nf _ _ rfl).elim
    · rw [upd_ne q]; exact e2.frz a ob w (by rw [upd_ne q]; exact e)
  · by_cases q : a = d
    · subst q; rw [upd_same] at e; cases e
    · rw [upd_ne q] at e
      have := e2.dom a e
      rw [upd_ne q] at this; exact this
/-- for k in d -/
theorem lock_keys {n : Nat} {d : Addr} {kvs : List (Key × V)} (hv : σ[n]? = some (some (.ref d))) (hd : H d = some (.dK kvs)) (S : List Addr) (Pv : Hp → Nat → L2.St → Hp → Prop) (hE : ∀ H1 i σ' H', Pv H1 i σ' H' → Ed S H1 H')
    (h0 : ∀ H1 od, Ed [d] H H1 → H1 d = some (.frz od (.dK kvs)) → Pv H1 0 σ H1)
    (turn : ∀ H1 od i k w σ' H', Ed [d] H H1 → H1 d = some (.frz od (.dK kvs)) → H' d = some (.frz od (.dK kvs)) → kvs[i]? = some (k, w) → Pv H1 i σ' H' →
      g (kV k) σ' H' fun σ2 H2 => t { nx := Pv H1 (i + 1), ct := Pv H1 (i + 1), rt := fun v H3 => H3 d = some (.frz od (.dK kvs)) ∧ D.rt v (upd H3 d (.dK kvs)), bk := fun σ3 H3 => H3 d = some (.frz od (.dK kvs)) ∧ D.nx σ3 (upd H3 d (.dK kvs)) } σ2 H2)
    (done : ∀ H1 σ' H' H2, Ed [d] H H1 → Pv H1 kvs.length σ' H' → Ed S H H2 → H2 d = some (.dK kvs) → (∀ a o, a ≠ d → H' a = some o → H2 a = some o) → D.nx σ' H2) : tLock (tFor (iKeys (tVar n)) g t) D σ H := by
  refine ⟨d, .dK kvs, hd, trivial, fun od => ?_⟩
  generalize hu : upd H d (.frz od (.dK kvs)) = H1
  obtain ⟨e1, h1⟩ := chg hu hd
  refine ⟨_, hv, d, od, rfl, .inl ⟨kvs, h1, for_it walk_keys (Pv H1) (h0 H1 od e1 h1) (fun i σ' H' _ p => (hE _ _ _ _ p).frz _ _ _ h1) (fun i x σ' H' H2 hi p y => ?_) fun σ' H' p => ?_⟩⟩
  · obtain ⟨rfl, k, w, hk, rfl⟩ := y
    exact turn H1 od i k w σ' H2 e1 h1 ((hE _ _ _ _ p).frz _ _ _ h1) hk p
  · obtain ⟨e2, h2, k2⟩ := unlock hd trivial hu (hE _ _ _ _ p) rfl
    exact ⟨(hE _ _ _ _ p).frz _ _ _ h1, done H1 σ' H' _ e1 p e2 h2 k2⟩
/-- [e for k in d] -/
theorem lockE_keys {n : Nat} {d : Addr} {kvs : List (Key × V)} {vs : List Nat} (hv : σ[n]? = some (some (.ref d))) (hd : H d = some (.dK kvs)) (S : List Addr) (Pv : Hp → Addr → Nat → Hp → Prop) (hE : ∀ H1 L i H', Pv H1 L i H' → Ed S H1 H')
    (h0 : ∀ H1 od L H2, Ed [d] H H1 → H1 d = some (.frz od (.dK kvs)) → H1 L = none → Ed [] H1 H2 → H2 L = some (.lst []) → Pv H1 L 0 H2)
    (turn : ∀ H1 od L i k w H', Ed [d] H H1 → H1 L = none → H' d = some (.frz od (.dK kvs)) → kvs[i]? = some (k, w) → Pv H1 L i H' →
      g (kV k) (wipe σ vs) H' fun σ2 H2 => wipe σ2 vs = wipe σ vs ∧ tt σ2 H2 fun b H3 => if b = true then te σ2 H3 fun y H4 => ∃ acc, H4 L = some (.lst acc) ∧ acc.length < sizeLine ∧ Pv H1 L (i + 1) (upd H4 L (.lst (acc ++ [y]))) else Pv H1 L (i + 1) H3)
    (done : ∀ H1 L H' H2, H L = none → Pv H1 L kvs.length H' → Ed S H H2 → H2 d = some (.dK kvs) → (∀ a o, a ≠ d → H' a = some o → H2 a = some o) → Q (.ref L) H2) : tLockE (tLc (iKeys (tVar n)) g tt te vs) σ H Q := by
  refine ⟨d, .dK kvs, hd, trivial, fun od => ?_⟩
  generalize hu : upd H d (.frz od (.dK kvs)) = H1
  obtain ⟨e1, h1⟩ := chg hu hd
  refine ⟨_, hv, d, od, rfl, .inl ⟨kvs, h1, fun L nL => lc_it walk_keys (Pv H1 L) (h0 H1 od L _ e1 h1 nL (Ed.new nL) upd_same) (fun i H' _ p => (hE _ _ _ _ p).frz _ _ _ h1) (fun i x H' H2 hi p y => ?_) fun H' p => ?_⟩⟩
  · obtain ⟨rfl, k, w, hk, rfl⟩ := y
    exact turn H1 od L i k w H2 e1 nL ((hE _ _ _ _ p).frz _ _ _ h1) hk p
  · obtain ⟨e2, h2, k2⟩ := unlock hd trivial hu (hE _ _ _ _ p) rfl
    exact ⟨(hE _ _ _ _ p).frz _ _ _ h1, done H1 L H' _ (e1.dom _ nL) p e2 h2 k2⟩
/-- y = [e for k in d] -/
theorem lockA_keys {n m : Nat} {d : Addr} {kvs : List (Key × V)} {vs : List Nat} (hv : σ[n]? = some (some (.ref d))) (hd : H d = some (.dK kvs)) (S : List Addr) (Pv : Hp → Addr → Nat → Hp → Prop) (hE : ∀ H1 L i H', Pv H1 L i H' → Ed S H1 H')
    (h0 : ∀ H1 od L H2, Ed [d] H H1 → H1 d = some (.frz od (.dK kvs)) → H1 L = none → Ed [] H1 H2 → H2 L = some (.lst []) → Pv H1 L 0 H2)
    (turn : ∀ H1 od L i k w H', Ed [d] H H1 → H1 L = none → H' d = some (.frz od (.dK kvs)) → kvs[i]? = some (k, w) → Pv H1 L i H' →
      g (kV k) (wipe σ vs) H' fun σ2 H2 => wipe σ2 vs = wipe σ vs ∧ tt σ2 H2 fun b H3 => if b = true then te σ2 H3 fun y H4 => ∃ acc, H4 L = some (.lst acc) ∧ acc.length < sizeLine ∧ Pv H1 L (i + 1) (upd H4 L (.lst (acc ++ [y]))) else Pv H1 L (i + 1) H3)
    (done : ∀ H1 L H' H2, H L = none → Pv H1 L kvs.length H' → Ed S H H2 → H2 d = some (.dK kvs) → (∀ a o, a ≠ d → H' a = some o → H2 a = some o) → D.nx (σ.set m (some (.ref L))) H2) : tLock (tAsg (tLc (iKeys (tVar n)) g tt te vs) (gName m)) D σ H := by
  refine ⟨d, .dK kvs, hd, trivial, fun od => ?_⟩
  generalize hu : upd H d (.frz od (.dK kvs)) = H1
  obtain ⟨e1, h1⟩ := chg hu hd
  refine ⟨_, hv, d, od, rfl, .inl ⟨kvs, h1, fun L nL => lc_it walk_keys (Pv H1 L) (h0 H1 od L _ e1 h1 nL (Ed.new nL) upd_same) (fun i H' _ p => (hE _ _ _ _ p).frz _ _ _ h1) (fun i x H' H2 hi p y => ?_) fun H' p => ?_⟩⟩
  · obtain ⟨rfl, k, w, hk, rfl⟩ := y
    exact turn H1 od L i k w H2 e1 nL ((hE _ _ _ _ p).frz _ _ _ h1) hk p
  · obtain ⟨e2, h2, k2⟩ := unlock hd trivial hu (hE _ _ _ _ p) rfl
    exact ⟨(hE _ _ _ _ p).frz _ _ _ h1, done H1 L H' _ (e1.dom _ nL) p e2 h2 k2⟩
end
end Vc

/-! Kw: method calls with keywords (my own; the way is pe_meth's and pe_callK's). -/
namespace Vc
open PySem PySem.Spec PyProof.Rows L2
section
variable {X : Cx} {CX : CXT} {k : Nat} {f C : Addr} {fd : FuncData} {ps ks : List Str} {sp : Sp} {E : XK} {x m : Str} {p pos apos : Pos} {e o : Expr} {es : List Expr} {kws : List Keyword} {ta : TE} {t tk : TA} {g : List Value → List Value → List Value} {gV : List V → List V → List V}
theorem kbinds {K : PySem.W.Frag} {x qual : Str} {st : Stmt} (F : Fun K x qual st f fd)
    (h : ∀ (kV doc pm : Value) (an : Option Addr) (cdv ct : Value) (us ws : List Value), (g us ws).length = ps.length → bindArgs (PySem.W.fnOf x qual (defArgs st) (defBody st) (defScope st) .none kV doc pm an cdv ct) ⟨us, ks.zip ws⟩ = pure (ps.zip (g us ws)))
    (rel : ∀ {vs : List V} {us : List Value} {zs : List V} {ws : List Value}, Vals vs us → Vals zs ws → Vals (gV vs zs) (g us ws)) : KBinds K fd ps ks g gV := by
  obtain ⟨oc, od, kV, doc, pm, an, cdv, ct, osl, rfl, lk, hcd⟩ := F.ex
  exact ⟨fun s us ws _ hl => .of_eq (h kV doc pm an cdv ct us ws hl), rel⟩
def tMethK (C : Addr) (m : Str) (sp : Sp) (gV : List V → List V → List V) (E : XK) (ta : TE) (t tk : TA) : TE := fun σ H Q => ta σ H fun x H1 => ∃ a dx fs, x = .ref a ∧ H1 a = some (.ins C dx fs) ∧ fs.lookup m = none ∧ t σ H1 fun vs H2 => tk σ H2 fun zs H3 => sp (gV (x :: vs) zs) H3 Q E
/-- o.m(k = v, ..) -/
theorem pe_methK0 {pl : Sem Bool} (he : PE X o ta) (c : Cls X.K C) (hm : Meth X.K C m f) (F : FnOk X.prog X.w X.K X.mg X.base CX k f fd ps sp) (hr : Room k X.A) (hb : KBinds X.K fd ps ks g gV) (hx : Passes CX X E) (hkw : PK X kws tk)
    (hall : (backToKw pos (keywordEach kws X.env)).all (·.1.isSome) = true := by rfl) (hks : (backToKw pos (keywordEach kws X.env)).filterMap (·.1) = ks := by rfl)
    (hpl : ((backTo pos (starEach [] X.env)).any (·.1) || (backToKw pos (keywordEach kws X.env)).any (·.1.isNone)) = false := by rfl)
    (ht : eval (.Call (.Attribute o m apos) [] kws pos) X.env = (do
      let ov ← eval o X.env
      standAt apos.atName
      let (f, first) ← holding [ov] (getMethod ov m pl)
      callWith pos f first (backTo pos (starEach [] X.env)) (backToKw pos (keywordEach kws X.env))) := by rfl) :
    PE X (.Call (.Attribute o m apos) [] kws pos) (tMethK C m sp gV E ta tNil tk) := by
  refine ⟨fun pins s σ H Q I h => ?_⟩
  refine PySem.W.methodCall_KW (pl := pl) (thn (he.run pins s σ H _ I h) fun u s1 ⟨x, H1, I1, rx, a, dx, fs, ex, ea, l, q⟩ => ?_) ht
  subst ex
  obtain rfl : u = Value.ref a := rx
  refine getmeth_ok I1 ea c hm l ?_
  refine PySem.W.callWith_KW0 (first := [.ref a]) (h₀ := X.base) I.ok.mod.kin hm.kp hall (thn (hkw.run pos pins s1 σ H1 _ I1 q) fun ws s2 ⟨zs, H2, I2, rz, q2⟩ => ⟨I2.kIn, ?_⟩) hpl
  rw [hks]
  exact run_fnk (us := [.ref a]) (vs := [.ref a]) F hr hb hx I2 (.cons rfl .nil) rz q2
/-- o.m(e, .., k = v, ..) -/
theorem pe_methK {pl : Sem Bool} (he : PE X o ta) (c : Cls X.K C) (hm : Meth X.K C m f) (F : FnOk X.prog X.w X.K X.mg X.base CX k f fd ps sp) (hr : Room k X.A) (hb : KBinds X.K fd ps ks g gV) (hx : Passes CX X E) (ha : PA X (e :: es) t) (hkw : PK X kws tk)
    (hall : (backToKw pos (keywordEach kws X.env)).all (·.1.isSome) = true := by rfl) (hks : (backToKw pos (keywordEach kws X.env)).filterMap (·.1) = ks := by rfl)
    (hst : starEach (e :: es) X.env = (false, eval e X.env) :: starEach es X.env := by rfl)
    (hpl : ((backTo pos (starEach (e :: es) X.env)).any (·.1) || (backToKw pos (keywordEach kws X.env)).any (·.1.isNone)) = false := by rfl)
    (ht : eval (.Call (.Attribute o m apos) (e :: es) kws pos) X.env = (do
      let ov ← eval o X.env
      standAt apos.atName
      let (f, first) ← holding [ov] (getMethod ov m pl)
      callWith pos f first (backTo pos (starEach (e :: es) X.env)) (backToKw pos (keywordEach kws X.env))) := by rfl) :
    PE X (.Call (.Attribute o m apos) (e :: es) kws pos) (tMethK C m sp gV E ta t tk) := by
  refine ⟨fun pins s σ H Q I h => ?_⟩
  refine PySem.W.methodCall_KW (pl := pl) (thn (he.run pins s σ H _ I h) fun u s1 ⟨x, H1, I1, rx, a, dx, fs, ex, ea, l, q⟩ => ?_) ht
  subst ex
  obtain rfl : u = Value.ref a := rx
  refine getmeth_ok I1 ea c hm l ?_
  refine PySem.W.callWith_KW (first := [.ref a]) (h₀ := X.base) I.ok.mod.kin hm.kp hall (thn (ha.run pos pins s1 σ H1 _ I1 q) fun us s2 ⟨vs, H2, I2, r, q2⟩ => ?_) hpl hst
  refine thn (hkw.run pos pins s2 σ H2 _ I2 q2) fun ws s3 ⟨zs, H3, I3, rz, q3⟩ => ⟨I3.kIn, ?_⟩
  rw [hks]
  exact run_fnk (us := .ref a :: us) (vs := .ref a :: vs) F hr hb hx I3 (.cons rfl r) rz q3
/-- f(k = v, ..) -/
theorem pe_callK0 (F : FnOk X.prog X.w X.K X.mg X.base CX k f fd ps sp) (hr : Room k X.A) (hg : Gl X x) (hm : X.mg x = some (.ref f)) (hk : PySem.W.keepIn X.K (.ref f) = true) (hb : KBinds X.K fd ps ks g gV) (hx : Passes CX X E) (hkw : PK X kws tk)
    (hall : (backToKw pos (keywordEach kws X.env)).all (·.1.isSome) = true := by rfl) (hks : (backToKw pos (keywordEach kws X.env)).filterMap (·.1) = ks := by rfl)
    (hdb : (x == ("__debug__" : Str)) = false := by decide)
    (hpl : ((backTo pos (starEach [] X.env)).any (·.1) || (backToKw pos (keywordEach kws X.env)).any (·.1.isNone)) = false := by rfl) :
    PE X (.Call (.Name x p) [] kws pos) (tCallK sp gV E tNil tk) := by
  refine ⟨fun pins s σ H Q I h => ?_⟩
  refine wpAny_Call_Name_kw (ld_glob I hg hm ?_ hdb)
  refine PySem.W.callWith_KW0 (first := []) (h₀ := X.base) I.ok.mod.kin hk hall (thn (hkw.run pos pins s σ H _ I h) fun ws s2 ⟨zs, H2, I2, rz, q2⟩ => ⟨I2.kIn, ?_⟩) hpl
  rw [hks]
  exact run_fnk (us := []) (vs := []) F hr hb hx I2 .nil rz q2
end
section
variable {σ : L2.St} {H : Hp} {Q : VK} {ta : TE} {ts tk : TA} {C : Addr} {m : Str} {sp : Sp} {E : XK} {gV : List V → List V → List V}
theorem go_methK (h : ta σ H fun x H1 => ∃ a dx fs, x = .ref a ∧ H1 a = some (.ins C dx fs) ∧ fs.lookup m = none ∧ ts σ H1 fun vs H2 => tk σ H2 fun zs H3 => sp (gV (x :: vs) zs) H3 Q E) : tMethK C m sp gV E ta ts tk σ H Q := h
theorem go_callK (h : ts σ H fun vs H1 => tk σ H1 fun zs H2 => sp (gV vs zs) H2 Q E) : tCallK sp gV E ts tk σ H Q := h
end
end Vc

/-! Sup: an own exception over own classes over ValueError, whose __init__ begins super().__init__('text') (my own; ways of HandS.Call's fn_of, HandS.ExcInit and KE.KExcSuper). -/
namespace Vc
open PySem PySem.Spec PyProof.Rows L2 PySem.W
/-- a def with the free cell __class__ -/
structure SupScope (N P : List Str) (sc : Scope) : Prop where
  kind : sc.kind = .function
  co : sc.isCoroutine = false
  gen : sc.isGenerator = false
  nd : N.Nodup
  pre : N.take P.length = P
  par : ∀ x ∈ P, sc.names.lookup x = some .local
  nocell : ∀ y ∈ sc.names, y.2 ≠ .cell
  free1 : ∀ y ∈ sc.names, y.2 = .free → y.1 = "__class__"
  cls : sc.names.lookup ("__class__" : Str) = some .free
  sup : sc.names.lookup ("super" : Str) = some .globalImplicit
/-- the context of such a def's body -/
def cxS (cm : Bool) (CX : CXT) (P : Program) (w : World) (K : PySem.W.Frag) (mg : Str → Option Value) (base : Heap) (N : List Str) (qual : Str) (scope : Scope) (f : Addr) (cd : Value) (cc : Addr) (A : Around) (outer : List Env) (s : Shared) (H : Hp) (E : XK) : Cx where
  prog := P
  w := w
  K := K
  mg := mg
  base := base
  A := A.deeper (ksEnv qual scope s.heap.objs.size f cd cc)
  N := N
  s_0 := s
  H_0 := H
  env := ksEnv qual scope s.heap.objs.size f cd cc
  outer := outer
  stack := ksEnv qual scope s.heap.objs.size f cd cc :: outer
  ex := []
  calm := cm
  fn := fun y => !(y == ("__class__" : Str))
  pn := []
  xe := fun e s' => wpAny (model P w) (A.deeper (ksEnv qual scope s.heap.objs.size f cd cc)) (leaving (ksEnv qual scope s.heap.objs.size f cd cc) e) (fun _ s'' => CX outer H s E e s'') (fun e' s'' => CX outer H s E e' s'') s'
theorem cell1 {x : Str} {c cc : Addr} (h : List.lookup x [(("__class__" : Str), cc)] = some c) : x = "__class__" ∧ c = cc := by
  by_cases e : (x == ("__class__" : Str)) = true
  · rw [List.lookup_cons, e] at h
    exact ⟨eq_of_beq e, (Option.some.inj h).symm⟩
  · rw [List.lookup_cons, Bool.eq_false_iff.mpr e] at h
    cases h
theorem lookup_rev : ∀ {ps : List Str} {us : List Value} {i : Nat} {y : Str} {u : Value}, ps.Nodup → ps[i]? = some y → us[i]? = some u → (ps.zip us).reverse.lookup y = some u := by
  have key : ∀ {l : List (Str × Value)} {y : Str} {u : Value}, (l.map (·.1)).Nodup → (y, u) ∈ l → l.lookup y = some u := by
    intro l
    induction l with
    | nil => intro y u _ h; cases h
    | cons p r ih =>
      intro y u nd h
      rw [List.map_cons, List.nodup_cons] at nd
      rcases List.mem_cons.mp h with e | h
      · subst e; simp [List.lookup]
      · have ne : (y == p.1) = false := by
          rw [beq_eq_false_iff_ne]
          intro e
          exact nd.1 (e ▸ List.mem_map.mpr ⟨(y, u), h, rfl⟩)
        rw [List.lookup_cons, ne]
        exact ih nd.2 h
  intro ps us i y u nd h1 h2
  refine key ?_ ?_
  · rw [List.map_reverse]
    refine List.pairwise_reverse.mpr ?_
    have h3 : ((ps.zip us).map (·.1)).Nodup := nd.sublist (by
      have : (ps.zip us).map (·.1) = ps.take us.length := by
        clear key h1 h2 nd
        induction ps generalizing us with
        | nil => simp
        | cons p r ih =>
          cases us with
          | nil => simp
          | cons u t => simp [ih]
      rw [this]
      exact List.take_sublist _ _)
    exact h3.imp fun h => h.symm
  · rw [List.mem_reverse]
    refine List.mem_iff_getElem?.mpr ⟨i, ?_⟩
    rw [List.getElem?_zip_eq_some]
    exact ⟨h1, h2⟩
theorem inv_sup {cm : Bool} {CX : CXT} {P : Program} {w : World} {K : PySem.W.Frag} {mg : Str → Option Value} {base : Heap} {N ps : List Str} {qual : Str} {scope : Scope} {f cc : Addr} {cd : Value} {A : Around} {outer : List Env} {s : Shared} {H : Hp} {E : XK} {us : List Value} {vs : List V} {h1 : Heap} {tk : Nat} {oc cv : Value} {od : Option Addr} {sl : Array (Option Value)}
    (S : SupScope N ps scope) (hd : cm = true → A.handled = none) (e0 : Env0 P w K mg base A outer s H) (hl : vs.length = ps.length) (r : Vals vs us) (hcell : K.lookup cc = some ⟨oc, od, .cell (some cv), sl⟩)
    (ns : h1.Ns s.heap.objs.size (fun x => (ps.zip us).reverse.lookup x)) (hk : ∀ b o, s.heap.get? b = some o → h1.get? b = some o) :
    Inv (cxS cm CX P w K mg base N qual scope f cd cc A outer s H E) [] (start N vs) H { s with heap := h1, toks := tk } := by
  have hpl : ps.length ≤ N.length := by have := congrArg List.length S.pre; rw [List.length_take] at this; omega
  have hK : base.get? cc = some ⟨oc, od, .cell (some cv), sl⟩ := e0.mod.kin _ _ hcell
  have hs := e0.bs _ _ hK
  refine ⟨⟨e0.mod, S.kind, rfl, rfl, Nat.le_refl _, fun y z c h1 h2 => ?_, fun y hy => ?_, fun y c hf h => ?_, hd, Around.frames_deeper e0.frames, .inr ⟨rfl, rfl⟩, fun b z => absurd (show b ∈ ([] : List Addr) from z) (by simp), e0.bs, e0.bsz, fun b _ _ z => absurd (show b ∈ ([] : List Addr) from z) (by simp), fun b z => absurd (show b ∈ ([] : List Addr) from z) (by simp), e0.funs, e0.frf⟩,
    rfl, e0.bare, Un.kept hk, ⟨_, ns, fun i y v h1 h2 h3 => ?_⟩, fun y c h => ?_, e0.hok.fresh (Nat.le_refl _), fun y c h => ?_, fun p hp => absurd (show p ∈ ([] : List (Addr × Obj)) from hp) (by simp), e0.hok.kept hk, ?_⟩
  · exact (cell1 h1).1.trans (cell1 h2).1.symm
  · have hy : scope.names.lookup y = some .cell ∨ scope.names.lookup y = some .free := hy
    rcases hy with hy | hy
    · exact absurd rfl (S.nocell _ (PySem.mem_of_lookup hy))
    · have := S.free1 _ (PySem.mem_of_lookup hy) rfl
      have : y = "__class__" := this
      subst this
      exact ⟨cc, by show List.lookup _ [_] = _; simp [List.lookup]⟩
  · have := (cell1 h).1
    subst this
    cases (show (!((("__class__" : Str)) == ("__class__" : Str))) = true from hf)
  · have hi : i < vs.length := by
      unfold L2.start at h2
      by_cases hi : i < vs.length
      · exact hi
      · rw [List.getElem?_append_right (by simpa using hi)] at h2
        rw [List.getElem?_replicate] at h2
        split at h2 <;> cases h2
    have ha : vs[i]? = some v := by
      unfold L2.start at h2
      rw [List.getElem?_append_left (by simpa using hi), List.getElem?_map] at h2
      cases e : vs[i]? with
      | none => rw [e] at h2; cases h2
      | some a => rw [e] at h2; cases h2; rfl
    obtain ⟨u, hu, rv⟩ := r.get ha
    have hp : ps[i]? = some y := by
      rw [← S.pre, List.getElem?_take_of_lt (by omega)]; exact h1
    have ndP : ps.Nodup := by rw [← S.pre]; exact S.nd.sublist (List.take_sublist _ _)
    exact ⟨u, rv, .inl ⟨S.par y (List.mem_of_getElem? hp), lookup_rev ndP hp hu⟩⟩
  · rw [(cell1 h).2]
    exact ⟨_, _, hk _ _ hs.1, rfl⟩
  · rw [(cell1 h).2]
    exact hs.2
  · unfold L2.start
    show _ = N.length
    rw [List.length_append, List.length_map, List.length_replicate]
    omega
section
variable {prog : Program} {w : World} {A : Around} {E : Value → Shared → Prop} {h : Heap} {g : Array GenState} {d : Drawn} {t : Nat} {os : OsState}
variable {nm q : Str} {C N : Addr} {bs bm : List Value} {hdct : Bool} {sn : List Str} {sub : List Value} {ab : Bool} {col : Option Bool} {dd : Option Addr} {k0 k1 k2 k3 k5 : Option Value}
/-- the bound ValueError.__init__ called -/
theorem call_bv {u e t0 : Addr} {rest : List Value} {Q : Value → Shared → Prop}
    (hC : h.get? C = some (excClassObj nm q C N bs bm hdct sn sub ab col dd k0 k1 k2 k3 k5 "ValueError.__new__")) (he : h.get? e = some (HandSPX.excO C t0)) (hu : h.get? u = some (kxs_mw "ValueError.__init__" e)) (hrest : rest.length ≤ sizeLine)
    (hq : ∀ h' t1, (∀ b o, b ≠ e → h.get? b = some o → h'.get? b = some o) → h'.get? e = some (HandSPX.excO C t1) → Q .none ⟨h', g, d, t, os⟩) :
    wpAny (model prog w) A (call (.ref u) rest) Q E ⟨h, g, d, t, os⟩ := by
  refine wpAny_call (codeAny_of_tree ?_)
  show wpAny _ A.in1 (callAny (.ref u) ⟨rest, []⟩) _ _ _
  simp only [callAny]
  refine wpAny_bind (wpAny_load hu ?_)
  simp only [kxs_mw, show (Value.type "method-wrapper" == Value.type "method" || Value.type "method-wrapper" == Value.type "builtin_function_or_method" || Value.type "method-wrapper" == Value.type "method-wrapper") = true by decide, if_true]
  refine W.KFB.if_so (by decide) ?_
  refine wpAny_bind (check_bound_init F.excBase_ValueError.toExcCallFacts hC he rfl ?_)
  refine wpAny_bind (wpAny_pure (wpAny_pure ?_))
  refine ⟨Code.quiet_builtin _ (by decide +kernel), codeAny_builtin F.excBase_ValueError.initEntry ?_⟩
  rw [Around.under_plainId F.excBase_ValueError.init.plain _]
  wp_walk
  refine hq _ h.objs.size (fun b o hb ho => ?_) ?_
  · rw [Heap.get?_update_other _ _ (Ne.symm hb)]
    exact Heap.get?_push_of_some _ ho
  · rw [Heap.get?_update_self _ (Heap.get?_push_of_some _ he) rfl]
    rfl
end
/-- what super() asks for in the __init__ of the class at C -/
structure SupF (P : Program) (K : PySem.W.Frag) (mg : Str → Option Value) (f cda cc C : Addr) (fd : FuncData) (sv : Str) : Prop where
  lk : ∃ oc od sl, K.lookup f = some ⟨oc, od, .func fd, sl⟩
  par : ∃ ar : Arg, (fd.params.posonlyargs ++ fd.params.args).head? = some ar ∧ ar.arg = sv
  code : ∃ ccl cdd vs ccs file tf, K.lookup cda = some ⟨ccl, cdd, .fields vs, ccs⟩ ∧ vs[2]? = some (.str file tf) ∧ ((P.main.file : Str) == file) = true
  cell : ∃ cl cld csl, K.lookup cc = some ⟨cl, cld, .cell (some (.ref C)), csl⟩
  sub : mroIn K C (.ref C) = some true
  init : ks_superIn K C C "__init__" = some (some (.builtin "ValueError.__init__"))
  subV : subIn K (.ref C) (.type "ValueError") = some true
  nosup : mg "super" = none
  noop : nsIn K cStatics "thirdparty.any" = some none
  top : (P.main.scope.names.lookup ("super" : Str)).isSome = false
section
variable {cm : Bool} {CX : CXT} {P : Program} {w : World} {K : PySem.W.Frag} {mg : Str → Option Value} {base : Heap} {N ps : List Str} {qual : Str} {scope : Scope} {f cc cda C a : Addr} {A : Around} {outer : List Env} {s0 s : Shared} {H0 H : Hp} {E0' : XK} {pins : List (Addr × Obj)} {σ : L2.St} {fd : FuncData} {sv : Str} {body : List Stmt} {p0 p1 ap cp pos spos : Pos} {x : Str} {nk : Nat} {pl : Sem Bool}
theorem sup_stmt {e : Expr} {Q : Flow → Shared → Prop} (S : SupScope N ps scope) (SF : SupF P K mg f cda cc C fd sv) (T : OexC K C) (I : Inv (cxS cm CX P w K mg base N qual scope f (.ref cda) cc A outer s0 H0 E0') pins σ H s) (hN : N[0]? = some sv) (hself : scope.names.lookup sv = some .local) (hσ : σ[0]? = some (some (.ref a))) (ea : H a = some (exo a C none))
    (he : PE (cxS cm CX P w K mg base N qual scope f (.ref cda) cc A outer s0 H0 E0') e (tC (.str x))) (h : ∀ s', Inv (cxS cm CX P w K mg base N qual scope f (.ref cda) cc A outer s0 H0 E0') pins σ H s' → Q .next s')
    (hi : interactive (ksEnv qual scope s0.heap.objs.size f (.ref cda) cc) = false)
    (hs : swapsWith (.Call (.Attribute (.Call (.Name "super" p0) [] [] p1) "__init__" ap) [e] [] pos) none spos.line (ksEnv qual scope s0.heap.objs.size f (.ref cda) cc) = pure false)
    (hst : starEach [e] (ksEnv qual scope s0.heap.objs.size f (.ref cda) cc) = (false, eval e (ksEnv qual scope s0.heap.objs.size f (.ref cda) cc)) :: starEach [] (ksEnv qual scope s0.heap.objs.size f (.ref cda) cc))
    (ht : eval (.Call (.Attribute (.Call (.Name "super" p0) [] [] p1) "__init__" ap) [e] [] pos) (ksEnv qual scope s0.heap.objs.size f (.ref cda) cc) = (do
      let ov ← attributeBase (.Call (.Name "super" p0) [] [] p1) "__init__" (ksEnv qual scope s0.heap.objs.size f (.ref cda) cc) (eval (.Call (.Name "super" p0) [] [] p1) (ksEnv qual scope s0.heap.objs.size f (.ref cda) cc))
      standAt ap.atName
      let (fm, first) ← holding [ov] (getMethod ov "__init__" pl)
      callWith pos fm first (backTo pos (starEach [e] (ksEnv qual scope s0.heap.objs.size f (.ref cda) cc))) (backToKw pos (keywordEach [] (ksEnv qual scope s0.heap.objs.size f (.ref cda) cc))))) :
    _root_.PySem.wpAt (model P w) (cxS cm CX P w K mg base N qual scope f (.ref cda) cc A outer s0 H0 E0').A (.func body (ksEnv qual scope s0.heap.objs.size f (.ref cda) cc)) (exec (.Expr (.Call (.Attribute (.Call (.Name "super" p0) [] [] p1) "__init__" ap) [e] [] pos) spos) (ksEnv qual scope s0.heap.objs.size f (.ref cda) cc)) Q (cxS cm CX P w K mg base N qual scope f (.ref cda) cc A outer s0 H0 E0').xe s := by
  obtain ⟨_, _, _, lkf⟩ := SF.lk
  obtain ⟨ar, hp, rfl⟩ := SF.par
  obtain ⟨_, _, vs, _, file, tf, lkc, hvs, hfile⟩ := SF.code
  obtain ⟨_, _, _, lkl⟩ := SF.cell
  have KX : K.In s.heap := I.kIn
  refine ks_wpAt_Expr_any ?_ hi hs
  refine ks_wpAt_MethodCall (pl := pl) ?_ ht
  refine ks_wpAt_super_base (env := ksEnv qual scope s0.heap.objs.size f (.ref cda) cc) S.sup S.cls (by decide) rfl (KX _ _ lkf) rfl hp rfl (KX _ _ lkc) rfl hvs hfile SF.top ?_
  obtain ⟨mb, hb1, hb2⟩ := I.mod.blt
  have hboot : bootBuiltins "super" = some (.type "super") := by decide +kernel
  refine ks_loadName_global S.kind S.sup (Calls.loadGlobal_builtin (I.mod.glob.keeps I.bk) SF.nosup (hb1.keeps I.bk) ((hb2 "super" (by decide)).trans hboot) ⟨rfl, ?_⟩)
  refine wpAny_loadName_free S.kind S.cls (c := cc) (by simp [List.lookup]) ⟨_, KX _ _ lkl, rfl⟩ ?_
  obtain ⟨m, ns, hm⟩ := id I.loc
  obtain ⟨u, ru, lu⟩ := hm 0 _ _ hN hσ (.inl hself)
  obtain rfl : u = Value.ref a := ru
  have hma : m ar.arg = some (.ref a) := by
    rcases lu with ⟨_, e⟩ | ⟨k | k, _⟩
    · exact e
    · have k : scope.names.lookup ar.arg = some .cell := k
      rw [hself] at k; cases k
    · have k : scope.names.lookup ar.arg = some .free := k
      rw [hself] at k; cases k
  refine wpAny_loadName_local S.kind hself ns hma ?_
  obtain ⟨nm, q, Nn, bs, bm, sn, sub, ab, col, dd, k0, k1, k2, k3, k5, hC, hbm⟩ := T.cls
  obtain ⟨t1, ho⟩ := exo_at I.hok ea
  have hCh := KX _ _ hC
  obtain ⟨hh, g, d, t, os⟩ := s
  refine ks_wpAny_isType_cls hCh rfl ⟨rfl, ?_⟩
  refine ks_wpAny_call_super hCh rfl ho rfl (fun c z => by cases z) (looks_mroIn KX SF.sub) fun h' hso hk => ?_
  have KX' : K.In h' := KX.keeps hk
  have hcl : clsIn K C = some { name := nm, bases := bs, mro := .ref C :: bm, ns := Nn, qualname := q, hasDict := true, slotNames := sn, subclasses := sub, abstract := ab, collection := col, hasDel := false } := by unfold clsIn; rw [hC] <;> rfl
  have IA : InstAt h' a { cls := .ref C, dict := none, data := .fields #[.ref t1, .none, .none, .none, .bool false, .none] } C none := ⟨hk _ _ ho, rfl, rfl, trivial⟩
  have hsi := SF.init
  unfold ks_superIn at hsi
  rw [hcl, Option.bind_some] at hsi
  refine kxs_getMethod kxs_ValueError hso (looks_opaque KX' SF.noop) (l₀ := .ref C :: bm) ?_ rfl KX' hsi (IA.type.andThen (looks_subIn KX' SF.subV)) (ks_ne KX' IA hcl) (by decide) ?_
  · exact fun A Q E s k q => wpAny_bind ((looks_clsIn KX' hcl) A _ E s k (wpAny_pure q))
  have hk2 : ∀ b o, hh.get? b = some o → (h'.push (kxs_mw "ValueError.__init__" a)).get? b = some o := fun b o z => Heap.get?_push_of_some _ (hk b o z)
  have I2 : Inv (cxS cm CX P w K mg base N qual scope f (.ref cda) cc A outer s0 H0 E0') pins σ H ⟨h'.push (kxs_mw "ValueError.__init__" a), g, d, t + 1, os⟩ := I.kept (t' := t + 1) hk2
  have hu : (h'.push (kxs_mw "ValueError.__init__" a)).get? h'.objs.size = some (kxs_mw "ValueError.__init__" a) := Heap.get?_push_at rfl rfl
  have hsz : hh.objs.size ≤ h'.objs.size := Nat.le_of_lt (Nat.lt_of_le_of_lt (Nat.le_refl _) (Heap.lt_size hso))
  have I3 := I2.pins_of (pins' := (h'.objs.size, kxs_mw "ValueError.__init__" a) :: pins) fun p hp => by
    rcases List.mem_cons.mp hp with e | hp
    · subst e
      exact ⟨hu, I.hok.fresh hsz, fun z => absurd (Nat.lt_of_lt_of_le I.lt hsz) (by have z : h'.objs.size = _ := z; rw [z]; exact Nat.lt_irrefl _), I.nofs hsz, fun v z => by cases z⟩
    · exact I2.pin p (List.mem_append_right _ hp)
  have hev := (pa_cons he pa_nil (hs := hst)).run pos _ _ σ H (fun vs H1 => vs = [.str x] ∧ H1 = H) I3 ⟨rfl, rfl⟩
  have hst2 : starEach [e] (cxS cm CX P w K mg base N qual scope f (.ref cda) cc A outer s0 H0 E0').env = (false, eval e (cxS cm CX P w K mg base N qual scope f (.ref cda) cc A outer s0 H0 E0').env) :: starEach [] (cxS cm CX P w K mg base N qual scope f (.ref cda) cc A outer s0 H0 E0').env := hst
  rw [hst2] at hev
  show wpAny _ _ (callWith pos (.ref h'.objs.size) [] (backTo pos (starEach [e] (ksEnv qual scope s0.heap.objs.size f (.ref cda) cc))) []) _ _ _
  rw [hst]
  refine kxs_callWith (i := "ValueError.__init__") (x := a) (by rfl) ?_
  refine PySem.Calls.evalArgs_plain (thn hev fun us s1 ⟨vs, H1, I4, r1, ev, eH⟩ => ?_)
  subst ev eH
  have hu4 := (I4.pin (h'.objs.size, kxs_mw "ValueError.__init__" a) (List.mem_append_right _ (List.mem_cons_self ..))).1
  refine ⟨hu4, ?_⟩
  have I5 : Inv (cxS cm CX P w K mg base N qual scope f (.ref cda) cc A outer s0 H0 E0') pins σ H1 s1 := I4.pins_of fun p hp => I4.pin p (List.mem_append_right _ (List.mem_cons_of_mem _ hp))
  have hC5 := I5.kIn _ _ hC
  obtain ⟨t5, ho5⟩ := exo_at I5.hok ea
  obtain ⟨hh5, g5, d5, tk5, os5⟩ := s1
  have hlen : us.length = 1 := by rw [← Paired.length r1]; rfl
  refine call_bv (rest := [] ++ us) hC5 ho5 hu4 (by rw [List.nil_append, hlen, sizeLine_eq]; omega) fun h6 t6 k6 hx6 => ?_
  have J := I5.write (t' := tk5) (x := a) (e := a) (o := exo a C none) (by rw [ea]; exact True.intro) (.inl rfl) k6 ⟨_, hx6⟩ (exo_ok hx6)
  have eu : upd H1 a (exo a C none) = H1 := by
    funext b
    by_cases hb : b = a
    · rw [hb, upd_same, ea]
    · rw [upd_ne hb]
  rw [eu] at J
  exact h _ J
/-- as Fun, for a def with the free cell __class__ at cc -/
structure FunS (P : Program) (K : PySem.W.Frag) (mg : Str → Option Value) (x qual : Str) (st : Stmt) (f : Addr) (fd : FuncData) (C : Addr) (sv : Str) : Prop where
  ex : ∃ (oc : Value) (od : Option Addr) (kV doc pm : Value) (an : Option Addr) (cda cc : Addr) (ct : Value) (osl : Array (Option Value)),
    fd = ksFn x qual (defArgs st) (defBody st) (defScope st) .none kV doc pm an (.ref cda) ct cc ∧ K.lookup f = some ⟨oc, od, .func fd, osl⟩ ∧ PySem.W.codeIn K (.ref cda) qual = true ∧ SupF P K mg f cda cc C fd sv
  kp : PySem.W.keepIn K (.ref f) = true
theorem FunS.code (cm : Bool) {P : Program} {w : World} {K : PySem.W.Frag} {mg : Str → Option Value} {base : Heap} {CX : CXT} {x qual : Str} {st : Stmt} {rest : List Stmt} {f C : Addr} {fd : FuncData} {sv : Str} {N ps : List Str} {sp : Sp} {e : Expr} {z : Str} {p0 p1 ap pos spos : Pos} {pl : Sem Bool}
    (F : FunS P K mg x qual st f fd C sv) (S : SupScope N ps (defScope st)) (T : OexC K C) (hb : defBody st = .Expr (.Call (.Attribute (.Call (.Name "super" p0) [] [] p1) "__init__" ap) [e] [] pos) spos :: rest) (hN : N[0]? = some sv) (hself : (defScope st).names.lookup sv = some .local)
    (len : ∀ vs H Q E, sp vs H Q E → vs.length = ps.length)
    (hE : ∀ (X : Cx), PE X e (tC (.str z)))
    (hi : ∀ L cd cc, interactive (ksEnv qual (defScope st) L f cd cc) = false)
    (hs : ∀ L cd cc, swapsWith (.Call (.Attribute (.Call (.Name "super" p0) [] [] p1) "__init__" ap) [e] [] pos) none spos.line (ksEnv qual (defScope st) L f cd cc) = pure false)
    (hst : ∀ L cd cc, starEach [e] (ksEnv qual (defScope st) L f cd cc) = (false, eval e (ksEnv qual (defScope st) L f cd cc)) :: starEach [] (ksEnv qual (defScope st) L f cd cc))
    (ht : ∀ L cd cc, eval (.Call (.Attribute (.Call (.Name "super" p0) [] [] p1) "__init__" ap) [e] [] pos) (ksEnv qual (defScope st) L f cd cc) = (do
      let ov ← attributeBase (.Call (.Name "super" p0) [] [] p1) "__init__" (ksEnv qual (defScope st) L f cd cc) (eval (.Call (.Name "super" p0) [] [] p1) (ksEnv qual (defScope st) L f cd cc))
      standAt ap.atName
      let (fm, first) ← holding [ov] (getMethod ov "__init__" pl)
      callWith pos fm first (backTo pos (starEach [e] (ksEnv qual (defScope st) L f cd cc))) (backToKw pos (keywordEach [] (ksEnv qual (defScope st) L f cd cc)))))
    (hbody : ∀ (cda cc : Addr) (A : Around) (outer : List Env) (s : Shared) (H : Hp) (vs : List V) (Q : VK) (E : XK), sp vs H Q E →
      ∃ a, vs[0]? = some (.ref a) ∧ H a = some (exo a C none) ∧ ∃ t, PSs (cxS cm CX P w K mg base N qual (defScope st) f (.ref cda) cc A outer s H E) rest t ∧ t { nx := fun _ H' => Q .non H', rt := Q } (start N vs) H) :
    ∀ (A : Around) (outer : List Env) (s : Shared) (H : Hp) (args : Args) (us : List Value) (vs : List V) (Q : VK) (E : XK), A.depth < recursionLimit → (cm = true → A.handled = none) → Env0 P w K mg base A outer s H → BindsTo s fd args (ps.zip us) → Vals vs us → sp vs H Q E → codeAny (model P w) A (.call (.ref f) args) (CR CX outer P w H s Q E) s := by
  obtain ⟨oc, od, kV, doc, pm, an, cda, cc, ct, osl, rfl, lk, hcd, SF⟩ := F.ex
  intro A outer s H args us vs Q E hdp hcm e0 hbd r hsp
  have hl := len _ _ _ _ hsp
  have KX : K.In s.heap := e0.mod.kin.keeps fun b o e => (e0.bs b o e).1
  have lim : s.heap.NoLimit := e0.mod.nolimit.keeps fun b o e => (e0.bs b o e).1
  obtain ⟨_, _, _, lkl⟩ := SF.cell
  obtain ⟨a, ha, ea, t, ht2, hq⟩ := hbody cda cc A outer s H vs Q E hsp
  refine ks_codeAny_call_defAt hdp (KX _ _ lk) rfl lim (PySem.W.codeRec_of KX hcd) rfl hbd S.nocell (fun y hy => S.par y.1 (List.of_mem_zip (show (y.1, y.2) ∈ _ from hy)).1) (fun h₀ hns hk => ?_) S.co S.gen S.kind
  have I : Inv (cxS cm CX P w K mg base N qual (defScope st) f (.ref cda) cc A outer s H E) [] (start N vs) H { s with heap := h₀, toks := s.toks + (ps.zip us).length } := inv_sup S hcm e0 hl r lkl hns hk
  have fin : ∀ {σ' : L2.St} {H' : Hp} {v : V} {u : Value} {s' : Shared}, Inv (cxS cm CX P w K mg base N qual (defScope st) f (.ref cda) cc A outer s H E) [] σ' H' s' → RelV v u → Q v H' → CE outer P w H s Q u s' :=
    fun {σ' H' v u s'} J rv q => ⟨v, H', J.os, J.bare, J.base, J.hok, rv, q⟩
  have hσ : (start N vs)[0]? = some (some (.ref a)) := by
    have h0 : 0 < vs.length := by
      rcases Nat.eq_zero_or_pos vs.length with z | z
      · rw [List.eq_nil_of_length_eq_zero z] at ha; cases ha
      · exact z
    unfold L2.start
    rw [List.getElem?_append_left (by simpa using h0), List.getElem?_map, ha]; rfl
  rw [hb]
  refine ks_wpAt_execs_cons (sup_stmt S SF T I hN hself hσ ea (hE _) (fun s' I' => ?_) (hi _ _ _) (hs _ _ _) (hst _ _ _) (ht _ _ _))
  refine wpAt_of_wpAny (wpAny_mono (ht2.run [] s' (start N vs) H _ I' hq) (fun fl s2 hs2 => ?_) fun e s' hs => hs)
  cases fl with
  | ret u =>
    obtain ⟨v, σ', H', J, rv, q⟩ := hs2
    exact fin J rv q
  | next =>
    obtain ⟨σ', H', J, q⟩ := hs2
    exact fin (v := V.non) (u := Value.none) J rfl q
  | brk =>
    obtain ⟨_, _, _, q⟩ := hs2
    exact False.elim q
  | cont =>
    obtain ⟨_, _, _, q⟩ := hs2
    exact False.elim q
theorem FunS.ok {P : Program} {w : World} {K : PySem.W.Frag} {mg : Str → Option Value} {base : Heap} {CX : CXT} {x qual : Str} {st : Stmt} {rest : List Stmt} {f C : Addr} {fd : FuncData} {sv : Str} {N ps : List Str} {k : Nat} {sp : Sp} {e : Expr} {z : Str} {p0 p1 ap pos spos : Pos} {pl : Sem Bool}
    (F : FunS P K mg x qual st f fd C sv) (S : SupScope N ps (defScope st)) (T : OexC K C) (hb : defBody st = .Expr (.Call (.Attribute (.Call (.Name "super" p0) [] [] p1) "__init__" ap) [e] [] pos) spos :: rest) (hN : N[0]? = some sv) (hself : (defScope st).names.lookup sv = some .local)
    (len : ∀ vs H Q E, sp vs H Q E → vs.length = ps.length)
    (hE : ∀ (X : Cx), PE X e (tC (.str z)))
    (hi : ∀ L cd cc, interactive (ksEnv qual (defScope st) L f cd cc) = false)
    (hs : ∀ L cd cc, swapsWith (.Call (.Attribute (.Call (.Name "super" p0) [] [] p1) "__init__" ap) [e] [] pos) none spos.line (ksEnv qual (defScope st) L f cd cc) = pure false)
    (hst : ∀ L cd cc, starEach [e] (ksEnv qual (defScope st) L f cd cc) = (false, eval e (ksEnv qual (defScope st) L f cd cc)) :: starEach [] (ksEnv qual (defScope st) L f cd cc))
    (ht : ∀ L cd cc, eval (.Call (.Attribute (.Call (.Name "super" p0) [] [] p1) "__init__" ap) [e] [] pos) (ksEnv qual (defScope st) L f cd cc) = (do
      let ov ← attributeBase (.Call (.Name "super" p0) [] [] p1) "__init__" (ksEnv qual (defScope st) L f cd cc) (eval (.Call (.Name "super" p0) [] [] p1) (ksEnv qual (defScope st) L f cd cc))
      standAt ap.atName
      let (fm, first) ← holding [ov] (getMethod ov "__init__" pl)
      callWith pos fm first (backTo pos (starEach [e] (ksEnv qual (defScope st) L f cd cc))) (backToKw pos (keywordEach [] (ksEnv qual (defScope st) L f cd cc)))))
    (hbody : ∀ (cda cc : Addr) (A : Around) (outer : List Env) (s : Shared) (H : Hp) (vs : List V) (Q : VK) (E : XK), sp vs H Q E →
      ∃ a, vs[0]? = some (.ref a) ∧ H a = some (exo a C none) ∧ ∃ t, PSs (cxS true CX P w K mg base N qual (defScope st) f (.ref cda) cc A outer s H E) rest t ∧ t { nx := fun _ H' => Q .non H', rt := Q } (start N vs) H) :
    FnOk P w K mg base CX (k + 1) f fd ps sp :=
  ⟨len, fun A outer s H args us vs Q E hr e0 hbd r hsp => FunS.code true F S T hb hN hself len hE hi hs hst ht hbody A outer s H args us vs Q E hr.depth (fun _ => hr.hd) e0 hbd r hsp⟩
/-- how its arguments bind (no defaults) -/
theorem FunS.binds {P : Program} {K : PySem.W.Frag} {mg : Str → Option Value} {x qual : Str} {st : Stmt} {f C : Addr} {fd : FuncData} {sv : Str} {ps : List Str} (F : FunS P K mg x qual st f fd C sv)
    (h : ∀ (kV doc pm : Value) (an : Option Addr) (cda cc : Addr) (ct : Value) (us : List Value), us.length = ps.length → bindArgs (ksFn x qual (defArgs st) (defBody st) (defScope st) .none kV doc pm an (.ref cda) ct cc) ⟨us, []⟩ = pure (ps.zip us)) : Binds K fd ps [] := by
  obtain ⟨oc, od, kV, doc, pm, an, cda, cc, ct, osl, rfl, lk, hcd, SF⟩ := F.ex
  exact .all (h kV doc pm an cda cc ct)
end
end Vc

/-! Exc: own errors raised with their fields, asked and read in a suite; calls of instances that may raise (my own, over HandS' rules for exceptions). -/
namespace Vc
open PySem PySem.Spec PyProof.Rows L2
/-! ### __init__ of an error with one field, with two -/
def spErr1 (C : Addr) (f : Str) : Sp := fun vs H Q _ => ∃ (a : Addr) (v : V), vs = [.ref a, v] ∧ H a = some (exo a C none) ∧ ∀ d, H d = none → d ≠ a → Q .non (upd (upd H d (exd d [(f, v)])) a (exo a C (some d)))
def spErr2 (C : Addr) (f g : Str) : Sp := fun vs H Q _ => ∃ (a : Addr) (v u : V), vs = [.ref a, v, u] ∧ H a = some (exo a C none) ∧ ∀ d, H d = none → d ≠ a → Q .non (upd (upd (upd H d (exd d [(f, v)])) a (exo a C (some d))) d (exd d [(g, u), (f, v)]))
/-- what X(v) leaves, in one word -/
theorem mk_err {C : Addr} {fs : List (Str × V)} {H1 H2 : Hp} {Q : XK} {a d : Addr} (na : H1 a = none) (nd : H1 d = none) (ne : d ≠ a) (hx : ∀ b, b ≠ a → b ≠ d → H2 b = H1 b)
    (q : ∀ d H', H1 d = none → Ed [] H1 H' → H' d = some (.xd fs) → Q (.ref C) (some d) H') : Q (.ref C) (some d) (upd (del H2 a) d (.xd fs)) := by
  have keep : ∀ b o, H1 b = some o → (upd (del H2 a) d (.xd fs)) b = some o := fun b o e => by
    have ha : b ≠ a := ne_of_none e na
    have hd : b ≠ d := ne_of_none e nd
    rw [upd_ne hd, del_ne ha, hx b ha hd]; exact e
  refine q d _ nd ⟨fun b o _ e => keep b o e, fun b xs e => keep b _ e, fun b o u e => keep b _ e, fun b e => ?_⟩ upd_same
  by_cases hd : b = d
  · rw [hd, upd_same] at e; cases e
  · rw [upd_ne hd] at e
    by_cases ha : b = a
    · rw [ha]; exact na
    · rw [del_ne ha, hx b ha hd] at e; exact e
theorem go_err1 {C : Addr} {f : Str} {v : V} {H1 : Hp} {Q : XK} (q : ∀ d H', H1 d = none → Ed [] H1 H' → H' d = some (.xd [(f, v)]) → Q (.ref C) (some d) H') :
    [v].length ≤ 1000 ∧ ∀ a, H1 a = none → spErr1 C f (.ref a :: ([v] ++ [])) (upd H1 a (exo a C none)) (fun v' H2 => v' = .non ∧ ∃ (d : Addr) (fs : List (Str × V)), H2 a = some (exo a C (some d)) ∧ H2 d = some (exd d fs) ∧ H1 d = none ∧ Q (.ref C) (some d) (upd (del H2 a) d (.xd fs))) (fun _ _ _ => False) := by
  refine ⟨by show 1 ≤ 1000; decide, fun a na => ⟨a, v, rfl, upd_same, fun d nd ne => ⟨rfl, d, [(f, v)], upd_same, ?_, ?_, ?_⟩⟩⟩
  · rw [upd_ne ne]; exact upd_same
  · rw [upd_ne ne] at nd; exact nd
  · refine mk_err na (by rw [upd_ne ne] at nd; exact nd) ne (fun b h1 h2 => ?_) q
    rw [upd_ne h1, upd_ne h2, upd_ne h1]
theorem go_err2 {C : Addr} {f g : Str} {v u : V} {H1 : Hp} {Q : XK} (q : ∀ d H', H1 d = none → Ed [] H1 H' → H' d = some (.xd [(g, u), (f, v)]) → Q (.ref C) (some d) H') :
    [v, u].length ≤ 1000 ∧ ∀ a, H1 a = none → spErr2 C f g (.ref a :: ([v, u] ++ [])) (upd H1 a (exo a C none)) (fun v' H2 => v' = .non ∧ ∃ (d : Addr) (fs : List (Str × V)), H2 a = some (exo a C (some d)) ∧ H2 d = some (exd d fs) ∧ H1 d = none ∧ Q (.ref C) (some d) (upd (del H2 a) d (.xd fs))) (fun _ _ _ => False) := by
  refine ⟨by show 2 ≤ 1000; decide, fun a na => ⟨a, v, u, rfl, upd_same, fun d nd ne => ⟨rfl, d, [(g, u), (f, v)], ?_, upd_same, ?_, ?_⟩⟩⟩
  · rw [upd_ne ne.symm]; exact upd_same
  · rw [upd_ne ne] at nd; exact nd
  · refine mk_err na (by rw [upd_ne ne] at nd; exact nd) ne (fun b h1 h2 => ?_) q
    rw [upd_ne h2, upd_ne h1, upd_ne h2, upd_ne h1]
theorem go_mkO {C : Addr} {sp : Sp} {ta : TA} {σ : L2.St} {H : Hp} {Q : XK} (h : ta σ H fun vs H1 => vs.length ≤ 1000 ∧ ∀ a, H1 a = none → sp (.ref a :: (vs ++ [])) (upd H1 a (exo a C none))
  (fun v H2 => v = .non ∧ ∃ (d : Addr) (fs : List (Str × V)), H2 a = some (exo a C (some d)) ∧ H2 d = some (exd d fs) ∧ H1 d = none ∧ Q (.ref C) (some d) (upd (del H2 a) d (.xd fs))) (fun _ _ _ => False)) : tMkO C sp [] ta σ H Q := h
/-- raise X(..) -/
theorem go_raise {t : L2.St → Hp → XK → Prop} {W : WX} {D : Ends} {σ : L2.St} {H : Hp} (h : t σ H fun cls d H' => W cls d σ H') : (fun (_ : Ends) σ H => t σ H fun cls d H' => W cls d σ H') D σ H := h
/-- self.f = e, the first; a further one -/
theorem go_ost {K : PySem.W.Frag} {f : Str} {to te : TE} {D : Ends} {σ : L2.St} {H : Hp} (h : te σ H fun y H1 => to σ H1 fun x H2 => ∃ a C : Addr, x = .ref a ∧ OexC K C ∧ PySem.W.findIn K (.ref C) f = some none ∧
  ((H2 a = some (exo a C none) ∧ ∀ dx, H2 dx = none → dx ≠ a → D.nx σ (upd (upd H2 dx (exd dx [(f, y)])) a (exo a C (some dx)))) ∨
    ∃ (dx : Addr) (fs : List (Str × V)), H2 a = some (exo a C (some dx)) ∧ H2 dx = some (exd dx fs) ∧ fs.length ≤ 900 ∧ D.nx σ (upd H2 dx (exd dx ((f, y) :: fs))))) : tOst K f to te D σ H := h
theorem err_ends1 {K : PySem.W.Frag} {C : Addr} {f : Str} {vs : List V} {H : Hp} {Q : VK} {E : XK} {N : List Str} (T : OexC K C) (no : PySem.W.findIn K (.ref C) f = some none) (h : spErr1 C f vs H Q E) :
    ∃ a, vs[0]? = some (.ref a) ∧ H a = some (exo a C none) ∧ tOst K f (tVar 0) (tVar 1) { nx := fun _ H' => Q .non H', rt := Q } (start N vs) H := by
  obtain ⟨a, v, rfl, ea, q⟩ := h
  exact ⟨a, rfl, ea, v, rfl, .ref a, rfl, a, C, rfl, T, no, .inl ⟨ea, q⟩⟩
theorem err_ends2 {K : PySem.W.Frag} {C : Addr} {f g : Str} {vs : List V} {H : Hp} {Q : VK} {E : XK} {N : List Str} (T : OexC K C) (no : PySem.W.findIn K (.ref C) f = some none) (no2 : PySem.W.findIn K (.ref C) g = some none) (h : spErr2 C f g vs H Q E) :
    ∃ a, vs[0]? = some (.ref a) ∧ H a = some (exo a C none) ∧ tSeq (tOst K f (tVar 0) (tVar 1)) (tOst K g (tVar 0) (tVar 2)) { nx := fun _ H' => Q .non H', rt := Q } (start N vs) H := by
  obtain ⟨a, v, u, rfl, ea, q⟩ := h
  refine ⟨a, rfl, ea, v, rfl, .ref a, rfl, a, C, rfl, T, no, .inl ⟨ea, fun d nd ne => ?_⟩⟩
  exact ⟨u, rfl, .ref a, rfl, a, C, rfl, T, no2, .inr ⟨d, _, upd_same, by rw [upd_ne ne]; exact upd_same, by show 1 ≤ 900; decide, q d nd ne⟩⟩
/-! ### in a suite: isinstance of the error, its fields -/
/-- at d stands the dict of the error -/
def XdAt (H : Hp) (d : Option Addr) : Prop := d = none ∨ ∃ dd fs, d = some dd ∧ H dd = some (.xd fs)
def rIsX (K : PySem.W.Frag) (a : Addr) (cls : Value) (d : Option Addr) : List V → Hp → VK → Prop := fun xs H Q => ∃ (D : Addr) (c : V) (cv : Value) (b : Bool), cls = .ref D ∧ ExcC K D ∧ XdAt H d ∧ xs = [.ref a, c] ∧ (∀ u, RelV c u → u = cv) ∧ PySem.W.kitOne K (.ref D) cv = some b ∧ Q (.bl b) H
theorem call_isX {X : Cx} {a : Addr} {cls : Value} {d : Option Addr} {oe : Obj} {pn : List (Addr × Obj)} (hz : Zc cls d oe) (hf : ∃ vs, oe.data = .fields vs) : CallR (X.suite a ((a, oe) :: pn)) (.builtin "isinstance") (rIsX X.K a cls d) := by
  intro pins s σ H xs us Q I r h
  obtain ⟨D, c, cv, b, rfl, C, hd, rfl, hcv, e, q⟩ := h
  cases r with
  | cons rx rr =>
    cases rr with
    | cons rt rr =>
      cases rr
      cases rx
      have ec := hcv _ rt
      subst ec
      obtain ⟨hget, _⟩ := I.pin (a, oe) (List.mem_append.mpr (.inl List.mem_cons_self))
      obtain ⟨vs, hv⟩ := hf
      obtain ⟨oc, od, oda, osl⟩ := oe
      obtain ⟨h1, h2⟩ := hz
      dsimp only at h1 h2 hv
      subst h1 h2 hv
      have hsome : (PySem.W.clsIn X.K D).isSome = true := by obtain ⟨cd, hc, _⟩ := PySem.W.any_some C.hd; rw [hc]; rfl
      rcases hd with hd | ⟨dd, fs, hd, hxd⟩
      · subst hd
        have J : PySem.W.InstAt s.heap a { cls := .ref D, dict := none, data := .fields vs, slots := osl } D none := ⟨hget, rfl, rfl, trivial⟩
        exact PySem.W.kia_one (PySem.W.handS_kitx_exc C.hg C.hk C.hs C.hd C.ha C.hn C.ht C.hm) I.kIn J e (fun z => nomatch z) fun tk => ⟨.bl b, H, I.kept (t' := tk) fun _ _ z => z, rfl, q⟩
      · subst hd
        have hx : ObjOk X.prog X.w H s.heap dd (.xd fs) := I.hok dd _ hxd
        obtain ⟨mA, hns, hr⟩ := hx
        obtain ⟨odo, ho, hl⟩ := lookIn_ns hns
        have J : PySem.W.InstAt s.heap a { cls := .ref D, dict := some dd, data := .fields vs, slots := osl } D (some odo) := ⟨hget, rfl, rfl, ho⟩
        exact PySem.W.kia_one (PySem.W.kitx_exc hsome C.hg C.hk C.hs C.ha C.hn C.ht C.hm) I.kIn J e (fun z => nomatch z) fun tk => ⟨.bl b, H, I.kept (t' := tk) fun _ _ z => z, rfl, q⟩
section
variable {K : PySem.W.Frag} {a D : Addr} {d : Option Addr} {H : Hp} {Q : VK} {b : Bool}
theorem go_isXC {c : Addr} (C : ExcC K D) (hd : XdAt H d) (hk : PySem.W.kitOne K (.ref D) (.ref c) = some b) (q : Q (.bl b) H) : rIsX K a (.ref D) d [.ref a, .ref c] H Q :=
  ⟨D, .ref c, .ref c, b, rfl, C, hd, rfl, fun _ r => r, hk, q⟩
theorem go_isXT {t : String} (C : ExcC K D) (hd : XdAt H d) (hk : PySem.W.kitOne K (.ref D) (.type t) = some b) (q : Q (.bl b) H) : rIsX K a (.ref D) d [.ref a, .ty t] H Q :=
  ⟨D, .ty t, .type t, b, rfl, C, hd, rfl, fun _ r => r, hk, q⟩
theorem go_xf {C : Addr} {f : Str} {te : TE} {σ : L2.St} {cls : Value} (h : te σ H fun x H1 => x = .ref a ∧ cls = .ref C ∧ ∃ (dd : Addr) (fs : List (Str × V)) (v : V), d = some dd ∧ H1 dd = some (.xd fs) ∧ fs.lookup f = some v ∧ Q v H1) : tXf a cls d C f te σ H Q := h
theorem go_xfV {f : Str} {dd : Addr} {fs : List (Str × V)} {v : V} {R : V → Prop} (e : H dd = some (.xd fs)) (l : fs.lookup f = some v) (h : R v) :
    V.ref a = .ref a ∧ (Value.ref D) = .ref D ∧ ∃ (d' : Addr) (fs : List (Str × V)) (v : V), some dd = some d' ∧ H d' = some (.xd fs) ∧ fs.lookup f = some v ∧ R v := ⟨rfl, rfl, dd, fs, v, rfl, e, l, h⟩
theorem xdAt {dd : Addr} {fs : List (Str × V)} (e : H dd = some (.xd fs)) : XdAt H (some dd) := .inr ⟨dd, fs, rfl, e⟩
end
/-! ### an instance called; what is raised is wished for at the caller's slots -/
section
variable {X : Cx} {CX : CXT} {k : Nat} {C g : Addr} {fd : FuncData} {ps ks : List Str} {sp : Sp} {E : L2.St → XK} {pos : Pos} {fe e : Expr} {es : List Expr} {tf : TE} {t tk : TA} {kws : List Keyword} {gk : List Value → List Value → List Value} {gV : List V → List V → List V}
def InsD (H : Hp) (a C : Addr) : Prop := ∃ dx fs, H a = some (.ins C dx fs)
theorem insD_at {pins : List (Addr × Obj)} {σ : L2.St} {H : Hp} {s : Shared} {a : Addr} (I : Inv X pins σ H s) (h : InsD H a C) : ∃ ox od, PySem.W.InstAt s.heap a ox C od ∧ ox.data = .plain := by
  obtain ⟨dx, fs, h⟩ := h
  obtain ⟨mA, O, _⟩ := ins_get I.hok h
  obtain ⟨od, J, _⟩ := O.look
  exact ⟨_, _, J, rfl⟩
def tCallI (C : Addr) (sp : Sp) (E : L2.St → XK) (tf : TE) (t : TA) : TE := fun σ H Q => tf σ H fun y H1 => ∃ a, y = V.ref a ∧ t σ H1 fun vs H2 => InsD H2 a C ∧ sp (V.ref a :: vs) H2 Q (E σ)
theorem run_callI {pins : List (Addr × Obj)} {σ : L2.St} {H : Hp} {s : Shared} {Q : VK} {a : Addr} {us : List Value} {vs : List V} (c : StX.CallO X.K C g) (F : FnOk X.prog X.w X.K X.mg X.base CX k g fd ps sp) (hr : Room k X.A) (hb : Binds X.K fd ps []) (hx : ∀ σ, PassesAt CX X σ (E σ)) (I : Inv X pins σ H s) (hi : InsD H a C) (r : Vals vs us)
    (h : sp (V.ref a :: vs) H Q (E σ)) : wpAny (model X.prog X.w) X.A (call (.ref a) us) (EP X pins σ Q) X.xe s := by
  obtain ⟨ox, od, J, hd⟩ := insD_at I hi
  have h2 : sp ((V.ref a :: vs) ++ []) H Q (E σ) := by rw [List.append_nil]; exact h
  have hl : (Value.ref a :: us).length = ps.length := by
    have r2 : Vals (V.ref a :: vs) (Value.ref a :: us) := .cons rfl r
    rw [← r2.length]; exact F.len _ _ _ _ h
  have hb' := hb s (.ref a :: us) I.kIn (by rw [List.append_nil]; exact hl)
  rw [List.append_nil] at hb'
  refine wpAny_call (PySem.W.kco_code I.kIn J hd c.at_ c.fn c.fi (codeAny_mono (F.run X.A X.stack s H ⟨.ref a :: us, []⟩ (.ref a :: us) (.ref a :: vs) Q (E σ) hr I.env0 hb' (.cons rfl r) h) fun r s' hq => ?_))
  cases r with
  | error e => exact hx σ pins H s e s' I hq
  | ok fl =>
    cases fl with
    | ret u => exact I.after hq
    | next => exact False.elim hq
    | brk => exact False.elim hq
    | cont => exact False.elim hq
theorem pe_callI (hf : PE X fe tf) (c : StX.CallO X.K C g) (F : FnOk X.prog X.w X.K X.mg X.base CX k g fd ps sp) (hr : Room k X.A) (hb : Binds X.K fd ps []) (hx : ∀ σ, PassesAt CX X σ (E σ)) (ha : PA X (e :: es) t)
    (ht : eval (.Call fe (e :: es) [] pos) X.env = (do callWith pos (← eval fe X.env) [] (backTo pos (starEach (e :: es) X.env)) (backToKw pos (keywordEach [] X.env))) := by rfl)
    (he : starEach (e :: es) X.env = (false, eval e X.env) :: starEach es X.env := by rfl) (hpl : (backTo pos (starEach es X.env)).any (·.1) = false := by rfl) : PE X (.Call fe (e :: es) [] pos) (tCallI C sp E tf t) := by
  refine ⟨fun pins s σ H Q I h => ?_⟩
  refine Call_ (thn (hf.run pins s σ H _ I h) fun u s1 ⟨y, H1, I1, ry, a, ey, q⟩ => ?_) ht
  subst ey
  obtain rfl : u = Value.ref a := ry
  refine StX.callO_with (thn (ha.run pos pins s1 σ H1 _ I1 q) fun us s2 ⟨vs, H2, I2, r, hi, q2⟩ => ?_) he hpl
  obtain ⟨ox, od, J, hd⟩ := insD_at I2 hi
  exact ⟨⟨C, ox, od, J, hd⟩, run_callI c F hr hb hx I2 hi r q2⟩
end
section
variable {σ : L2.St} {H : Hp} {Q : VK} {tf : TE} {ts : TA} {C : Addr} {sp : Sp} {E : L2.St → XK}
theorem go_callI (h : tf σ H fun y H1 => ∃ a, y = V.ref a ∧ ts σ H1 fun vs H2 => InsD H2 a C ∧ sp (V.ref a :: vs) H2 Q (E σ)) : tCallI C sp E tf ts σ H Q := h
theorem go_insD {a dx : Addr} {fs : List (Str × V)} {P : Prop} (e : H a = some (.ins C dx fs)) (h : P) : InsD H a C ∧ P := ⟨⟨dx, fs, e⟩, h⟩
theorem go_refE {a : Addr} {P : Addr → Prop} (h : P a) : ∃ a', V.ref a = .ref a' ∧ P a' := ⟨a, rfl, h⟩
end
/-! ### what is raised is wished for at the caller's slots: methods, instances made, keywords -/
theorem passS0 {X : Cx} {E : L2.St → XK} : ∀ σ, PassesAt CX0 X σ (E σ) := fun _ _ _ _ _ _ _ h => h.elim
theorem passSL {X : Cx} : ∀ σ, PassesAt (L2.CX X.prog X.w) X σ ((fun (_ : L2.St) => E0) σ) := fun σ pins H s e s' I h => passL pins σ H s e s' I h
section
variable {X : Cx} {CX : CXT} {k : Nat} {C f g : Addr} {fd : FuncData} {ps ks : List Str} {sp : Sp} {E : L2.St → XK} {x m : Str} {p pos apos : Pos} {fe e o : Expr} {es : List Expr} {tf ta : TE} {t tk : TA} {kws : List Keyword} {gk : List Value → List Value → List Value} {gV : List V → List V → List V}
def tMethS (C : Addr) (m : Str) (sp : Sp) (E : L2.St → XK) (ta : TE) (t : TA) : TE := fun σ H Q => ta σ H fun x H1 => ∃ a dx fs, x = .ref a ∧ H1 a = some (.ins C dx fs) ∧ fs.lookup m = none ∧ t σ H1 fun vs H2 => sp (x :: vs) H2 Q (E σ)
theorem pe_methS {pl : Sem Bool} (he : PE X o ta) (c : Cls X.K C) (hm : Meth X.K C m f) (F : FnOk X.prog X.w X.K X.mg X.base CX k f fd ps sp) (hr : Room k X.A) (hb : Binds X.K fd ps []) (hx : ∀ σ, PassesAt CX X σ (E σ)) (ha : PA X (e :: es) t)
    (hst : starEach (e :: es) X.env = (false, eval e X.env) :: starEach es X.env := by rfl) (hpl : (backTo pos (starEach es X.env)).any (·.1) = false := by rfl)
    (ht : eval (.Call (.Attribute o m apos) (e :: es) [] pos) X.env = (do
      let ov ← eval o X.env
      standAt apos.atName
      let (f, first) ← holding [ov] (getMethod ov m pl)
      callWith pos f first (backTo pos (starEach (e :: es) X.env)) (backToKw pos (keywordEach [] X.env))) := by rfl) :
    PE X (.Call (.Attribute o m apos) (e :: es) [] pos) (tMethS C m sp E ta t) := by
  refine ⟨fun pins s σ H Q I h => ?_⟩
  refine PySem.W.methodCall_KW (pl := pl) (thn (he.run pins s σ H _ I h) fun u s1 ⟨x, H1, I1, rx, a, dx, fs, ex, ea, l, q⟩ => ?_) ht
  subst ex
  obtain rfl : u = Value.ref a := rx
  refine getmeth_ok I1 ea c hm l ?_
  refine PySem.W.callWith_K (first := [.ref a]) (h₀ := X.base) I.ok.mod.kin hm.kp (thn (ha.run pos pins s1 σ H1 _ I1 q) fun us s2 ⟨vs, H2, I2, r, q2⟩ => ⟨I2.kIn, ?_⟩) hst hpl
  exact run_fnS (us := .ref a :: us) (vs := .ref a :: vs) F hr hb (hx σ) I2 (.cons rfl r) q2
theorem pe_methS0 {pl : Sem Bool} (he : PE X o ta) (c : Cls X.K C) (hm : Meth X.K C m f) (F : FnOk X.prog X.w X.K X.mg X.base CX k f fd ps sp) (hr : Room k X.A) (hb : Binds X.K fd ps []) (hx : ∀ σ, PassesAt CX X σ (E σ))
    (ht : eval (.Call (.Attribute o m apos) [] [] pos) X.env = (do
      let ov ← eval o X.env
      standAt apos.atName
      let (f, first) ← holding [ov] (getMethod ov m pl)
      callWith pos f first (backTo pos (starEach [] X.env)) (backToKw pos (keywordEach [] X.env))) := by rfl) :
    PE X (.Call (.Attribute o m apos) [] [] pos) (tMethS C m sp E ta tNil) := by
  refine ⟨fun pins s σ H Q I h => ?_⟩
  refine PySem.W.methodCall_KW (pl := pl) (thn (he.run pins s σ H _ I h) fun u s1 ⟨x, H1, I1, rx, a, dx, fs, ex, ea, l, q⟩ => ?_) ht
  subst ex
  obtain rfl : u = Value.ref a := rx
  refine getmeth_ok I1 ea c hm l ?_
  exact PySem.W.callWith_K0 (first := [.ref a]) I1.kIn hm.kp (run_fnS (us := [.ref a]) (vs := [.ref a]) F hr hb (hx σ) I1 (.cons rfl .nil) q)
def tMakeS (C : Addr) (sp : Sp) (E : L2.St → XK) (t : TA) : TE := fun σ H Q => t σ H fun vs H1 => ∀ x dx, H1 x = none → H1 dx = none → dx ≠ x → sp (.ref x :: vs) (upd (upd H1 dx (.own x)) x (.ins C dx [])) (fun v H2 => v = .non ∧ Q (.ref x) H2) (E σ)
theorem run_makeS {pins : List (Addr × Obj)} {σ : L2.St} {H : Hp} {s : Shared} {Q : VK} {us : List Value} {vs : List V} (M : Mk X.K C f) (F : FnOk X.prog X.w X.K X.mg X.base CX k f fd ps sp) (hr : Room (k + 1) X.A) (hb : Binds X.K fd ps [])
    (hx : PassesAt CX X σ (E σ)) (I : Inv X pins σ H s) (r : Vals vs us)
    (h : ∀ x dx, H x = none → H dx = none → dx ≠ x → sp (.ref x :: vs) (upd (upd H dx (.own x)) x (.ins C dx [])) (fun v H2 => v = .non ∧ Q (.ref x) H2) (E σ)) :
    wpAny (model X.prog X.w) X.A (call (.ref C) us) (EP X pins σ Q) X.xe s := by
  have hq := h (s.heap.objs.size + 1) s.heap.objs.size (I.hok.fresh (Nat.le_succ _)) (I.hok.fresh (Nat.le_refl _)) (Nat.ne_of_lt (Nat.lt_succ_self _))
  have I2 := Inv.made (C := C) I
  have r2 : Vals (V.ref (s.heap.objs.size + 1) :: vs) (Value.ref (s.heap.objs.size + 1) :: us) := .cons rfl r
  have hl : (Value.ref (s.heap.objs.size + 1) :: us).length = ps.length := by
    have e := r2.length
    rw [F.len _ _ _ _ hq] at e
    exact e.symm
  have hb' := hb _ (Value.ref (s.heap.objs.size + 1) :: us) I2.kIn (by rw [List.append_nil]; exact hl)
  rw [List.append_nil] at hb'
  refine wpAny_call (make_map (f := f) I.kIn M.makes M.init (beq_iff_eq.mp M.fn) (codeAny_mono (F.run _ X.stack _ _ ⟨Value.ref (s.heap.objs.size + 1) :: us, []⟩ (Value.ref (s.heap.objs.size + 1) :: us) _ _ (E σ) (hr.make C us [])
    (I2.env0.make C us []) hb' r2 hq) fun r s' hq' => ?_))
  cases r with
  | error e => exact hx pins _ _ e s' I2 hq'
  | ok fl =>
    cases fl with
    | ret u =>
      obtain ⟨v, H', I3, rv, ev, q3⟩ := I2.after hq'
      subst ev
      exact ⟨rv, ⟨V.ref (s.heap.objs.size + 1), H', I3, rfl, q3⟩⟩
    | next => exact False.elim hq'
    | brk => exact False.elim hq'
    | cont => exact False.elim hq'
theorem pe_makeS (M : Mk X.K C f) (F : FnOk X.prog X.w X.K X.mg X.base CX k f fd ps sp) (hr : Room (k + 1) X.A) (hg : Gl X x) (hm : X.mg x = some (.ref C)) (hb : Binds X.K fd ps []) (hx : ∀ σ, PassesAt CX X σ (E σ))
    (ha : PA X (e :: es) t) (hdb : (x == ("__debug__" : Str)) = false := by decide) (he : starEach (e :: es) X.env = (false, eval e X.env) :: starEach es X.env := by rfl) (hpl : (backTo pos (starEach es X.env)).any (·.1) = false := by rfl) :
    PE X (.Call (.Name x p) (e :: es) [] pos) (tMakeS C sp E t) := by
  refine ⟨fun pins s σ H Q I h => ?_⟩
  refine wpAny_Call_Name_kw (ld_glob I hg hm ?_ hdb)
  refine PySem.W.callWith_K (h₀ := X.base) I.ok.mod.kin M.kp (thn (ha.run pos pins s σ H _ I h) fun us s1 ⟨vs, H1, I1, r, q⟩ => ⟨I1.kIn, ?_⟩) he hpl
  exact run_makeS M F hr hb (hx σ) I1 r q
/-- f(k = v, ..), f an instance -/
def tCallIK (C : Addr) (sp : Sp) (gV : List V → List V → List V) (E : L2.St → XK) (tf : TE) (tk : TA) : TE := fun σ H Q => tf σ H fun y H1 => ∃ a, y = V.ref a ∧ tk σ H1 fun zs H2 => InsD H2 a C ∧ sp (gV [V.ref a] zs) H2 Q (E σ)
theorem callK_of {M : Model} {A : Around} {E : Value → Shared → Prop} {s : Shared} {a : Addr} {pos : Pos} {Q : Value → Shared → Prop} {args : List (Bool × Sem Value)} {kw : List (Option Str × Sem Value)} (hplain : (args.any (·.1) || kw.any (·.1.isNone)) = false)
    (h : wpAny M A (evalArgs (.ref a) true args kw) (fun z s₁ => (∃ C ox od, PySem.W.InstAt s₁.heap a ox C od ∧ ox.data = .plain) ∧ wpAny M A (call (.ref a) ([] ++ z.pos) z.kw) Q E s₁) E s) : wpAny M A (callWith pos (.ref a) [] args kw) Q E s := by
  unfold callWith
  refine wpAny_bind (wpAny_holding (wpAny_mono h (fun z s₁ h₁ => wpAny_bind (wpAny_standAt ?_)) fun _ _ y => y))
  obtain ⟨⟨C, ox, od, J, hd⟩, h₁⟩ := h₁
  have L := PySem.W.kco_keeper (M := M) J hd
  simp only [hplain]
  refine wpAny_bind (L.here ?_)
  have tail : ∀ {t : Sem Value}, wpAny M A t Q E s₁ → wpAny M A (t >>= fun r => holding [r] point >>= fun _ => pure r) Q E s₁ :=
    fun ht => wpAny_bind (wpAny_mono ht (fun r s₂ hr => wpAny_bind (wpAny_holding (wpAny_point (wpAny_pure hr)))) fun _ _ y => y)
  exact tail (wpAny_operateT h₁)
theorem pe_callIK (hf : PE X fe tf) (c : StX.CallO X.K C g) (F : FnOk X.prog X.w X.K X.mg X.base CX k g fd ps sp) (hr : Room k X.A) (hb : KBinds X.K fd ps ks gk gV) (hx : ∀ σ, PassesAt CX X σ (E σ)) (hkw : PK X kws tk)
    (hall : (backToKw pos (keywordEach kws X.env)).all (·.1.isSome) = true := by rfl) (hks : (backToKw pos (keywordEach kws X.env)).filterMap (·.1) = ks := by rfl)
    (hpl : ((backTo pos (starEach [] X.env)).any (·.1) || (backToKw pos (keywordEach kws X.env)).any (·.1.isNone)) = false := by rfl)
    (ht : eval (.Call fe [] kws pos) X.env = (do callWith pos (← eval fe X.env) [] (backTo pos (starEach [] X.env)) (backToKw pos (keywordEach kws X.env))) := by rfl) : PE X (.Call fe [] kws pos) (tCallIK C sp gV E tf tk) := by
  refine ⟨fun pins s σ H Q I h => ?_⟩
  rw [ht]
  refine wpAny_bind (thn (hf.run pins s σ H _ I h) fun u s1 ⟨y, H1, I1, ry, a, ey, q⟩ => ?_)
  subst ey
  obtain rfl : u = Value.ref a := ry
  refine callK_of hpl (PyProof.Rows.evalArgs_kw2_nil hall (thn (hkw.run pos pins s1 σ H1 _ I1 q) fun ws s2 ⟨zs, H2, I2, r, hi, q2⟩ => ?_))
  rw [hks]
  obtain ⟨ox, od, J, hd⟩ := insD_at I2 hi
  have r2 := hb.rel (us := [Value.ref a]) (vs := [V.ref a]) (.cons rfl .nil) r
  have hl : (gk [Value.ref a] ws).length = ps.length := by rw [← r2.length]; exact F.len _ _ _ _ q2
  refine ⟨⟨C, ox, od, J, hd⟩, wpAny_call (PySem.W.kco_code I2.kIn J hd c.at_ c.fn c.fi (codeAny_mono (F.run X.A X.stack s2 H2 ⟨[.ref a], ks.zip ws⟩ (gk [.ref a] ws) (gV [.ref a] zs) Q (E σ) hr I2.env0 (hb.to s2 [.ref a] ws I2.kIn hl) r2 q2) fun r s' hq => ?_))⟩
  cases r with
  | error e => exact hx σ pins H2 s2 e s' I2 hq
  | ok fl =>
    cases fl with
    | ret u => exact I2.after hq
    | next => exact False.elim hq
    | brk => exact False.elim hq
    | cont => exact False.elim hq
end
section
variable {σ : L2.St} {H : Hp} {Q : VK} {tf ta : TE} {ts tk : TA} {C : Addr} {m : Str} {sp : Sp} {E : L2.St → XK} {gV : List V → List V → List V}
theorem go_methS (h : ta σ H fun x H1 => ∃ a dx fs, x = .ref a ∧ H1 a = some (.ins C dx fs) ∧ fs.lookup m = none ∧ ts σ H1 fun vs H2 => sp (x :: vs) H2 Q (E σ)) : tMethS C m sp E ta ts σ H Q := h
theorem go_makeS (h : ts σ H fun vs H1 => ∀ x dx, H1 x = none → H1 dx = none → dx ≠ x → sp (.ref x :: vs) (upd (upd H1 dx (.own x)) x (.ins C dx [])) (fun v H2 => v = .non ∧ Q (.ref x) H2) (E σ)) : tMakeS C sp E ts σ H Q := h
theorem go_callIK (h : tf σ H fun y H1 => ∃ a, y = V.ref a ∧ tk σ H1 fun zs H2 => InsD H2 a C ∧ sp (gV [V.ref a] zs) H2 Q (E σ)) : tCallIK C sp gV E tf tk σ H Q := h
theorem go_callS (h : ts σ H fun vs H1 => sp vs H1 Q (E σ)) : tCallS sp E ts σ H Q := h
end
/-- the error's field, whatever its class -/
def tXfX (K : PySem.W.Frag) (a : Addr) (cls : Value) (d : Option Addr) (f : Str) (te : TE) : TE := fun σ H Q => te σ H fun x H1 => x = .ref a ∧ ∃ C, cls = .ref C ∧ XfC K C ∧ PySem.W.findIn K (.ref C) f = some none ∧ ∃ (dd : Addr) (fs : List (Str × V)) (v : V), d = some dd ∧ H1 dd = some (.xd fs) ∧ fs.lookup f = some v ∧ Q v H1
theorem pe_xfX {X : Cx} {a : Addr} {oe : Obj} {cls : Value} {d : Option Addr} {pn : List (Addr × Obj)} {e : Expr} {te : TE} {pos : Pos} {n : Str} (hz : Zc cls d oe) (hf : ∃ vs, oe.data = .fields vs) (he : PE (X.suite a ((a, oe) :: pn)) e te) (hb : attributeBase e n X.env (eval e X.env) = eval e X.env := by rfl) :
    PE (X.suite a ((a, oe) :: pn)) (.Attribute e n pos) (tXfX X.K a cls d n te) := by
  refine ⟨fun pins s σ H Q I h => ?_⟩
  refine attr_of hb (thn (he.run pins s σ H _ I h) fun u s1 hh => ?_)
  obtain ⟨x, H1, I1, rx, ex, C, ec, T, hno, dd, fs, v, ed, ea, l, q⟩ := hh
  subst ex
  obtain rfl : u = Value.ref a := rx
  subst ec
  subst ed
  obtain ⟨ha, _⟩ := I1.pin (a, oe) (List.mem_append_left _ List.mem_cons_self)
  obtain ⟨vs, hd⟩ := hf
  have hx : ObjOk X.prog X.w H1 s1.heap dd (.xd fs) := I1.hok dd _ ea
  obtain ⟨mA, hns, hr⟩ := hx
  obtain ⟨od, ho, hl⟩ := lookIn_ns hns
  obtain ⟨u, hu, ru⟩ := RelO.some_of (v := v) (o := mA n) (by rw [← l]; exact hr n)
  have J : PySem.W.InstAt s1.heap a oe C (some od) := ⟨ha, hz.1, by unfold PySem.W.notCls; rw [hd] <;> rfl, by rw [hz.2]; exact ho⟩
  exact HandSPX.exc_get I1.kIn J T.ga T.gg T.exC (PySem.W.findObj_own T.hdC hno rfl (by rw [hl, hu])) (handed_of ru) ⟨v, H1, I1.tok _, ru, q⟩
theorem go_xfX {K : PySem.W.Frag} {a : Addr} {cls : Value} {d : Option Addr} {f : Str} {te : TE} {σ : L2.St} {H : Hp} {Q : VK} (h : te σ H fun x H1 => x = .ref a ∧ ∃ C, cls = .ref C ∧ XfC K C ∧ PySem.W.findIn K (.ref C) f = some none ∧ ∃ (dd : Addr) (fs : List (Str × V)) (v : V), d = some dd ∧ H1 dd = some (.xd fs) ∧ fs.lookup f = some v ∧ Q v H1) : tXfX K a cls d f te σ H Q := h
theorem go_xfXV {K : PySem.W.Frag} {a D dd : Addr} {f : Str} {H : Hp} {fs : List (Str × V)} {v : V} {R : V → Prop} (T : XfC K D) (no : PySem.W.findIn K (.ref D) f = some none) (e : H dd = some (.xd fs)) (l : fs.lookup f = some v) (h : R v) :
    V.ref a = .ref a ∧ ∃ C, (Value.ref D) = .ref C ∧ XfC K C ∧ PySem.W.findIn K (.ref C) f = some none ∧ ∃ (d' : Addr) (fs : List (Str × V)) (v : V), some dd = some d' ∧ H d' = some (.xd fs) ∧ fs.lookup f = some v ∧ R v := ⟨rfl, D, rfl, T, no, dd, fs, v, rfl, e, l, h⟩
/-! ### raise and try, by name -/
def tRaise (W : WX) (t : L2.St → Hp → XK → Prop) : TS := fun _ σ H => t σ H fun cls d H' => W cls d σ H'
theorem ps_raiseT {X : Cx} {W : WX} {e : Expr} {t : L2.St → Hp → XK → Prop} {pos : Pos} (hc : X.calm = true) (tk : Takes X W) (he : PMk X e t) : PS X (.Raise (some e) none pos) (tRaise W t) := ps_raise hc tk he
theorem go_raiseT {t : L2.St → Hp → XK → Prop} {W : WX} {D : Ends} {σ : L2.St} {H : Hp} (h : t σ H fun cls d H' => W cls d σ H') : tRaise W t D σ H := h
def tTryAs (K : PySem.W.Frag) (c : Value) (i : Nat) (ts : Addr → Value → Option Addr → TS) (Wout : WX) (tb : WX → TS) : TS := fun D σ H => tb (wAs K c i ts Wout D) D σ H
def tTryOnly (K : PySem.W.Frag) (c : Value) (ts : Addr → Value → Option Addr → TS) (Wout : WX) (tb : WX → TS) : TS := fun D σ H => tb (wOnly K c ts Wout D) D σ H
section
variable {X : Cx} {x n : Str} {c : Value} {i : Nat} {body suite : List Stmt} {b₀ : Stmt} {np pos pos' : Pos} {tb : WX → TS} {ts : Addr → Value → Option Addr → TS} {Wout : WX}
theorem ps_tryAs (hs : X.stack = X.env :: X.outer) (hf : X.env.frame = some X.env.locals) (hN : X.N.Nodup) (hi : X.N[i]? = some n) (hln : X.env.kindOf n = some .local) (hc : Names X x c) (tk : Takes X Wout)
    (hb : ∀ (W : WX) (pn : List (Addr × Obj)) (xe : Value → Shared → Prop), Takes (X.tr pn xe) W → PassesOwn (model X.prog X.w) X.A X.env xe → PSs (X.tr pn xe) body (tb W))
    (hsu : ∀ (a : Addr) (oe : Obj) (cls : Value) (d : Option Addr) (pn : List (Addr × Obj)), Zc cls d oe → (∃ vs, oe.data = .fields vs) → PSs (X.suite a ((a, oe) :: pn)) (b₀ :: suite) (ts a cls d)) :
    PS X (.Try body [.ExceptHandler (some (.Name x np)) (some n) (b₀ :: suite) pos'] [] [] pos) (tTryAs X.K c i ts Wout tb) := ps_try_as hs hf hN hi hln hc tk hb hsu
theorem ps_tryOnly (hs : X.stack = X.env :: X.outer) (hf : X.env.frame = some X.env.locals) (hc : Names X x c) (tk : Takes X Wout)
    (hb : ∀ (W : WX) (pn : List (Addr × Obj)) (xe : Value → Shared → Prop), Takes (X.tr pn xe) W → PassesOwn (model X.prog X.w) X.A X.env xe → PSs (X.tr pn xe) body (tb W))
    (hsu : ∀ (a : Addr) (oe : Obj) (cls : Value) (d : Option Addr) (pn : List (Addr × Obj)), Zc cls d oe → (∃ vs, oe.data = .fields vs) → PSs (X.suite a ((a, oe) :: pn)) (b₀ :: suite) (ts a cls d)) :
    PS X (.Try body [.ExceptHandler (some (.Name x np)) none (b₀ :: suite) pos'] [] [] pos) (tTryOnly X.K c ts Wout tb) := ps_try_only hs hf hc tk hb hsu
end
section
variable {K : PySem.W.Frag} {c : Value} {i : Nat} {tb : WX → TS} {ts : Addr → Value → Option Addr → TS} {Wout : WX} {D : Ends} {σ : L2.St} {H : Hp} {cls : Value} {d : Option Addr}
theorem go_tryAs (h : tb (wAs K c i ts Wout D) D σ H) : tTryAs K c i ts Wout tb D σ H := h
theorem go_tryOnly (h : tb (wOnly K c ts Wout D) D σ H) : tTryOnly K c ts Wout tb D σ H := h
theorem go_wAs (e : PySem.W.exmOne K cls c = some true) (h : ∀ a, H a = none → ts a cls d { nx := fun σ' H' => D.nx (σ'.set i none) H', rt := D.rt, bk := fun σ' H' => D.bk (σ'.set i none) H', ct := fun σ' H' => D.ct (σ'.set i none) H' } (σ.set i (some (.ref a))) H) : wAs K c i ts Wout D cls d σ H :=
  ⟨true, e, fun _ => h, fun q => nomatch q⟩
theorem go_wOnly (e : PySem.W.exmOne K cls c = some true) (h : ∀ a, H a = none → ts a cls d D σ H) : wOnly K c ts Wout D cls d σ H :=
  ⟨true, e, fun _ => h, fun q => nomatch q⟩
end
theorem go_nNone {A B : Prop} (h : A) : if (!(none : Option V).isSome) = true then A else B := iteT h
theorem go_nSome {v : V} {A B : Prop} (h : B) : if (!(some v).isSome) = true then A else B := iteF h
theorem go_None {A B : Prop} (h : B) : if (none : Option V).isSome = true then A else B := iteF h
theorem go_Some {v : V} {A B : Prop} (h : A) : if (some v).isSome = true then A else B := iteT h
/-! ### tuple(x), list(x): readings with a name -/
def rTupOf (K : PySem.W.Frag) : List V → Hp → VK → Prop := fun vs H Q => ∃ p xs, vs = [.ref p] ∧ ((SqL K H p xs ∧ ∀ l, H l = none → Q (.ref l) (upd H l (.tup xs))) ∨ (SqT K H p xs ∧ Q (.ref p) H))
theorem call_tupD {X : Cx} : CallR X (.type "tuple") (rTupOf X.K) := call_tuple_of
def rLstOf (K : PySem.W.Frag) : List V → Hp → VK → Prop := fun vs H Q => ∃ p xs, vs = [.ref p] ∧ (SqL K H p xs ∨ SqT K H p xs) ∧ ∀ l, H l = none → Q (.ref l) (upd H l (.lst xs))
theorem call_lstD {X : Cx} : CallR X (.type "list") (rLstOf X.K) := call_list_of
section
variable {K : PySem.W.Frag} {H : Hp} {Q : VK} {p : Addr} {xs : List V}
theorem go_tupD (e : SqL K H p xs) (h : ∀ l, H l = none → Q (.ref l) (upd H l (.tup xs))) : rTupOf K [.ref p] H Q := ⟨p, xs, rfl, .inl ⟨e, h⟩⟩
theorem go_tupDT (e : SqT K H p xs) (h : Q (.ref p) H) : rTupOf K [.ref p] H Q := ⟨p, xs, rfl, .inr ⟨e, h⟩⟩
theorem go_lstD (e : SqL K H p xs) (h : ∀ l, H l = none → Q (.ref l) (upd H l (.lst xs))) : rLstOf K [.ref p] H Q := ⟨p, xs, rfl, .inl e, h⟩
theorem go_lstDT (e : SqT K H p xs) (h : ∀ l, H l = none → Q (.ref l) (upd H l (.lst xs))) : rLstOf K [.ref p] H Q := ⟨p, xs, rfl, .inr e, h⟩
theorem go_lstDO (e : SqL K H p xs ∨ SqT K H p xs) (h : ∀ l, H l = none → Q (.ref l) (upd H l (.lst xs))) : rLstOf K [.ref p] H Q := ⟨p, xs, rfl, e, h⟩
end
theorem go_cat {H : Hp} {Q : VK} {p q : Addr} {xs ys : List V} (h1 : H p = some (.lst xs)) (h2 : H q = some (.lst ys)) (l : xs.length + ys.length ≤ 1000) (h : ∀ r, H r = none → Q (.ref r) (upd H r (.lst (xs ++ ys)))) : rCat (.ref p) (.ref q) H Q :=
  ⟨p, q, xs, ys, rfl, rfl, h1, h2, Nat.le_of_lt (small1000 l), h⟩
theorem go_prop {C : Addr} {sp : Sp} {E : XK} {ta : TE} {σ : L2.St} {H : Hp} {Q : VK} {dvs : List V} (h : ta σ H fun x H1 => ∃ a dx fs, x = .ref a ∧ H1 a = some (.ins C dx fs) ∧ sp (.ref a :: dvs) H1 Q E) : tProp C sp dvs E ta σ H Q := h
end Vc

/-! Xt: a caught error as a tracked object: held by a name, handed to defs, also where it is still being handled (my own; the way of HandS.Exc's ps_try_as and HandS.HotCalls). -/
namespace Vc
open PySem PySem.Spec PyProof.Rows L2
/-- a caught error: its class, its dict -/
def xco (a : Addr) (cls : Value) (d : Option Addr) : HO := .ext fun h => ∃ (oe : Obj) (vs : Array Value), h.get? a = some oe ∧ Zc cls d oe ∧ oe.data = .fields vs
theorem xco_own {a x : Addr} {cls : Value} {d : Option Addr} : xco a cls d ≠ .own x := fun z => by
  have z' : HO.ext _ = HO.own x := z
  cases z'
theorem xco_ok {P : Program} {w : World} {H : Hp} {h : Heap} {a : Addr} {cls : Value} {d : Option Addr} {oe : Obj} {vs : Array Value} (he : h.get? a = some oe) (hz : Zc cls d oe) (hd : oe.data = .fields vs) : ObjOk P w H h a (xco a cls d) :=
  ⟨⟨oe, vs, he, hz, hd⟩, ⟨_, he⟩, fun h1 h2 z k => by
    obtain ⟨o, v, q1, q2, q3⟩ := z
    exact ⟨o, v, k _ q1, q2, q3⟩⟩
theorem xco_at {P : Program} {w : World} {H : Hp} {h : Heap} {a : Addr} {cls : Value} {d : Option Addr} (hok : HOk P w H h) (he : H a = some (xco a cls d)) : ∃ (oe : Obj) (vs : Array Value), h.get? a = some oe ∧ Zc cls d oe ∧ oe.data = .fields vs := by
  have x : ObjOk P w H h a (.ext fun h => ∃ (oe : Obj) (vs : Array Value), h.get? a = some oe ∧ Zc cls d oe ∧ oe.data = .fields vs) := hok a _ he
  exact x.1
section
variable {X : Cx} {pins : List (Addr × Obj)} {σ : L2.St} {H : Hp} {s sI : Shared} {a : Addr} {o : HO}
/-- what was not there ahead becomes tracked -/
theorem track (J : Inv X pins σ H sI) (I : Inv X pins σ H s) (n : sI.heap.get? a = none) (na : H a = none) (ob : ObjOk X.prog X.w (upd H a o) s.heap a o) : Inv X pins σ (upd H a o) s := by
  have nb : ∀ {b : Addr} {o' : Obj}, sI.heap.get? b = some o' → b ≠ a := fun {b o'} e z => by rw [z, n] at e; cases e
  have nH : ∀ {b : Addr} {o' : HO}, H b = some o' → b ≠ a := fun {b o'} e z => by rw [z, na] at e; cases e
  refine ⟨I.ok, I.os, I.bare, ⟨I.base.keep, I.base.slot, fun b o' e n' hx => ?_, I.base.there, fun b xs e => ?_, fun b o' u e => ?_, fun b ps e => ?_⟩, I.loc, I.cell, ?_, fun y c e => ?_, fun p hp => ?_, fun b o' e => ?_, I.len⟩
  · obtain ⟨o2, e2⟩ := J.base.there b o' e hx
    rw [upd_ne (nb e2)]
    exact I.base.free b o' e n' hx
  · have q := I.base.tups b xs e
    rw [upd_ne (nH q)]; exact q
  · have q := I.base.frzs b o' u e
    rw [upd_ne (nH q)]; exact q
  · obtain ⟨more, q⟩ := I.base.tbls b ps e
    exact ⟨more, by rw [upd_ne (nH q)]; exact q⟩
  · obtain ⟨m, ⟨oL, _, _, hoL, _⟩, _⟩ := id J.loc
    rw [upd_ne (nb hoL)]; exact I.free
  · obtain ⟨v, hv⟩ := J.cell y c e
    obtain ⟨oc, hoc, _⟩ := hv
    rw [upd_ne (nb hoc)]; exact I.freeC y c e
  · obtain ⟨q1, q2, q3⟩ := I.pin p hp
    obtain ⟨z1, _⟩ := J.pin p hp
    exact ⟨q1, by rw [upd_ne (nb z1)]; exact q2, q3⟩
  · by_cases hb : b = a
    · subst hb
      rw [upd_same] at e
      cases e
      exact ob
    · rw [upd_ne hb] at e
      exact (I.hok b o' e).stay (fun _ _ _ q => q) (fun c hc => by rw [upd_ne (nH hc)]; exact hc) (fun c xs hc => by rw [upd_ne (nH hc)]; exact hc)
theorem suiteT (I : Inv X pins σ H s) (a : Addr) : Inv (X.suite a (X.pn ++ pins)) [] σ H s :=
  ⟨I.ok.suite _ _, I.os, I.bare, I.base, I.loc, I.cell, I.free, I.freeC, fun p hp => I.pin p (by rw [List.append_nil] at hp; exact hp), I.hok, I.len⟩
theorem unsuiteT {pn' : List (Addr × Obj)} (I : Inv (X.suite a (X.pn ++ pins)) pn' σ H s) (ok : X.Ok) : Inv X pins σ H s :=
  ⟨ok, I.os, I.bare, I.base, I.loc, I.cell, I.free, I.freeC, fun p hp => I.pin p (List.mem_append_left _ hp), I.hok, I.len⟩
end
/-- what the clause 'except x as n' wishes of an exception of the body: the error is tracked from there on -/
def wX (K : PySem.W.Frag) (c : Value) (i : Nat) (ts : TS) (Wout : WX) (D : Ends) : WX := fun cls d σ H =>
  ∃ b, PySem.W.exmOne K cls c = some b ∧ (b = true → ∀ a, H a = none → ts { nx := fun σ' H' => D.nx (σ'.set i none) H', rt := D.rt, bk := fun σ' H' => D.bk (σ'.set i none) H', ct := fun σ' H' => D.ct (σ'.set i none) H' } (σ.set i (some (.ref a))) (upd H a (xco a cls d))) ∧
    (b = false → Wout cls d σ H)
def tTryX (K : PySem.W.Frag) (c : Value) (i : Nat) (ts : TS) (Wout : WX) (tb : WX → TS) : TS := fun D σ H => tb (wX K c i ts Wout D) D σ H
section
variable {X : Cx} {x n : Str} {c : Value} {i : Nat} {body suite : List Stmt} {b₀ : Stmt} {np pos pos' : Pos} {tb : WX → TS} {ts : TS} {Wout : WX}
theorem ps_tryX (hs : X.stack = X.env :: X.outer) (hf : X.env.frame = some X.env.locals) (hN : X.N.Nodup) (hi : X.N[i]? = some n) (hln : X.env.kindOf n = some .local) (hc : Names X x c) (tk : Takes X Wout)
    (hb : ∀ (W : WX) (pn : List (Addr × Obj)) (xe : Value → Shared → Prop), Takes (X.tr pn xe) W → PassesOwn (model X.prog X.w) X.A X.env xe → PSs (X.tr pn xe) body (tb W))
    (hsu : ∀ (a : Addr) (pn : List (Addr × Obj)), PSs (X.suite a pn) (b₀ :: suite) ts) :
    PS X (.Try body [.ExceptHandler (some (.Name x np)) (some n) (b₀ :: suite) pos'] [] [] pos) (tTryX X.K c i ts Wout tb) := by
  refine ⟨fun pins s σ H D I h => ?_⟩
  have ok := I.ok
  have hfr : X.A.frames = some (X.env :: X.outer) := by rw [ok.frames, hs]
  have hloc : Loc X.env.scope n := .inl hln
  refine wpAny_Try_except ?_
  refine wpAny_mono ((hb (wX X.K c i ts Wout D) (X.pn ++ pins) (fun e s₁ => wpAny (model X.prog X.w) X.A (noteFrame e X.env) (fun _ s₂ => wpAny (model X.prog X.w) X.A (setFlight e none) (fun _ s₃ =>
    wpAny (model X.prog X.w) X.A (handleBy e X.env [.ExceptHandler (some (.Name x np)) (some n) (b₀ :: suite) pos']) (SP X pins D) X.xe s₃) X.xe s₂) X.xe s₁) (fun u s' xx => ?_) PassesOwn.looking).run [] s σ H D (I.toTry _) h) (fun f s1 hsp => ?_) (fun e s1 he => he)
  · -- the catch
    obtain ⟨a, B, sI, pins', σ', H', cls, d, rfl, J', nb, up, sky, na, os, ag, b, hb1, hyes, hno⟩ := xx
    have J : Inv X pins σ' H' sI := J'.ofTry ok
    have sky' : Sky B (X.env :: X.outer) a (Zc cls d) X.env.locals s'.heap := by rw [← hs]; exact sky
    show wpAny (model X.prog X.w) X.A (noteFrame (.ref a) X.env) _ _ _
    refine Sky.land Zc.steady hfr hf sky' fun h3 fl3 up3 => ?_
    have J3 : Inv X pins σ' H' { s' with heap := h3 } := J.landed nb fl3.1 (up.trans up3) os ag
    obtain ⟨oe3, vs3, he3, hz3, hd3⟩ := fl3.there
    have notFr : ∀ {h : Heap} {o : Obj} {vs : Array Value}, h.FunFrames B (X.env :: X.outer) → h.get? a = some o → o.data = .fields vs → a ∉ frs (X.env :: X.outer) := fun {h o vs} ff e dd hm => by
      obtain ⟨_, o', e', hnf⟩ := ff.mem hm
      rw [e] at e'; cases e'
      exact hnf _ dd
    have nfr := notFr fl3.2.2.1 he3 hd3
    have nL : a ≠ X.env.locals := fun z => nfr (List.mem_filterMap.mpr ⟨X.env, List.mem_cons_self, by rw [hf, z]⟩)
    have nF : a ∉ X.fs := fun hm => by
      obtain ⟨e, he, q⟩ := List.mem_filterMap.mp hm
      exact nfr (List.mem_filterMap.mpr ⟨e, List.mem_cons_of_mem _ he, q⟩)
    have nI : sI.heap.get? a = none := by
      cases e : sI.heap.get? a with
      | none => rfl
      | some o =>
        have q := nb a o e (by rw [hs]; exact nfr)
        rw [fl3.2.1] at q; cases q
    have S3 := J3.suite he3 hd3 na nL nF
    refine wpAny_handleBy_cons (codeAny_handlers_test ?_) (by intro q; cases q)
    have LT : PySem.W.Looks (model X.prog X.w) h3 (typeOf (.ref a)) cls := fun A Q E s k q => wpAny_typeOf_ref (k _ _ he3) (by rw [hz3.1]; exact q)
    have LM := PySem.W.exm_one (M := model X.prog X.w) (J3.kIn) LT hb1
    have test : ∀ {Q : Value → Shared → Prop} {E : Value → Shared → Prop}, Q c { s' with heap := h3 } → wpAny (model X.prog X.w) (X.A.mark (some (.ref a))) (eval (.Name x np) X.env) Q E { s' with heap := h3 } := fun {Q E} q => by
      obtain ⟨hg, hdbg, hm | ⟨hm, hv, hnn⟩⟩ := hc
      · exact ld_glob (X := X.suite a ((a, oe3) :: (X.pn ++ pins))) S3 hg hm q hdbg
      · exact ld_blt (X := X.suite a ((a, oe3) :: (X.pn ++ pins))) S3 hg hm hv q hnn hdbg
    refine test (LM.here ?_)
    cases b with
    | true =>
      refine codeAny_handlers_suite_as ?_
      refine HandSPX.lands_againZ fl3 fun h4 fl4 up4 => ?_
      have J4 : Inv X pins σ' H' { s' with heap := h4 } := J.landed nb fl4.1 ((up.trans up3).trans up4) os ag
      obtain ⟨oe4, vs4, he4, hz4, hd4⟩ := fl4.there
      have S4 : Inv (X.suite a (X.pn ++ pins)) [] σ' (upd H' a (xco a cls d)) { s' with heap := h4 } := suiteT (track J J4 nI na (xco_ok he4 hz4 hd4)) a
      refine store_ok (X := X.suite a (X.pn ++ pins)) (v := .ref a) S4 hN hi hloc rfl (fun s5 S5 => ?_) (.inr hln)
      refine wpAny_mono ((hsu a (X.pn ++ pins)).run [] s5 _ _ _ S5 (hyes rfl a na)) (fun f s6 hsp => ?_) (fun _ _ z => False.elim z)
      have end_ : ∀ {σ6 : L2.St} {H6 : Hp} {Q : Shared → Prop}, Inv (X.suite a (X.pn ++ pins)) [] σ6 H6 s6 → (∀ s7, Inv X pins (σ6.set i none) H6 s7 → Q s7) →
          wpAny (model X.prog X.w) X.A (do bindName X.env n .none; unbindBehindTheSuite X.env n pos') (fun _ s7 => Q s7) X.xe s6 := fun {σ6 H6 Q} S6 hq => gone_ok (unsuiteT S6 ok) hN hi hln hq
      cases f with
      | next =>
        obtain ⟨σ6, H6, S6, q6⟩ := hsp
        exact end_ S6 fun s7 J7 => ⟨_, _, J7, q6⟩
      | brk =>
        obtain ⟨σ6, H6, S6, q6⟩ := hsp
        exact end_ S6 fun s7 J7 => ⟨_, _, J7, q6⟩
      | cont =>
        obtain ⟨σ6, H6, S6, q6⟩ := hsp
        exact end_ S6 fun s7 J7 => ⟨_, _, J7, q6⟩
      | ret u =>
        obtain ⟨v6, σ6, H6, S6, r6, q6⟩ := hsp
        exact end_ S6 fun s7 J7 => ⟨_, _, _, J7, r6, q6⟩
    | false =>
      show wpAny _ X.A (handleBy (.ref a) X.env []) _ _ _
      refine wpAny_handleBy_nil ?_
      obtain ⟨k1, k2, k3, oe, vs, T, oT, ts', he, hz, hd, h1, hr⟩ := id fl3
      unfold PySem.passOn
      refine wpAny_bind (wpAny_field he hd h1 ?_)
      rw [if_neg (show ¬ ((Value.ref T == Value.none) = true) from by simp)]
      have fin : wpAny (model X.prog X.w) X.A (setFlight (.ref a) X.env.frame) (fun _ s4 => wpAny (model X.prog X.w) X.A (throw (.ref a) : Sem Flow) (SP X pins D) X.xe s4) X.xe { s' with heap := h3 } := by
        rw [hf]
        refine HandSPX.setFlight_upZ fl3 fun h4 hh4 up4 => wpAny_throw (tk _ _ ?_)
        exact ⟨a, B, sI, pins, σ', H', cls, d, rfl, J, nb, (up.trans up3).trans up4, .inr (.inr (by rw [hs]; exact hh4)), na, os, ag, hno rfl⟩
      first
        | exact wpAny_bind (wpAny_pure (wpAny_bind fin))
        | exact wpAny_bind fin
  · cases f with
    | next =>
      obtain ⟨σ', H', J', q⟩ := hsp
      exact wpAny_execs_nil ⟨σ', H', J'.ofTry ok, q⟩
    | brk =>
      obtain ⟨σ', H', J', q⟩ := hsp
      exact ⟨σ', H', J'.ofTry ok, q⟩
    | cont =>
      obtain ⟨σ', H', J', q⟩ := hsp
      exact ⟨σ', H', J'.ofTry ok, q⟩
    | ret u =>
      obtain ⟨v, σ', H', J', r, q⟩ := hsp
      exact ⟨v, σ', H', J'.ofTry ok, r, q⟩
end
section
variable {K : PySem.W.Frag} {c : Value} {i : Nat} {tb : WX → TS} {ts : TS} {Wout : WX} {D : Ends} {σ : L2.St} {H : Hp} {cls : Value} {d : Option Addr}
theorem go_tryX (h : tb (wX K c i ts Wout D) D σ H) : tTryX K c i ts Wout tb D σ H := h
/-- it is caught -/
theorem go_wX (e : PySem.W.exmOne K cls c = some true) (h : ∀ a H2, H a = none → Ed [] H H2 → H2 a = some (xco a cls d) → ts { nx := fun σ' H' => D.nx (σ'.set i none) H', rt := D.rt, bk := fun σ' H' => D.bk (σ'.set i none) H', ct := fun σ' H' => D.ct (σ'.set i none) H' } (σ.set i (some (.ref a))) H2) : wX K c i ts Wout D cls d σ H :=
  ⟨true, e, fun _ a na => h a _ na (Ed.new na) upd_same, fun q => nomatch q⟩
end
/-! ### isinstance of a tracked error, its fields -/
/-- what the heap tells of the error at a: its class at C, its dict with the fields fs -/
structure ErrAt (H : Hp) (a C : Addr) (fs : List (Str × V)) : Prop where
  ex : ∃ dd, H a = some (xco a (.ref C) (some dd)) ∧ H dd = some (.xd fs)
theorem ErrAt.ed {H H' : Hp} {a C : Addr} {fs : List (Str × V)} {S : List Addr} (e : Ed S H H') (hS : ∀ b ∈ S, ∃ o, H b = some o ∧ (∀ cls d, o ≠ xco a cls d) ∧ ∀ fs, o ≠ .xd fs) (h : ErrAt H a C fs) : ErrAt H' a C fs := by
  obtain ⟨dd, h1, h2⟩ := h
  refine ⟨dd, e.keep _ _ (fun z => ?_) h1, e.keep _ _ (fun z => ?_) h2⟩
  · obtain ⟨o, q, n, _⟩ := hS _ z
    rw [h1] at q; cases q; exact n _ _ rfl
  · obtain ⟨o, q, _, n⟩ := hS _ z
    rw [h2] at q; cases q; exact n _ rfl
theorem ErrAt.ed0 {H H' : Hp} {a C : Addr} {fs : List (Str × V)} (e : Ed [] H H') (h : ErrAt H a C fs) : ErrAt H' a C fs := h.ed e fun _ z => nomatch z
theorem ErrAt.of {H0 H : Hp} {a C dd : Addr} {fs : List (Str × V)} (h1 : H a = some (xco a (.ref C) (some dd))) (e : Ed [] H0 H) (h2 : H0 dd = some (.xd fs)) : ErrAt H a C fs := ⟨dd, h1, e.at0 h2⟩
theorem err_inst {X : Cx} {pins : List (Addr × Obj)} {σ : L2.St} {H : Hp} {s : Shared} {a C : Addr} {fs : List (Str × V)} (I : Inv X pins σ H s) (h : ErrAt H a C fs) : ∃ ox od, PySem.W.InstAt s.heap a ox C (some od) ∧ ∀ f, ∃ mf, PySem.W.lookIn f od = some mf ∧ RelO (fs.lookup f) mf := by
  obtain ⟨dd, h1, h2⟩ := h
  obtain ⟨oe, vs, ho, hz, hd⟩ := xco_at I.hok h1
  have hx : ObjOk X.prog X.w H s.heap dd (.xd fs) := I.hok dd _ h2
  obtain ⟨mA, hns, hr⟩ := hx
  obtain ⟨od, hod, hl⟩ := lookIn_ns hns
  exact ⟨oe, od, ⟨ho, hz.1, by unfold PySem.W.notCls; rw [hd] <;> rfl, by rw [hz.2]; exact hod⟩, fun f => ⟨mA f, hl f, hr f⟩⟩
/-- isinstance(e, C), e a tracked error -/
def rIsT (K : PySem.W.Frag) : List V → Hp → VK → Prop := fun xs H Q => ∃ (a D : Addr) (fs : List (Str × V)) (c : V) (cv : Value) (b : Bool), ErrAt H a D fs ∧ ExcC K D ∧ xs = [.ref a, c] ∧ (∀ u, RelV c u → u = cv) ∧ PySem.W.kitOne K (.ref D) cv = some b ∧ Q (.bl b) H
theorem err_clsIn {K : PySem.W.Frag} {D : Addr} (C : ExcC K D) : (PySem.W.clsIn K D).isSome = true := by obtain ⟨cd, hc, _⟩ := PySem.W.any_some C.hd; rw [hc]; rfl
theorem call_isT {X : Cx} : CallR X (.builtin "isinstance") (rIsT X.K) := by
  intro pins s σ H xs us Q I r h
  obtain ⟨a, D, fs, c, cv, b, hE, C, rfl, hcv, e, q⟩ := h
  cases r with
  | cons rx rr =>
    cases rr with
    | cons rt rr =>
      cases rr
      cases rx
      have ec := hcv _ rt
      subst ec
      obtain ⟨ox, od, J, _⟩ := err_inst I hE
      exact PySem.W.kia_one (PySem.W.kitx_exc (err_clsIn C) C.hg C.hk C.hs C.ha C.hn C.ht C.hm) I.kIn J e (fun z => nomatch z) fun tk => ⟨.bl b, H, I.tok tk, rfl, q⟩
/-- isinstance(e, (C1, C2, ..)) -/
def rIsTT (K : PySem.W.Frag) : List V → Hp → VK → Prop := fun xs H Q => ∃ (a D tp : Addr) (fs : List (Str × V)) (cs : List V) (ws : List Value) (b : Bool), ErrAt H a D fs ∧ ExcC K D ∧ xs = [.ref a, .ref tp] ∧ H tp = some (.tup cs) ∧ (∀ us, Vals cs us → us = ws) ∧ PySem.W.kitAny K (.ref D) ws = some b ∧ Q (.bl b) H
theorem call_isTT {X : Cx} : CallR X (.builtin "isinstance") (rIsTT X.K) := by
  intro pins s σ H xs us Q I r h
  obtain ⟨a, D, tp, fs, cs, ws, b, hE, C, rfl, hT, hcv, e, q⟩ := h
  cases r with
  | cons rx rr =>
    cases rr with
    | cons rt rr =>
      cases rr
      cases rx
      cases rt
      obtain ⟨ox, od, J, _⟩ := err_inst I hE
      obtain ⟨_, its, rv, o, h1, h2, n, h3⟩ := (show ObjOk X.prog X.w H s.heap tp (.tup cs) from I.hok tp _ hT)
      have e3 := hcv _ rv
      subst e3
      obtain ⟨oc, od', dt, sl⟩ := o
      simp only at h2 h3
      subst h2 h3
      exact PySem.W.kia_tup (PySem.W.kitx_exc (err_clsIn C) C.hg C.hk C.hs C.ha C.hn C.ht C.hm) I.kIn J h1 e (fun z => nomatch z) fun tk => ⟨.bl b, H, I.tok tk, rfl, q⟩
/-- e.f -/
def tXfT (K : PySem.W.Frag) (f : Str) (te : TE) : TE := fun σ H Q => te σ H fun x H1 => ∃ (a C : Addr) (fs : List (Str × V)) (v : V), x = .ref a ∧ ErrAt H1 a C fs ∧ XfC K C ∧ PySem.W.findIn K (.ref C) f = some none ∧ fs.lookup f = some v ∧ Q v H1
theorem pe_xfT {X : Cx} {e : Expr} {te : TE} {pos : Pos} {n : Str} (he : PE X e te) (hb : attributeBase e n X.env (eval e X.env) = eval e X.env := by rfl) : PE X (.Attribute e n pos) (tXfT X.K n te) := by
  refine ⟨fun pins s σ H Q I h => ?_⟩
  refine attr_of hb (thn (he.run pins s σ H _ I h) fun u s1 hh => ?_)
  obtain ⟨x, H1, I1, rx, a, C, fs, v, ex, hE, T, hno, l, q⟩ := hh
  subst ex
  obtain rfl : u = Value.ref a := rx
  obtain ⟨ox, od, J, hl⟩ := err_inst I1 hE
  obtain ⟨mf, hm, hr⟩ := hl n
  obtain ⟨u, hu, ru⟩ := RelO.some_of (v := v) (o := mf) (by rw [← l]; exact hr)
  exact HandSPX.exc_get I1.kIn J T.ga T.gg T.exC (PySem.W.findObj_own T.hdC hno rfl (by rw [hm, hu])) (handed_of ru) ⟨v, H1, I1.tok _, ru, q⟩
section
variable {K : PySem.W.Frag} {a D : Addr} {fs : List (Str × V)} {H : Hp} {Q : VK} {b : Bool}
theorem go_isTC {c : Addr} (hE : ErrAt H a D fs) (C : ExcC K D) (hk : PySem.W.kitOne K (.ref D) (.ref c) = some b) (q : Q (.bl b) H) : rIsT K [.ref a, .ref c] H Q :=
  ⟨a, D, fs, .ref c, .ref c, b, hE, C, rfl, fun _ r => r, hk, q⟩
theorem go_isTT {t : String} (hE : ErrAt H a D fs) (C : ExcC K D) (hk : PySem.W.kitOne K (.ref D) (.type t) = some b) (q : Q (.bl b) H) : rIsT K [.ref a, .ty t] H Q :=
  ⟨a, D, fs, .ty t, .type t, b, hE, C, rfl, fun _ r => r, hk, q⟩
theorem go_xfT {f : Str} {te : TE} {σ : L2.St} (h : te σ H fun x H1 => ∃ (a C : Addr) (fs : List (Str × V)) (v : V), x = .ref a ∧ ErrAt H1 a C fs ∧ XfC K C ∧ PySem.W.findIn K (.ref C) f = some none ∧ fs.lookup f = some v ∧ Q v H1) : tXfT K f te σ H Q := h
theorem go_xfTV {f : Str} {v : V} {R : V → Prop} (hE : ErrAt H a D fs) (T : XfC K D) (no : PySem.W.findIn K (.ref D) f = some none) (l : fs.lookup f = some v) (h : R v) :
    ∃ (a' C : Addr) (fs : List (Str × V)) (v : V), V.ref a = .ref a' ∧ ErrAt H a' C fs ∧ XfC K C ∧ PySem.W.findIn K (.ref C) f = some none ∧ fs.lookup f = some v ∧ R v := ⟨a, D, fs, v, rfl, hE, T, no, l, h⟩
end
/-! ### defs that are also called while an error is being handled (they raise nothing) -/
structure FnHt (P : Program) (w : World) (K : PySem.W.Frag) (mg : Str → Option Value) (base : Heap) (k : Nat) (f : Addr) (fd : FuncData) (ps : List Str) (sp : Sp) : Prop where
  len : ∀ vs H Q E, sp vs H Q E → vs.length = ps.length
  run : ∀ (A : Around) (outer : List Env) (s : Shared) (H : Hp) (args : Args) (us : List Value) (vs : List V) (Q : VK) (E : XK), L2H.RoomH k A → Env0 P w K mg base A outer s H → BindsTo s fd args (ps.zip us) → Vals vs us → sp vs H Q E →
    codeAny (model P w) A (.call (.ref f) args) (CR CX0 outer P w H s Q E) s
theorem FnHt.ok {P : Program} {w : World} {K : PySem.W.Frag} {mg : Str → Option Value} {base : Heap} {k : Nat} {f : Addr} {fd : FuncData} {ps : List Str} {sp : Sp} (F : FnHt P w K mg base k f fd ps sp) : FnOk P w K mg base CX0 k f fd ps sp :=
  ⟨F.len, fun A outer s H args us vs Q E hr => F.run A outer s H args us vs Q E (L2H.roomH_of hr)⟩
/-- the context of such a def's body -/
def cxT (P : Program) (w : World) (K : PySem.W.Frag) (mg : Str → Option Value) (base : Heap) (N : List Str) (qual : Str) (scope : Scope) (f : Addr) (cd : Value) (A : Around) (outer : List Env) (s : Shared) (H : Hp) (E : XK) : Cx :=
  { cxOf CX0 P w K mg base N qual scope f cd A outer s H E with calm := false }
theorem inv_startT {P : Program} {w : World} {K : PySem.W.Frag} {mg : Str → Option Value} {base : Heap} {N ps : List Str} {qual : Str} {scope : Scope} {f : Addr} {cd : Value} {A : Around} {outer : List Env} {s s1 : Shared} {H : Hp} {E : XK} {us : List Value} {vs : List V}
    (S : FnScope N ps scope) (e0 : Env0 P w K mg base A outer s H) (hl : vs.length = ps.length) (r : Vals vs us)
    (x : InCallC s s.heap.objs.size (bindL (envOfC qual scope s.heap.objs.size f cd).kindOf (ps.zip us) fun _ => none) (cellsFrom (s.heap.objs.size + 1) scope.names []) (bindC (envOfC qual scope s.heap.objs.size f cd).kindOf (ps.zip us) fun _ => none) s1) :
    Inv (cxT P w K mg base N qual scope f cd A outer s H E) [] (L2.start N vs) H s1 := by
  have hpl : ps.length ≤ N.length := by have := congrArg List.length S.pre; rw [List.length_take] at this; omega
  obtain ⟨h1, tk, rfl, hk⟩ := x.done
  have noA : ∀ b : Addr, b ∉ (cxT P w K mg base N qual scope f cd A outer s H E).ex := fun b z => absurd (show b ∈ ([] : List Addr) from z) (by simp)
  refine ⟨⟨e0.mod, S.kind, rfl, rfl, Nat.le_refl _, fun y z c h1 h2 => ?_, fun y hy => ?_, fun y c _ h => ?_, (fun z => Bool.noConfusion (show false = true from z)), Around.frames_deeper e0.frames, .inr ⟨rfl, rfl⟩, fun b z => absurd z (noA b), e0.bs, e0.bsz, fun b _ _ => noA b, fun b z => absurd z (noA b), e0.funs, e0.frf⟩,
    rfl, e0.bare, Un.kept hk, ⟨_, x.toInCall.ns, fun i y v h1 h2 h3 => ?_⟩, fun y c h => ⟨_, x.cell y c h⟩, e0.hok.fresh (Nat.le_refl _), fun y c h => ?_, fun q hq => ?_, e0.hok.kept hk, ?_⟩
  · exact name_of_addr x.apart (PySem.mem_of_lookup h1) (PySem.mem_of_lookup h2)
  · have hy : scope.names.lookup y = some .cell ∨ scope.names.lookup y = some .free := hy
    rcases hy with hy | hy
    · exact cell_has hy
    · exact absurd rfl (S.nofree _ (PySem.mem_of_lookup hy))
  · exact Nat.le_of_lt (x.above y c (PySem.mem_of_lookup h))
  · have hi : i < vs.length := by
      unfold L2.start at h2
      by_cases hi : i < vs.length
      · exact hi
      · rw [List.getElem?_append_right (by simpa using hi)] at h2
        rw [List.getElem?_replicate] at h2
        split at h2 <;> cases h2
    have ha : vs[i]? = some v := by
      unfold L2.start at h2
      rw [List.getElem?_append_left (by simpa using hi), List.getElem?_map] at h2
      cases e : vs[i]? with
      | none => rw [e] at h2; cases h2
      | some a => rw [e] at h2; cases h2; rfl
    obtain ⟨u, hu, rv⟩ := r.get ha
    have hp : ps[i]? = some y := by
      rw [← S.pre, List.getElem?_take_of_lt (by omega)]; exact h1
    have ndP : ps.Nodup := by rw [← S.pre]; exact S.nd.sublist (List.take_sublist _ _)
    refine ⟨u, rv, ?_⟩
    rcases S.par y (List.mem_of_getElem? hp) with k | k
    · exact .inl ⟨k, bindL_get ndP hp hu k⟩
    · obtain ⟨c, e⟩ := cell_has (n := s.heap.objs.size + 1) k
      refine .inr ⟨.inl k, c, e, ?_⟩
      have q := x.cell y c e
      rw [bindC_get ndP hp hu (by show scope.names.lookup y ≠ _; rw [k]; decide)] at q
      exact q
  · exact e0.hok.fresh (Nat.le_of_lt (x.above y c (PySem.mem_of_lookup h)))
  · exact absurd (show q ∈ ([] : List (Addr × Obj)) from hq) (by simp)
  · unfold L2.start
    show _ = N.length
    rw [List.length_append, List.length_map, List.length_replicate]
    omega
theorem Fun.okH {P : Program} {w : World} {K : PySem.W.Frag} {mg : Str → Option Value} {base : Heap} {x qual : Str} {st : Stmt} {f : Addr} {fd : FuncData} {N ps : List Str} {k : Nat} {sp : Sp} (F : Fun K x qual st f fd) (S : FnScope N ps (defScope st)) (len : ∀ vs H Q E, sp vs H Q E → vs.length = ps.length)
    (hbody : ∀ (cdv : Value) (A : Around) (outer : List Env) (s : Shared) (H : Hp) (vs : List V) (Q : VK) (E : XK), L2H.RoomH k (A.deeper (envOfC qual (defScope st) s.heap.objs.size f cdv)) → sp vs H Q E →
      ∃ t, PSs (cxT P w K mg base N qual (defScope st) f cdv A outer s H E).nox (defBody st) t ∧ t { nx := fun _ H' => Q .non H', rt := Q } (L2.start N vs) H) : FnHt P w K mg base (k + 1) f fd ps sp := by
  obtain ⟨oc, od, kV, doc, pm, an, cdv, ct, osl, rfl, lk, hcd⟩ := F.ex
  refine ⟨len, fun A outer s H args us vs Q E hr e0 hb r hsp => ?_⟩
  have hl := len _ _ _ _ hsp
  have KX : K.In s.heap := e0.mod.kin.keeps fun b o e => (e0.bs b o e).1
  have lim : s.heap.NoLimit := e0.mod.nolimit.keeps fun b o e => (e0.bs b o e).1
  have hkind : ∀ y ∈ ps.zip us, (defScope st).names.lookup y.1 = some .local ∨ ((defScope st).names.lookup y.1 = some .cell ∧ ((cellsFrom (s.heap.objs.size + 1) (defScope st).names []).lookup y.1).isSome = true) := fun ⟨n, v⟩ hy => by
    rcases S.par n (List.of_mem_zip hy).1 with q | q
    · exact .inl q
    · exact .inr ⟨q, PySem.W.cellsFrom_some _ _ _ (.inl q)⟩
  refine codeAny_call_function hr.depth (KX _ _ lk) rfl S.co S.gen rfl (PySem.W.codeRec_of KX hcd) (hb _ _ _ _ ?_)
  refine wpAny_newFunctionEnv_cells S.kind hkind fun env he s1 x => ?_
  subst he
  refine ⟨lim.keeps x.toInCall.keep, codeAny_func ?_⟩
  obtain ⟨t, ht0, hq⟩ := hbody cdv A outer s H vs Q E (hr.deeper _) hsp
  have ht := ht0.nox
  have I : Inv (cxT P w K mg base N qual (defScope st) f cdv A outer s H E) [] (L2.start N vs) H s1 := inv_startT S e0 hl r x
  refine wpAny_mono (ht.run [] s1 (L2.start N vs) H _ I hq) (fun fl s' hs => ?_) fun e s' hs => hs
  have fin : ∀ {σ' : L2.St} {H' : Hp} {v : V} {u : Value}, Inv (cxT P w K mg base N qual (defScope st) f cdv A outer s H E) [] σ' H' s' → RelV v u → Q v H' → CE outer P w H s Q u s' :=
    fun {σ' H' v u} J rv q => ⟨v, H', J.os, J.bare, J.base, J.hok, rv, q⟩
  cases fl with
  | ret u =>
    obtain ⟨v, σ', H', J, rv, q⟩ := hs
    exact fin J rv q
  | next =>
    obtain ⟨σ', H', J, q⟩ := hs
    exact fin (v := V.non) (u := Value.none) J rfl q
  | brk =>
    obtain ⟨_, _, _, q⟩ := hs
    exact False.elim q
  | cont =>
    obtain ⟨_, _, _, q⟩ := hs
    exact False.elim q
section
variable {X : Cx} {k : Nat} {f : Addr} {fd : FuncData} {ps : List Str} {sp : Sp} {x : Str} {q pos : Pos} {e : Expr} {es : List Expr} {t : TA}
/-- f(e, ..), also while an error is being handled -/
theorem pe_callT (F : FnHt X.prog X.w X.K X.mg X.base k f fd ps sp) (hr : L2H.RoomH k X.A) (hg : Gl X x) (hm : X.mg x = some (.ref f)) (hk : PySem.W.keepIn X.K (.ref f) = true) (hb : Binds X.K fd ps [])
    (ha : PA X (e :: es) t) (hdb : (x == ("__debug__" : Str)) = false := by decide) (he : starEach (e :: es) X.env = (false, eval e X.env) :: starEach es X.env := by rfl) (hpl : (backTo pos (starEach es X.env)).any (·.1) = false := by rfl) :
    PE X (.Call (.Name x q) (e :: es) [] pos) (tCall sp [] E0 t) := by
  refine ⟨fun pins s σ H Q I h => ?_⟩
  refine wpAny_Call_Name_kw (ld_glob I hg hm ?_ hdb)
  refine PySem.W.callWith_K (h₀ := X.base) I.ok.mod.kin hk (thn (ha.run pos pins s σ H _ I h) fun us s1 ⟨vs, H1, I1, r, q⟩ => ⟨I1.kIn, ?_⟩) he hpl
  have q : sp (vs ++ []) H1 Q E0 := q
  rw [List.append_nil] at q
  have hl : us.length = ps.length := by rw [← r.length]; exact F.len _ _ _ _ q
  have b := hb s1 us I1.kIn (by rw [List.append_nil]; exact hl)
  rw [List.append_nil] at b
  refine wpAny_call (codeAny_mono (F.run X.A X.stack s1 H1 ⟨us, []⟩ us vs Q E0 hr I1.env0 b r q) fun r s' hq => ?_)
  cases r with
  | error e => exact hq.elim
  | ok fl =>
    cases fl with
    | ret u => exact I1.after hq
    | next => exact False.elim hq
    | brk => exact False.elim hq
    | cont => exact False.elim hq
end
theorem roomH_mark {k : Nat} {A : Around} {v : Option Value} (r : L2H.RoomH k A) : L2H.RoomH k (A.mark v) := ⟨r.dp, r.un⟩
/-- the same, the written part named (in an except suite the reading may not name the suite's own place) -/
theorem call_isTK {X : Cx} {K : PySem.W.Frag} (h : X.K = K) : CallR X (.builtin "isinstance") (rIsT K) := h ▸ call_isT
theorem pe_xfTK {X : Cx} {K : PySem.W.Frag} {e : Expr} {te : TE} {pos : Pos} {n : Str} (h : X.K = K) (he : PE X e te) (hb : attributeBase e n X.env (eval e X.env) = eval e X.env := by rfl) : PE X (.Attribute e n pos) (tXfT K n te) := h ▸ pe_xfT he hb
end Vc

/-! Xl: a loop over a locked thing that may raise: the error leaves the lock (my own; over HandS.Iter's lock). -/
namespace Vc
open PySem PySem.Spec PyProof.Rows L2
def lockW (W : WX) (d : Addr) (od : Obj) (u : HO) : WX := fun cls dd σ H => H d = some (.frz od u) ∧ W cls dd σ (upd H d u)
def unD (D : Ends) (d : Addr) (od : Obj) (u : HO) : Ends := ⟨fun σ' H' => H' d = some (.frz od u) ∧ D.nx σ' (upd H' d u), fun v H' => H' d = some (.frz od u) ∧ D.rt v (upd H' d u), fun σ' H' => H' d = some (.frz od u) ∧ D.bk σ' (upd H' d u), fun σ' H' => H' d = some (.frz od u) ∧ D.ct σ' (upd H' d u)⟩
def tLockX (W : WX) (tb : WX → TS) : TS := fun D σ H => ∃ d u, H d = some u ∧ Mut (some u) ∧ ∀ od, tb (lockW W d od u) (unD D d od u) σ (upd H d (.frz od u))
theorem ps_lockX {X : Cx} {st : Stmt} {W : WX} {tb : WX → TS} (po : PassesOwn (model X.prog X.w) X.A X.env X.xe) (tk : Takes X W)
    (hb : ∀ (W : WX) (pn : List (Addr × Obj)) (xe : Value → Shared → Prop), Takes (X.tr pn xe) W → PassesOwn (model X.prog X.w) X.A X.env xe → PS (X.tr pn xe) st (tb W)) : PS X st (tLockX W tb) := by
  refine ⟨fun pins s σ H D I hw => ?_⟩
  obtain ⟨d, u, hd, mu, hw⟩ := hw
  obtain ⟨od, I1⟩ := I.lock hd mu
  have nf := I.nofrz hd mu
  have ok := I.ok
  have T : Takes (X.tr (X.pn ++ pins) X.xe) (lockW W d od u) := fun u' s' ⟨a, B, sI, pins', σ', H', cls, dd, e, I', nb, up, sky, na, os, ag, hf, w⟩ =>
    tk u' s' ⟨a, B, sI, pins, σ', upd H' d u, cls, dd, e, (I'.ofTry ok).unlock hf nf, nb, up, sky, by
      have : a ≠ d := fun z => by rw [z, hf] at na; cases na
      rw [upd_ne this]; exact na, os, ag, w⟩
  refine thn ((hb (lockW W d od u) (X.pn ++ pins) X.xe T po).run [] s σ (upd H d (.frz od u)) (unD D d od u) (I1.toTry _) (hw od)) fun f s1 q => ?_
  cases f with
  | next => obtain ⟨σ', H', I2, e, q⟩ := q; exact ⟨σ', _, (I2.ofTry ok).unlock e nf, q⟩
  | brk => obtain ⟨σ', H', I2, e, q⟩ := q; exact ⟨σ', _, (I2.ofTry ok).unlock e nf, q⟩
  | cont => obtain ⟨σ', H', I2, e, q⟩ := q; exact ⟨σ', _, (I2.ofTry ok).unlock e nf, q⟩
  | ret v => obtain ⟨x, σ', H', I2, r, e, q⟩ := q; exact ⟨x, σ', _, (I2.ofTry ok).unlock e nf, r, q⟩
section
variable {σ : L2.St} {H : Hp} {D : Ends} {g : TG} {t : WX → TS} {W : WX}
/-- for k in d, where a turn may raise -/
theorem lockX_keys {n : Nat} {d : Addr} {kvs : List (Key × V)} (hv : σ[n]? = some (some (.ref d))) (hd : H d = some (.dK kvs)) (S : List Addr) (Pv : Hp → Nat → L2.St → Hp → Prop) (hE : ∀ H1 i σ' H', Pv H1 i σ' H' → Ed S H1 H')
    (h0 : ∀ H1 od, Ed [d] H H1 → H1 d = some (.frz od (.dK kvs)) → Pv H1 0 σ H1)
    (turn : ∀ H1 od i k w σ' H' (W' : WX), (∀ cls dd σ3 H3, Ed S H1 H3 → (∀ H4, Ed S H H4 → H4 d = some (.dK kvs) → (∀ a o, a ≠ d → H3 a = some o → H4 a = some o) → W cls dd σ3 H4) → W' cls dd σ3 H3) →
      Ed [d] H H1 → H1 d = some (.frz od (.dK kvs)) → H' d = some (.frz od (.dK kvs)) → kvs[i]? = some (k, w) → Pv H1 i σ' H' →
      g (kV k) σ' H' fun σ2 H2 => t W' { nx := Pv H1 (i + 1), ct := Pv H1 (i + 1), rt := fun v H3 => H3 d = some (.frz od (.dK kvs)) ∧ D.rt v (upd H3 d (.dK kvs)), bk := fun σ3 H3 => H3 d = some (.frz od (.dK kvs)) ∧ D.nx σ3 (upd H3 d (.dK kvs)) } σ2 H2)
    (done : ∀ H1 σ' H' H2, Ed [d] H H1 → Pv H1 kvs.length σ' H' → Ed S H H2 → H2 d = some (.dK kvs) → (∀ a o, a ≠ d → H' a = some o → H2 a = some o) → D.nx σ' H2) : tLockX W (fun W' => tFor (iKeys (tVar n)) g (t W')) D σ H := by
  refine ⟨d, .dK kvs, hd, trivial, fun od => ?_⟩
  generalize hu : upd H d (.frz od (.dK kvs)) = H1
  obtain ⟨e1, h1⟩ := chg hu hd
  refine ⟨_, hv, d, od, rfl, .inl ⟨kvs, h1, for_it walk_keys (Pv H1) (h0 H1 od e1 h1) (fun i σ' H' _ p => (hE _ _ _ _ p).frz _ _ _ h1) (fun i x σ' H' H2 hi p y => ?_) fun σ' H' p => ?_⟩⟩
  · obtain ⟨rfl, k, w, hk, rfl⟩ := y
    refine turn H1 od i k w σ' H2 _ (fun cls dd σ3 H3 e3 hw => ?_) e1 h1 ((hE _ _ _ _ p).frz _ _ _ h1) hk p
    obtain ⟨e2, h2, k2⟩ := unlock hd trivial hu e3 rfl
    exact ⟨e3.frz _ _ _ h1, hw _ e2 h2 k2⟩
  · obtain ⟨e2, h2, k2⟩ := unlock hd trivial hu (hE _ _ _ _ p) rfl
    exact ⟨(hE _ _ _ _ p).frz _ _ _ h1, done H1 σ' H' _ e1 p e2 h2 k2⟩
end
end Vc

/-! Xo: operators of own classes: ==, a property stored (my own; ways of HandS.OwnEq and HandS.Property). -/
namespace Vc
open PySem PySem.Spec PyProof.Rows L2
/-! ### a == b by a's own __eq__ -/
structure EqM (K : PySem.W.Frag) (C g : Addr) : Prop where
  at_ : PySem.W.findIn K (.ref C) "__eq__" = some (some (.ref g))
  fn : PySem.W.isFn K (.ref g) = true
def rEqO (K : PySem.W.Frag) (C : Addr) (sp : Sp) : R2 := fun x y H Q => ∃ (a dx : Addr) (fs : List (Str × V)) (t : Value), x = .ref a ∧ H a = some (.ins C dx fs) ∧ TyX K H y t ∧ PySem.W.notFirst K C t = true ∧ sp [x, y] H (fun v H' => ∃ b, v = .bl b ∧ Q (.bl b) H') E0
theorem op_eqO {X : Cx} {C g : Addr} {fd : FuncData} {ps : List Str} {sp : Sp} {n : Nat} (F : FnOk X.prog X.w X.K X.mg X.base CX0 n g fd ps sp) (hr : Room n X.A) (m : EqM X.K C g) (hb : Binds X.K fd ps []) : OpR X (compareOp .Eq) (rEqO X.K C sp) := by
  intro pins s σ H x y v u Q I rx ry hq
  obtain ⟨a, dx, fs, t, rfl, ha, ty, nf, q⟩ := hq
  cases rx
  show wpAny (model X.prog X.w) X.A (richCompare .Eq (.ref a) u) (EP X pins σ Q) X.xe s
  obtain ⟨mA, J, _⟩ := ins_get I.hok ha
  obtain ⟨od, J, _⟩ := J.look
  obtain ⟨_, Z, p, _⟩ := kit_of I ry ty
  obtain ⟨mm, hF⟩ := I.fr
  refine PySem.W.cmp_K (op := .Eq) (tb := t) hr.units0 hF I.ok.mod.kin J (Z.ty _ _ I.kIn p) nf m.at_ m.fn ?_
  have hl := F.len _ _ _ _ q
  have r2 : Vals [V.ref a, y] [Value.ref a, u] := .cons rfl (.cons ry .nil)
  have hb' := hb s [.ref a, u] I.kIn (by simpa using hl)
  rw [List.append_nil] at hb'
  refine wpAny_call (codeAny_mono (F.run X.A X.stack s H ⟨[.ref a, u], []⟩ [.ref a, u] [.ref a, y] _ E0 hr I.env0 hb' r2 q) fun r s' hq => ?_)
  cases r with
  | error e => exact hq.elim
  | ok fl =>
    cases fl with
    | ret w =>
      obtain ⟨z, H', I', rz, b, ez, qz⟩ := I.after hq
      subst ez
      cases rz
      exact ⟨.bl b, H', I', rfl, qz⟩
    | next => exact False.elim hq
    | brk => exact False.elim hq
    | cont => exact False.elim hq
/-! ### o.f = e, f a property with a setter -/
structure PropSet (K : PySem.W.Frag) (C : Addr) (f : Str) (p g : Addr) : Prop where
  tk : PySem.W.takerIn K C f = some (some (.ref p))
  ty : PySem.W.typeIn K (.ref p) = some (.type "property")
  rec_ : ∃ a rest, PySem.W.recIn K p "property" = some (a :: .ref g :: rest)
def tSetP (C : Addr) (sp : Sp) (E : L2.St → XK) (to te : TE) : TS := fun D σ H => te σ H fun y H1 => to σ H1 fun x H2 => ∃ (a dx : Addr) (fs : List (Str × V)), x = .ref a ∧ H2 a = some (.ins C dx fs) ∧ sp [.ref a, y] H2 (fun _ H3 => D.nx σ H3) (E σ)
theorem ps_fldP {X : Cx} {CX : CXT} {C p g : Addr} {f : Str} {fd : FuncData} {ps : List Str} {sp : Sp} {n : Nat} {E : L2.St → XK} {o e : Expr} {to te : TE} {p' pos : Pos} (c : Cls X.K C) (m : PropSet X.K C f p g) (F : FnOk X.prog X.w X.K X.mg X.base CX n g fd ps sp) (hr : Room (n + 2) X.A) (hb : Binds X.K fd ps []) (hx : ∀ σ, PassesAt CX X σ (E σ))
    (ho : PE X o to) (he : PE X e te) (hs : swapsWith e (some (.Attribute o f p')) pos.line X.env = pure false := by rfl) : PS X (.Assign [.Attribute o f p'] e pos) (tSetP C sp E to te) := by
  refine ⟨fun pins s σ H D I h => ?_⟩
  refine plainObj_wpAny_Assign_Attribute (thn (he.run pins s σ H _ I h) fun v s1 ⟨y, H1, I1, r1, q1⟩ => thn (ho.run pins s1 σ H1 _ I1 q1) fun u s2 ⟨x, H2, I2, r2, a, dx, fs, ex, ea, q⟩ => ?_) hs
  subst ex
  obtain rfl : u = Value.ref a := r2
  obtain ⟨mA, J, _⟩ := ins_get I2.hok ea
  obtain ⟨od, J, _⟩ := J.look
  obtain ⟨mm, hF⟩ := I2.fr
  obtain ⟨b, rest, hrec⟩ := m.rec_
  have I3 := I2.tok (s2.toks + 1)
  have hl := F.len _ _ _ _ q
  have hb' := hb { s2 with toks := s2.toks + 1 } [.ref a, v] I3.kIn (by simpa using hl)
  rw [List.append_nil] at hb'
  refine PySem.W.set_prop hF I.ok.mod.kin J c.sa c.po m.tk m.ty hrec ?_
  refine codeAny_mono (F.run X.A.in1.in1 X.stack { s2 with toks := s2.toks + 1 } H2 ⟨[.ref a, v], []⟩ [.ref a, v] [.ref a, y] _ (E σ) hr.in1.in1 I3.env0.in1.in1 hb' (.cons rfl (.cons r1 .nil)) q) fun r s' hq => ?_
  cases r with
  | error er => exact hx σ pins H2 { s2 with toks := s2.toks + 1 } er s' I3 hq
  | ok fl =>
    cases fl with
    | ret w =>
      obtain ⟨z, H', I', rz, qz⟩ := I3.after hq
      exact ⟨σ, H', I', qz⟩
    | next => exact False.elim hq
    | brk => exact False.elim hq
    | cont => exact False.elim hq
section
variable {K : PySem.W.Frag} {H : Hp} {Q : VK} {a C dx : Addr} {fs : List (Str × V)} {y : V} {t : Value} {sp : Sp}
theorem go_eqO (ha : H a = some (.ins C dx fs)) (ty : TyX K H y t) (nf : PySem.W.notFirst K C t = true) (h : sp [.ref a, y] H (fun v H' => ∃ b, v = .bl b ∧ Q (.bl b) H') E0) : rEqO K C sp (.ref a) y H Q := ⟨a, dx, fs, t, rfl, ha, ty, nf, h⟩
theorem go_setP {E : L2.St → XK} {to te : TE} {D : Ends} {σ : L2.St} (h : te σ H fun y H1 => to σ H1 fun x H2 => ∃ (a dx : Addr) (fs : List (Str × V)), x = .ref a ∧ H2 a = some (.ins C dx fs) ∧ sp [.ref a, y] H2 (fun _ H3 => D.nx σ H3) (E σ)) : tSetP C sp E to te D σ H := h
theorem go_setPV {R : Addr → Prop} (ha : H a = some (.ins C dx fs)) (h : R a) : ∃ (a' dx : Addr) (fs : List (Str × V)), V.ref a = .ref a' ∧ H a' = some (.ins C dx fs) ∧ R a' := ⟨a, dx, fs, rfl, ha, h⟩
theorem ty_ins (ha : H a = some (.ins C dx fs)) (c : C8.InsC K C) : TyX K H (.ref a) (.ref C) := .base (.ins ha c.cl c.ha c.hn c.htk c.hm)
theorem go_isiC {x : V} {c : Addr} {b : Bool} (ht : TyX K H x t) (hk : PySem.W.kitOne K t (.ref c) = some b) (h : Q (.bl b) H) : rIsi K [x, .ref c] H Q := ⟨x, .ref c, t, .ref c, b, rfl, .own c, ht, hk, h⟩
end
/-! ### defaults -/
section
variable {K : PySem.W.Frag} {x qual : Str} {params : Arguments} {body : List Stmt} {scope : Scope} {dvs : List V} {kws : List (Str × V)} {f : Addr} {fd : FuncData} {ps ks : List Str}
theorem bindsAll (F : FunD K x qual params body scope dvs kws f fd) (hd : dvs ≠ [])
    (h : ∀ (T : Addr) (kV doc pm : Value) (an : Option Addr) (cdv ct : Value) (us its : List Value), us.length = ps.length → its.length = dvs.length →
      ∃ k, bindArgs (PySem.W.fnOf x qual params body scope (.ref T) kV doc pm an cdv ct) ⟨us, []⟩ = seqItems? (.ref T) >>= k ∧ k (some its.toArray) = pure (ps.zip us)) : Binds K fd ps [] := by
  obtain ⟨ds, r, b⟩ := F.binds1 (ps := ps) ps.length dvs.length hd (by rw [Nat.sub_self, Nat.add_zero]) (fun T kV doc pm an cdv ct us its l1 l2 => by
    obtain ⟨k, e1, e2⟩ := h T kV doc pm an cdv ct us its l1 l2
    exact ⟨k, e1, by rw [List.drop_of_length_le (Nat.le_of_eq l2), List.append_nil]; exact e2⟩)
  rw [List.drop_of_length_le (Nat.le_refl _)] at r
  cases r
  exact b
theorem kbindsD (F : FunD K x qual params body scope dvs kws f fd) (hd : dvs ≠ []) (g : {α : Type} → List α → List α → List α → List α)
    (hrel : ∀ {vs ds zs : List V} {us its ws : List Value}, Vals ds its → Vals vs us → Vals zs ws → Vals (g ds vs zs) (g its us ws))
    (h : ∀ (T : Addr) (kV doc pm : Value) (an : Option Addr) (cdv ct : Value) (us its ws : List Value), its.length = dvs.length → (g its us ws).length = ps.length →
      ∃ k, bindArgs (PySem.W.fnOf x qual params body scope (.ref T) kV doc pm an cdv ct) ⟨us, ks.zip ws⟩ = seqItems? (.ref T) >>= k ∧ k (some its.toArray) = pure (ps.zip (g its us ws))) :
    ∃ its : List Value, KBinds K fd ps ks (g its) (g dvs) := by
  obtain ⟨oc, od, dV, kV, doc, pm, an, cdv, ct, osl, rfl, lk, hcd, hD, hK⟩ := F.ex
  rcases hD with ⟨e, _⟩ | ⟨_, T, o, its, m, rfl, lT, oT, rT⟩
  · exact absurd e hd
  · refine ⟨its, ⟨fun s us ws X hl => ?_, fun r1 r2 => hrel rT r1 r2⟩⟩
    obtain ⟨k, e1, e2⟩ := h T kV doc pm an cdv ct us its ws rT.length.symm hl
    refine BindsTo.of_looks fun M => ?_
    rw [e1]
    exact looks_items X lT oT (.of_pure e2)
end
/-! ### C(k = v, ..) -/
def tMakeK (C : Addr) (sp : Sp) (gV : List V → List V → List V) (E : XK) (tk : TA) : TE := fun σ H Q => tk σ H fun zs H2 => ∀ x dx, H2 x = none → H2 dx = none → dx ≠ x → sp (gV [.ref x] zs) (upd (upd H2 dx (.own x)) x (.ins C dx [])) (fun v H3 => v = .non ∧ Q (.ref x) H3) E
section
variable {X : Cx} {CX : CXT} {k : Nat} {f C : Addr} {fd : FuncData} {ps ks : List Str} {sp : Sp} {E : XK} {x : Str} {p pos : Pos} {kws : List Keyword} {tk : TA} {g : List Value → List Value → List Value} {gV : List V → List V → List V}
theorem pe_makeK0 (M : Mk X.K C f) (F : FnOk X.prog X.w X.K X.mg X.base CX k f fd ps sp) (hr : Room (k + 1) X.A) (hg : Gl X x) (hm : X.mg x = some (.ref C)) (hb : KBinds X.K fd ps ks g gV) (hx : Passes CX X E)
    (hkw : PK X kws tk) (hall : (backToKw pos (keywordEach kws X.env)).all (·.1.isSome) = true := by rfl) (hks : (backToKw pos (keywordEach kws X.env)).filterMap (·.1) = ks := by rfl)
    (hdb : (x == ("__debug__" : Str)) = false := by decide)
    (hpl : ((backTo pos (starEach [] X.env)).any (·.1) || (backToKw pos (keywordEach kws X.env)).any (·.1.isNone)) = false := by rfl) :
    PE X (.Call (.Name x p) [] kws pos) (tMakeK C sp gV E tk) := by
  refine ⟨fun pins s σ H Q I h => ?_⟩
  refine wpAny_Call_Name_kw (ld_glob I hg hm ?_ hdb)
  refine PySem.W.callWith_KW0 (h₀ := X.base) I.ok.mod.kin M.kp hall (thn (hkw.run pos pins s σ H _ I h) fun ws s2 ⟨zs, H2, I2, rz, q2⟩ => ⟨I2.kIn, ?_⟩) hpl
  rw [hks]
  show wpAny _ _ (call (.ref C) [] (ks.zip ws)) _ _ _
  have hq := q2 (s2.heap.objs.size + 1) s2.heap.objs.size (I2.hok.fresh (Nat.le_succ _)) (I2.hok.fresh (Nat.le_refl _)) (Nat.ne_of_lt (Nat.lt_succ_self _))
  have I3 := Inv.made (C := C) I2
  have r1 : Vals [V.ref (s2.heap.objs.size + 1)] [Value.ref (s2.heap.objs.size + 1)] := .cons rfl .nil
  have r2 := hb.rel r1 rz
  have hl : (g [Value.ref (s2.heap.objs.size + 1)] ws).length = ps.length := by rw [← r2.length]; exact F.len _ _ _ _ hq
  refine wpAny_call (make_map (f := f) I2.kIn M.makes M.init (beq_iff_eq.mp M.fn) (codeAny_mono (F.run _ X.stack _ _ ⟨[Value.ref (s2.heap.objs.size + 1)], ks.zip ws⟩ (g [Value.ref (s2.heap.objs.size + 1)] ws) _ _ E (hr.make C [] (ks.zip ws))
    (I3.env0.make C [] (ks.zip ws)) (hb.to _ [Value.ref (s2.heap.objs.size + 1)] ws I3.kIn hl) r2 hq) fun r s' hq' => ?_))
  cases r with
  | error e => exact hx pins σ _ _ e s' I3 hq'
  | ok fl =>
    cases fl with
    | ret u =>
      obtain ⟨v, H', I4, rv, ev, q3⟩ := I3.after hq'
      subst ev
      exact ⟨rv, ⟨V.ref (s2.heap.objs.size + 1), H', I4, rfl, q3⟩⟩
    | next => exact False.elim hq'
    | brk => exact False.elim hq'
    | cont => exact False.elim hq'
end
theorem go_makeK {C : Addr} {sp : Sp} {gV : List V → List V → List V} {E : XK} {tk : TA} {σ : L2.St} {H : Hp} {Q : VK} (h : tk σ H fun zs H2 => ∀ x dx, H2 x = none → H2 dx = none → dx ≠ x → sp (gV [.ref x] zs) (upd (upd H2 dx (.own x)) x (.ins C dx [])) (fun v H3 => v = .non ∧ Q (.ref x) H3) E) : tMakeK C sp gV E tk σ H Q := h
theorem go_make0 {C : Addr} {sp : Sp} {dvs : List V} {E : XK} {σ : L2.St} {H : Hp} {Q : VK} (h : ∀ x dx, H x = none → H dx = none → dx ≠ x → sp (.ref x :: dvs) (upd (upd H dx (.own x)) x (.ins C dx [])) (fun v H2 => v = .non ∧ Q (.ref x) H2) E) : tMake C sp dvs E tNil σ H Q := h
end Vc

/-! Xq: own classes asked by built-in ways: len(x), y in x (my own; over the library's len_K, in_K). -/
namespace Vc
open PySem PySem.Spec PyProof.Rows L2
section
variable {X : Cx} {C g : Addr} {fd : FuncData} {ps : List Str} {sp : Sp} {n : Nat}
/-- an own special method that promises no error, run -/
theorem runO {A : Around} {pins : List (Addr × Obj)} {σ : L2.St} {s : Shared} {H : Hp} {us : List Value} {vs : List V} {Q : VK} {EE : Value → Shared → Prop} (F : FnOk X.prog X.w X.K X.mg X.base CX0 n g fd ps sp) (hr : Room n A) (hb : Binds X.K fd ps [])
    (I : Inv X pins σ H s) (env0 : Env0 X.prog X.w X.K X.mg X.base A X.stack s H) (r2 : Vals vs us) (q : sp vs H Q E0) :
    wpAny (model X.prog X.w) A (call (.ref g) us) (fun u s' => ∃ z H', Inv X pins σ H' s' ∧ RelV z u ∧ Q z H') EE s := by
  have hl := F.len _ _ _ _ q
  have hb' := hb s us I.kIn (by rw [List.append_nil, ← r2.length]; exact hl)
  rw [List.append_nil] at hb'
  refine wpAny_call (codeAny_mono (F.run A X.stack s H ⟨us, []⟩ us vs _ E0 hr env0 hb' r2 q) fun r s' hq => ?_)
  cases r with
  | error e => exact hq.elim
  | ok fl =>
    cases fl with
    | ret w =>
      obtain ⟨z, H', I', rz, qz⟩ := I.after hq
      exact ⟨z, H', I', rz, qz⟩
    | next => exact False.elim hq
    | brk => exact False.elim hq
    | cont => exact False.elim hq
/-- a class's own special method -/
structure SpM (K : PySem.W.Frag) (C g : Addr) (x : Str) : Prop where
  at_ : PySem.W.findIn K (.ref C) x = some (some (.ref g))
  fn : PySem.W.isFn K (.ref g) = true
/-- len(x) by x's own __len__ -/
def rLenO (C : Addr) (sp : Sp) : List V → Hp → VK → Prop := fun xs H Q => ∃ (a dx : Addr) (fs : List (Str × V)), xs = [.ref a] ∧ H a = some (.ins C dx fs) ∧ sp [.ref a] H (fun v H' => ∃ k : Int, v = .int k ∧ 0 ≤ k ∧ k < 2 ^ 63 ∧ Q (.int k) H') E0
theorem call_lenO (F : FnOk X.prog X.w X.K X.mg X.base CX0 n g fd ps sp) (hr : Room (n + 1) X.A) (m : SpM X.K C g "__len__") (hb : Binds X.K fd ps []) : CallR X (.builtin "len") (rLenO C sp) := by
  intro pins s σ H xs us Q I r h
  obtain ⟨a, dx, fs, rfl, ha, q⟩ := h
  rw [Vals.ref1 r]
  obtain ⟨mA, J, _⟩ := ins_get I.hok ha
  obtain ⟨od, J, _⟩ := J.look
  obtain ⟨mm, hF⟩ := I.fr
  refine PySem.W.len_K hF I.ok.mod.kin J m.at_ m.fn ?_
  refine wpAny_mono (runO (vs := [.ref a]) F hr.in1 hb I I.env0.in1 (.cons rfl .nil) q) (fun u s' hq => ?_) (fun _ _ e => e)
  obtain ⟨z, H', I', rz, k, rfl, k0, k1, qz⟩ := hq
  obtain ⟨t, rfl⟩ := rz
  exact ⟨⟨k0, k1⟩, .int k, H', I'.tok _, ⟨_, rfl⟩, qz⟩
/-- y in x by x's own __contains__ -/
def rInO (C : Addr) (sp : Sp) (b0 : Bool) : R2 := fun y x H Q => ∃ (a dx : Addr) (fs : List (Str × V)), x = .ref a ∧ H a = some (.ins C dx fs) ∧ sp [.ref a, y] H (fun v H' => ∃ b, v = .bl b ∧ Q (.bl (xor b0 b)) H') E0
theorem op_inO (F : FnOk X.prog X.w X.K X.mg X.base CX0 n g fd ps sp) (hr : Room n X.A) (m : SpM X.K C g "__contains__") (hb : Binds X.K fd ps []) : OpR X (compareOp .In) (rInO C sp false) := by
  intro pins s σ H y x v u Q I ry rx h
  obtain ⟨a, dx, fs, rfl, ha, q⟩ := h
  cases rx
  obtain ⟨mA, J, _⟩ := ins_get I.hok ha
  obtain ⟨od, J, _⟩ := J.look
  obtain ⟨mm, hF⟩ := I.fr
  refine PySem.W.in_K hF I.ok.mod.kin J m.at_ m.fn ?_
  refine wpAny_mono (runO (vs := [.ref a, y]) F hr hb I I.env0 (.cons rfl (.cons ry .nil)) q) (fun w' s' hq => ?_) (fun _ _ e => e)
  obtain ⟨z, H', I', rz, b, rfl, qz⟩ := hq
  cases rz
  rw [Bool.false_xor] at qz
  exact wpAny_truthy_bool ⟨.bl b, H', I', rfl, qz⟩
theorem op_notinO (F : FnOk X.prog X.w X.K X.mg X.base CX0 n g fd ps sp) (hr : Room n X.A) (m : SpM X.K C g "__contains__") (hb : Binds X.K fd ps []) : OpR X (compareOp .NotIn) (rInO C sp true) := by
  intro pins s σ H y x v u Q I ry rx h
  obtain ⟨a, dx, fs, rfl, ha, q⟩ := h
  cases rx
  obtain ⟨mA, J, _⟩ := ins_get I.hok ha
  obtain ⟨od, J, _⟩ := J.look
  obtain ⟨mm, hF⟩ := I.fr
  refine PySem.W.notIn_K hF I.ok.mod.kin J m.at_ m.fn ?_
  refine wpAny_mono (runO (vs := [.ref a, y]) F hr hb I I.env0 (.cons rfl (.cons ry .nil)) q) (fun w' s' hq => ?_) (fun _ _ e => e)
  obtain ⟨z, H', I', rz, b, rfl, qz⟩ := hq
  cases rz
  rw [Bool.true_xor] at qz
  exact wpAny_truthy_bool ⟨.bl (!b), H', I', rfl, qz⟩
/-- an own special method whose error is wished for at the caller's slots, run -/
theorem runOS {CX : CXT} {E : XK} {A : Around} {pins : List (Addr × Obj)} {σ : L2.St} {s : Shared} {H : Hp} {us : List Value} {vs : List V} {Q : VK} (F : FnOk X.prog X.w X.K X.mg X.base CX n g fd ps sp) (hr : Room n A) (hb : Binds X.K fd ps [])
    (hx : PassesAt CX X σ E) (I : Inv X pins σ H s) (env0 : Env0 X.prog X.w X.K X.mg X.base A X.stack s H) (r2 : Vals vs us) (q : sp vs H Q E) :
    wpAny (model X.prog X.w) A (call (.ref g) us) (EP X pins σ Q) X.xe s := by
  have hl := F.len _ _ _ _ q
  have hb' := hb s us I.kIn (by rw [List.append_nil, ← r2.length]; exact hl)
  rw [List.append_nil] at hb'
  refine wpAny_call (codeAny_mono (F.run A X.stack s H ⟨us, []⟩ us vs _ E hr env0 hb' r2 q) fun r s' hq => ?_)
  cases r with
  | error e => exact hx pins _ _ e s' I hq
  | ok fl =>
    cases fl with
    | ret w => exact I.after hq
    | next => exact False.elim hq
    | brk => exact False.elim hq
    | cont => exact False.elim hq
/-- x[y] by x's own __getitem__ -/
def tIxO (C : Addr) (sp : Sp) (E : L2.St → XK) (ta tb : TE) : TE := fun σ H Q => ta σ H fun x H1 => tb σ H1 fun y H2 => ∃ (a dx : Addr) (fs : List (Str × V)), x = .ref a ∧ H2 a = some (.ins C dx fs) ∧ sp [.ref a, y] H2 Q (E σ)
theorem pe_ixO {CX : CXT} {E : L2.St → XK} {a b : Expr} {ta tb : TE} {pos : Pos} (ha : PE X a ta) (hb0 : PE X b tb) (m : SpM X.K C g "__getitem__") (mf : PySem.W.fnIn X.K g = true) (F : FnOk X.prog X.w X.K X.mg X.base CX n g fd ps sp) (hr : Room (n + 1) X.A)
    (hb : Binds X.K fd ps []) (hx : ∀ σ, PassesAt CX X σ (E σ)) (hsl : ∀ o i, subscripted b true o i = runValue (.builtin "lifetime.subscript" ⟨[o, i], []⟩) := by intro _ _; with_unfolding_all rfl) : PE X (.Subscript a b pos) (tIxO C sp E ta tb) := by
  refine ⟨fun pins s σ H Q I h => ?_⟩
  refine Subscript_ (binT (R := fun x y H2 => ∃ (a dx : Addr) (fs : List (Str × V)), x = .ref a ∧ H2 a = some (.ins C dx fs) ∧ sp [.ref a, y] H2 Q (E σ)) ha hb0 I h fun v u s2 x y H2 I2 rx ry q => ?_)
  obtain ⟨p, dx, fs, rfl, hp, q⟩ := q
  cases rx
  obtain ⟨mA, J, _⟩ := ins_get I2.hok hp
  obtain ⟨od, J, _⟩ := J.look
  obtain ⟨mm, hF⟩ := I2.fr
  exact PySem.W.sub_K hF I2.ok.mod.kin J m.at_ mf m.fn (runOS (vs := [.ref p, y]) F hr.in1 hb (hx σ) I2 I2.env0.in1 (.cons rfl (.cons ry .nil)) q) (hsl _ _)
section
variable {ta tb : TE} {σ : L2.St} {H : Hp} {Q : VK} {E : L2.St → XK}
theorem go_ixO (h : ta σ H fun x H1 => tb σ H1 fun y H2 => ∃ (a dx : Addr) (fs : List (Str × V)), x = .ref a ∧ H2 a = some (.ins C dx fs) ∧ sp [.ref a, y] H2 Q (E σ)) : tIxO C sp E ta tb σ H Q := h
theorem go_insF {a dx : Addr} {fs : List (Str × V)} {R : Addr → Prop} (ha : H a = some (.ins C dx fs)) (h : R a) : ∃ (a' dx : Addr) (fs : List (Str × V)), V.ref a = .ref a' ∧ H a' = some (.ins C dx fs) ∧ R a' := ⟨a, dx, fs, rfl, ha, h⟩
theorem go_lenO {a dx : Addr} {fs : List (Str × V)} (ha : H a = some (.ins C dx fs)) (h : sp [.ref a] H (fun v H' => ∃ k : Int, v = .int k ∧ 0 ≤ k ∧ k < 2 ^ 63 ∧ Q (.int k) H') E0) : rLenO C sp [.ref a] H Q := ⟨a, dx, fs, rfl, ha, h⟩
theorem go_inO {a dx : Addr} {fs : List (Str × V)} {y : V} {b0 : Bool} (ha : H a = some (.ins C dx fs)) (h : sp [.ref a, y] H (fun v H' => ∃ b, v = .bl b ∧ Q (.bl (xor b0 b)) H') E0) : rInO C sp b0 y (.ref a) H Q := ⟨a, dx, fs, rfl, ha, h⟩
end
end
end Vc

/-! Xz: str(x) by x's own __str__; staticmethods called on their class (my own). -/
namespace Vc
open PySem PySem.Spec PyProof.Rows L2
section
open PySem.W PySem.Calls Builtin Builtin.Str
variable {prog : Program} {w : World} {A : Around} {E : Value → Shared → Prop} {s : Shared} {K : Frag} {x C L f : Addr} {h₀ : Heap} {m : Str → Option Value} {ox : Obj} {od : Option Obj}
theorem strOf_own {Q : Value → Shared → Prop} (hu : A.units < cLine) (X : K.In s.heap) (I : InstAt s.heap x ox C od) (hs : findIn K (.ref C) "__str__" = some (some (.ref f))) (hf : isFn K (.ref f) = true)
    (h : wpAny (model prog w) A (call (.ref f) [.ref x]) (StrBack Q) E s) : wpAny (model prog w) A (Builtin.Str.strOf (.ref x)) Q E s := by
  unfold Builtin.Str.strOf
  rw [if_neg (show ¬ isExactStr (Value.ref x) = true from by intro z; cases z)]
  refine wpAny_bind (wpAny_cRoomFor hu ?_)
  refine wpAny_bind (m := callSpecial? (.ref x) (Str.ofString "__str__")) (special_fn X I hs (beq_iff_eq.mp hf) (wpAny_mono h (fun r s' hr => ?_) fun _ _ y => y))
  cases r <;> first | exact hr.elim | skip
  repeat (first | wp_step)
  exact hr
theorem str_own {Q : Value → Shared → Prop} (hu : A.units + 2 < cLine) (X : K.In s.heap) (I : InstAt s.heap x ox C od) (hs : findIn K (.ref C) "__str__" = some (some (.ref f))) (hf : isFn K (.ref f) = true)
    (h : wpAny (model prog w) A.in1.in1 (call (.ref f) [.ref x]) (StrBack Q) E s) : wpAny (model prog w) A (call (.type "str") [.ref x]) Q E s :=
  callType_newIn F.called_str (by decide) (F.typeCall_str_1 _) (F.newCall_str_1 _) (fun obj => F.args_object_init_2 obj _) F.entry_str_new
    (S := fun A' R s' => A'.units + 1 < cLine ∧ K.In s'.heap ∧ InstAt s'.heap x ox C od ∧ wpAny (model prog w) A'.in1 (call (.ref f) [.ref x]) (StrBack fun r s1 => R (.ok (.ret r)) s1) (fun e s1 => R (.error e) s1) s')
    (.of_wp fun A' R s' hq => by
      rw [str_new_tree (.ref x)]
      refine wpAny_bind (wpAny_pure ?_)
      refine wpAny_bind (wpAny_of_eq isSubtype_str_str ?_)
      exact wpAny_bind (wpAny_mono (strOf_own (A := A'.in1) (Q := fun r s1 => R (.ok (.ret r)) s1) hq.1 hq.2.1 hq.2.2.1 hs hf hq.2.2.2) (fun r s1 h1 => wpAny_pure ⟨_, rfl, h1⟩) fun _ _ e => e))
    ⟨hu, X, I, wpAny_mono h (fun r s1 h1 => by
      cases r <;> first | exact h1.elim | skip
      exact ⟨typeIs_str _ _ _, h1⟩) fun _ _ e => e⟩
end
section
variable {X : Cx} {C g : Addr} {fd : FuncData} {ps : List Str} {sp : Sp} {n : Nat}
/-- str(x) by x's own __str__ -/
def rStrO (C : Addr) (sp : Sp) : List V → Hp → VK → Prop := fun xs H Q => ∃ (a dx : Addr) (fs : List (Str × V)), xs = [.ref a] ∧ H a = some (.ins C dx fs) ∧ sp [.ref a] H (fun v H' => ∃ z, v = .str z ∧ Q (.str z) H') E0
theorem call_strO (F : FnOk X.prog X.w X.K X.mg X.base CX0 n g fd ps sp) (hr : Room (n + 2) X.A) (m : SpM X.K C g "__str__") (hb : Binds X.K fd ps []) : CallR X (.type "str") (rStrO C sp) := by
  intro pins s σ H xs us Q I r h
  obtain ⟨a, dx, fs, rfl, ha, q⟩ := h
  rw [Vals.ref1 r]
  obtain ⟨mA, J, _⟩ := ins_get I.hok ha
  obtain ⟨od, J, _⟩ := J.look
  refine str_own (by have := hr.un; omega) I.kIn J m.at_ m.fn ?_
  refine wpAny_mono (runO (vs := [.ref a]) F hr.in1.in1 hb I I.env0.in1.in1 (.cons rfl .nil) q) (fun u s' hq => ?_) (fun _ _ e => e)
  obtain ⟨z, H', I', rz, k, rfl, qz⟩ := hq
  obtain ⟨t, rfl⟩ := rz
  exact ⟨.str k, H', I', ⟨_, rfl⟩, qz⟩
/-! ### C.m(..), m a staticmethod -/
structure SMet (K : PySem.W.Frag) (C : Addr) (mc : Value) (m : Str) (p g : Addr) : Prop where
  at_ : PySem.W.findCls K (.ref C) mc m = some (.get (.builtin "staticmethod.__get__") (.ref p) .none (.ref C))
  rc : ∃ rest, PySem.W.recIn K p "staticmethod" = some (.ref g :: rest)
  kp : PySem.W.keepIn K (.ref g) = true
theorem getsm_ok {pins : List (Addr × Obj)} {σ : L2.St} {H : Hp} {s : Shared} {A : Around} {E : Value → Shared → Prop} {mc : Value} {m : Str} {p : Addr} {pl : Sem Bool} {Q : Value × List Value → Shared → Prop} (I : Inv X pins σ H s) (r : ClX.CRead X.K C mc) (k : SMet X.K C mc m p g)
    (h : ∀ s', Inv X pins σ H s' → Q (.ref g, []) s') : wpAny (model X.prog X.w) A (getMethod (.ref C) m pl) Q E s := by
  obtain ⟨rest, hp⟩ := k.rc
  refine PySem.W.method_cls I.kIn r.ga ?_
  refine PySem.W.cls_bind I.kIn r.rd k.at_ ?_
  exact wpAny_call (PySem.W.sm_get (s := { s with toks := s.toks + 1 }) I.kIn hp (PySem.W.handed_on rfl (h _ (I.tok _))))
def tSMeth (C : Addr) (sp : Sp) (E : XK) (ta : TE) (t : TA) : TE := fun σ H Q => ta σ H fun x H1 => x = .ref C ∧ t σ H1 fun vs H2 => sp vs H2 Q E
theorem pe_smeth {CX : CXT} {E : XK} {o e : Expr} {es : List Expr} {m : Str} {pos apos : Pos} {ta : TE} {t : TA} {pl : Sem Bool} {mc : Value} {p : Addr} (he : PE X o ta) (r : ClX.CRead X.K C mc) (c : SMet X.K C mc m p g) (F : FnOk X.prog X.w X.K X.mg X.base CX n g fd ps sp) (hr : Room n X.A) (hb : Binds X.K fd ps []) (hx : Passes CX X E) (ha : PA X (e :: es) t)
    (hst : starEach (e :: es) X.env = (false, eval e X.env) :: starEach es X.env := by rfl) (hpl : (backTo pos (starEach es X.env)).any (·.1) = false := by rfl)
    (ht : eval (.Call (.Attribute o m apos) (e :: es) [] pos) X.env = (do
      let ov ← eval o X.env
      standAt apos.atName
      let (f, first) ← holding [ov] (getMethod ov m pl)
      callWith pos f first (backTo pos (starEach (e :: es) X.env)) (backToKw pos (keywordEach [] X.env))) := by rfl) :
    PE X (.Call (.Attribute o m apos) (e :: es) [] pos) (tSMeth C sp E ta t) := by
  refine ⟨fun pins s σ H Q I h => ?_⟩
  refine PySem.W.methodCall_KW (pl := pl) (thn (he.run pins s σ H _ I h) fun u s1 ⟨x, H1, I1, rx, ex, q⟩ => ?_) ht
  subst ex
  obtain rfl : u = Value.ref C := rx
  refine getsm_ok I1 r c fun s2 I2 => ?_
  refine PySem.W.callWith_K (first := []) (h₀ := X.base) I.ok.mod.kin c.kp (thn (ha.run pos pins s2 σ H1 _ I2 q) fun us s3 ⟨vs, H2, I3, r3, q2⟩ => ⟨I3.kIn, ?_⟩) hst hpl
  exact run_fn F hr hb .nil hx I3 r3 (by rw [List.append_nil]; exact q2)
theorem pe_smeth0 {CX : CXT} {E : XK} {o : Expr} {m : Str} {pos apos : Pos} {ta : TE} {pl : Sem Bool} {mc : Value} {p : Addr} (he : PE X o ta) (r : ClX.CRead X.K C mc) (c : SMet X.K C mc m p g) (F : FnOk X.prog X.w X.K X.mg X.base CX n g fd ps sp) (hr : Room n X.A) (hb : Binds X.K fd ps []) (hx : Passes CX X E)
    (ht : eval (.Call (.Attribute o m apos) [] [] pos) X.env = (do
      let ov ← eval o X.env
      standAt apos.atName
      let (f, first) ← holding [ov] (getMethod ov m pl)
      callWith pos f first (backTo pos (starEach [] X.env)) (backToKw pos (keywordEach [] X.env))) := by rfl) :
    PE X (.Call (.Attribute o m apos) [] [] pos) (tSMeth C sp E ta tNil) := by
  refine ⟨fun pins s σ H Q I h => ?_⟩
  refine PySem.W.methodCall_KW (pl := pl) (thn (he.run pins s σ H _ I h) fun u s1 ⟨x, H1, I1, rx, ex, q⟩ => ?_) ht
  subst ex
  obtain rfl : u = Value.ref C := rx
  refine getsm_ok I1 r c fun s2 I2 => ?_
  exact PySem.W.callWith_K0 I2.kIn c.kp (run_fn (us := []) F hr hb .nil hx I2 .nil (by rw [List.append_nil]; exact q))
section
variable {K : PySem.W.Frag} {σ : L2.St} {H : Hp} {Q : VK} {ta : TE} {t : TA} {E : XK}
theorem go_strO {a dx : Addr} {fs : List (Str × V)} (ha : H a = some (.ins C dx fs)) (h : sp [.ref a] H (fun v H' => ∃ z, v = .str z ∧ Q (.str z) H') E0) : rStrO C sp [.ref a] H Q := ⟨a, dx, fs, rfl, ha, h⟩
theorem go_smeth (h : ta σ H fun x H1 => x = .ref C ∧ t σ H1 fun vs H2 => sp vs H2 Q E) : tSMeth C sp E ta t σ H Q := h
theorem go_refC {P : Prop} (h : P) : V.ref C = V.ref C ∧ P := ⟨rfl, h⟩
end
end
/-! ### dicts whose values are data, compared: equal ones -/
theorem hits_dp {X : Cx} {pins : List (Addr × Obj)} {σ : L2.St} {H : Hp} {s : Shared} (I : Inv X pins σ H s) {A : Around} (hu : A.in1.units + 64 < cLine) {ls : List (Key × V)} {vb : List (Key × Value)} (rb : KV ls vb) {ks : List (Key × V)} {va : List (Key × Value)}
    (ra : KV ks va) : (∀ p ∈ ks, ∃ u d, valV ls p.1 = some u ∧ Dp X.K H p.2 d ∧ Dp X.K H u d ∧ SeqAt.shaped d = true) → PySem.W.KeqHits A.in1 s vb va true := by
  unfold KV at ra
  induction ra with
  | nil => intro _; exact .nil
  | @cons p q ps qs h t k =>
    intro hp
    obtain ⟨h1, h2⟩ := h
    obtain ⟨u, d, e, d1, d2, sd⟩ := hp p List.mem_cons_self
    have rr : RelO (some u) (valueAt vb p.1) := by rw [← e]; exact rb.val p.1
    obtain ⟨y, hy, ry⟩ := rr.some_of
    obtain ⟨key, v⟩ := q
    have h1' : p.1 = key := h1
    rw [h1'] at hy
    obtain ⟨as, r1⟩ := Dp.reads I d _ _ d1 h2
    obtain ⟨bs, r2⟩ := Dp.reads I d _ _ d2 ry
    have eq := PySem.W.keq_at (A := A) r1 r2 sd sd hu
    rw [SeqAt.eqv_refl d (SeqAt.canLay_of_shaped sd)] at eq
    show PySem.W.KeqHits A.in1 s vb ((key, v) :: qs) (true && true)
    exact .hit hy eq (k fun p' hm => hp p' (List.mem_cons_of_mem _ hm))
def rDD (K : PySem.W.Frag) (b : Bool) : R2 := fun x y H Q => ∃ a c ks ls, x = .ref a ∧ y = .ref c ∧ H a = some (.dK ks) ∧ H c = some (.dK ls) ∧ ks.length = ls.length ∧ (∀ p ∈ ks, ∃ u d, valV ls p.1 = some u ∧ Dp K H p.2 d ∧ Dp K H u d ∧ SeqAt.shaped d = true) ∧ Q (.bl b) H
theorem op_eqDD {X : Cx} (hu : X.A.units + 66 < cLine) : OpR X (compareOp .Eq) (rDD X.K true) := by
  intro pins s σ H x y v u Q I rx ry h
  obtain ⟨a, b, ks, ls, rfl, rfl, ea, eb, hlen, hp, q⟩ := h
  obtain rfl : v = Value.ref a := rx
  obtain rfl : u = Value.ref b := ry
  obtain ⟨_, ya, va, ra, da⟩ := (show ObjOk X.prog X.w H s.heap a (.dK ks) from I.hok a _ ea)
  obtain ⟨_, yb, vb, rb, db⟩ := (show ObjOk X.prog X.w H s.heap b (.dK ls) from I.hok b _ eb)
  have hl : va.length = vb.length := by rw [← ra.length, ← rb.length]; exact hlen
  exact PySem.W.keq_eq (knd := mixKind X.prog X.w) (r := true) ya yb da db (by omega) (fun _ => hits_dp I (by show X.A.units + 1 + 64 < cLine; omega) rb ra hp) (fin_bl I q (by simp [hl]))
theorem op_neDD {X : Cx} (hu : X.A.units + 66 < cLine) : OpR X (compareOp .NotEq) (rDD X.K false) := by
  intro pins s σ H x y v u Q I rx ry h
  obtain ⟨a, b, ks, ls, rfl, rfl, ea, eb, hlen, hp, q⟩ := h
  obtain rfl : v = Value.ref a := rx
  obtain rfl : u = Value.ref b := ry
  obtain ⟨_, ya, va, ra, da⟩ := (show ObjOk X.prog X.w H s.heap a (.dK ks) from I.hok a _ ea)
  obtain ⟨_, yb, vb, rb, db⟩ := (show ObjOk X.prog X.w H s.heap b (.dK ls) from I.hok b _ eb)
  have hl : va.length = vb.length := by rw [← ra.length, ← rb.length]; exact hlen
  exact PySem.W.keq_ne (knd := mixKind X.prog X.w) (r := true) ya yb da db (by omega) (fun _ => hits_dp I (by show X.A.units + 1 + 64 < cLine; omega) rb ra hp) (fin_bl I q (by simp [hl]))
theorem room66 {k : Nat} {A : Around} (r : Room k A) : A.units + 66 < cLine := by have := r.un; omega
/-! ### d.pop(k), there -/
def rDPop : V → List V → Hp → VK → Prop := fun x xs H Q => ∃ (a : Addr) (kvs : List (Key × V)) (k : Key) (v : V), x = .ref a ∧ xs = [kV k] ∧ H a = some (.dK kvs) ∧ valV kvs k = some v ∧ Q v (upd H a (.dK (dropK kvs k)))
theorem mt_dpop {X : Cx} : MtR X "dict.pop" rDPop := by
  intro pins s σ H x xs v us Q I rx rxs h
  obtain ⟨a, kvs, k, v', rfl, rfl, e, l, q⟩ := h
  cases rx
  obtain ⟨u, rfl, ru⟩ := rxs.one
  exact d_pop I e ru l (.inl rfl) fun w' s' I' r' => ⟨v', _, I', r', q⟩
section
variable {K : PySem.W.Frag} {H : Hp} {Q : VK} {σ : L2.St} {te : TE} {ts : List TE} {acc : Str}
theorem go_dpopI {a : Addr} {kvs : List (Key × V)} {k : Int} {v : V} (e : H a = some (.dK kvs)) (l : valV kvs (.inl k) = some v) (h : Q v (upd H a (.dK (dropK kvs (.inl k))))) : rDPop (.ref a) [.int k] H Q := ⟨a, kvs, .inl k, v, rfl, rfl, e, l, h⟩
theorem go_tyD {a : Addr} {kvs : List (Key × V)} {P : Prop} (e : H a = some (.dK kvs)) (h : P) : tyV K "dict" (.ref a) H ∧ P := ⟨.inr (.inr (.inl ⟨rfl, .inl ⟨kvs, e⟩⟩)), h⟩
theorem go_dclear {a : Addr} {kvs : List (Key × V)} (e : H a = some (.dK kvs)) (h : Q .non (upd H a (.dK []))) : rDClear (.ref a) [] H Q := ⟨a, kvs, rfl, rfl, e, h⟩
theorem go_lclear {a : Addr} {xs : List V} (e : H a = some (.lst xs)) (h : Q .non (upd H a (.lst []))) : rClear (.ref a) [] H Q := ⟨a, xs, rfl, rfl, e, h⟩
theorem go_revL (h : te σ H fun x H1 => ∃ a xs, x = .ref a ∧ SqL K H1 a xs ∧ ∀ p, H1 p = none → Q (.ref p) (upd H1 p (.lst xs.reverse))) : tRevL K te σ H Q := h
theorem go_revLV {a : Addr} {xs : List V} {R : List V → Prop} (e : SqL K H a xs) (h : R xs) : ∃ a' ys, V.ref a = .ref a' ∧ SqL K H a' ys ∧ R ys := ⟨a, xs, rfl, e, h⟩
theorem go_js0 {R : Str → Hp → Prop} (h : R acc H) : tJs [] acc σ H R := h
theorem go_jsS {y : Str} {R : Str → Hp → Prop} (l : (acc ++ y).length ≤ 1000) (h : tJs ts (acc ++ y) σ H R) : tJs (tC (.str y) :: ts) acc σ H R := ⟨y, rfl, Nat.le_of_lt (small1000 l), h⟩
theorem go_js {R : Str → Hp → Prop} (h : te σ H fun x H1 => ∃ y : Str, x = .str y ∧ (acc ++ y).length ≤ sizeLine ∧ tJs ts (acc ++ y) σ H1 R) : tJs (te :: ts) acc σ H R := h
theorem go_jsV {y : Str} {P : Str → Prop} (l : (acc ++ y).length ≤ 1000) (h : P y) : ∃ z : Str, V.str y = .str z ∧ (acc ++ z).length ≤ sizeLine ∧ P z := ⟨y, rfl, Nat.le_of_lt (small1000 l), h⟩
theorem go_szS {y : Str} {P : Prop} (l : y.length ≤ 1000) (h : P) : y.length ≤ sizeLine ∧ P := ⟨Nat.le_of_lt (small1000 l), h⟩
theorem go_fmt (h : te σ H fun x H1 => (∃ y : Str, x = .str y ∧ y.length ≤ sizeLine ∧ Q (.str y) H1) ∨ ∃ i : Int, x = .int i ∧ i.natAbs.log2 < 1920 ∧ Q (.str (toString i)) H1) : tFmt te σ H Q := h
theorem go_fmtS {y : Str} {P : Str → Prop} {P' : Int → Prop} (l : y.length ≤ 1000) (h : P y) : (∃ z : Str, V.str y = .str z ∧ z.length ≤ sizeLine ∧ P z) ∨ ∃ i : Int, V.str y = .int i ∧ i.natAbs.log2 < 1920 ∧ P' i := .inl ⟨y, rfl, Nat.le_of_lt (small1000 l), h⟩
theorem go_fmtI {i : Int} {P : Str → Prop} {P' : Int → Prop} (l : i.natAbs.log2 < 1920) (h : P' i) : (∃ z : Str, V.int i = .str z ∧ z.length ≤ sizeLine ∧ P z) ∨ ∃ j : Int, V.int i = .int j ∧ j.natAbs.log2 < 1920 ∧ P' j := .inr ⟨i, rfl, l, h⟩
theorem go_strI {i : Int} {P : Int → Prop} (l : i.natAbs.log2 < 1920) (h : P i) : ∃ j, [V.int i] = [.int j] ∧ j.natAbs.log2 < 1920 ∧ P j := ⟨i, rfl, l, h⟩
end
end Vc

/-! Xi: list(x), x of an own class whose __iter__ gives a list's iterator (and that has its own __len__). -/
namespace Vc
open PySem PySem.Spec PyProof.Rows L2
section
variable {prog : Program} {w : World} {A : Around} {E : Value → Shared → Prop} {s : Shared} {it l : Addr} {i : Nat} {items : Array Value}
theorem py_item {x : Value} {Q : Option Value → Shared → Prop} (ho : s.heap.get? it = some (GNX.itObj l i)) (hl : s.heap.IsList l items) (hx : items[i]? = some x)
    (hQ : ∀ h', h'.get? it = some (GNX.itObj l (i + 1)) → Heap.SameBut it s.heap h' → Q (some x) { s with heap := h' }) : wpAny (model prog w) A (pyNext (.ref it)) Q E s := by
  have hit : s.heap.IsListIter it l i := ⟨_, ho, rfl, rfl⟩
  unfold pyNext
  refine wpAny_bind (wpAny_attempt (wpAny_callSpecial?_slot (name := Str.ofString "__next__") hit.typeIs slot_listiter_next
    (wpAny_call_entry slot_listiter_next hit.typeIs entry_listiter_next ?_ (args_listiter_next _))))
  exact GNX.next_item ho hl hx fun h' e' sb => wpAny_pure (hQ h' e' sb)
theorem py_end {Q : Option Value → Shared → Prop} (hh : A.handled = none) (ho : s.heap.get? it = some (GNX.itObj l i)) (hl : s.heap.IsList l items) (hx : items[i]? = none)
    (hQ : ∀ h1 h' e vs, h1.get? it = some (GNX.itEnd i) → Heap.SameBut it s.heap h1 → (∀ b o, h1.get? b = some o → h'.get? b = some o) → h1.get? e = none →
      h'.get? e = some { cls := .type "StopIteration", data := .fields vs } → vs[1]? = some .none → Q none { s with heap := h' }) : wpAny (model prog w) A (pyNext (.ref it)) Q E s := by
  have hit : s.heap.IsListIter it l i := ⟨_, ho, rfl, rfl⟩
  unfold pyNext
  refine wpAny_bind (wpAny_attempt (wpAny_callSpecial?_slot (name := Str.ofString "__next__") hit.typeIs slot_listiter_next
    (wpAny_call_entry slot_listiter_next hit.typeIs entry_listiter_next ?_ (args_listiter_next _))))
  refine GNX.next_end hh ho hl hx fun h1 h' e vs e1 sb k ne he hv => ?_
  refine wpAny_bind (wpAny_isInstance (T := "StopIteration") (b := true) ⟨_, he, rfl⟩ isSubtype_stop ?_)
  exact wpAny_pure (hQ h1 h' e vs e1 sb k ne he hv)
end
section
variable {X : Cx} {pins : List (Addr × Obj)} {σ : L2.St}
theorem li_loop {q it l : Addr} {zs : List V} {H0 : Hp} {A1 : Around} {Rs : Result → Shared → Prop} (hh : A1.in1.handled = none) (hlq : l ≠ q) (hli : l ≠ it) (hiq : it ≠ q) (zl : zs.length ≤ 1000)
    (hdone : ∀ H s, Inv X pins σ H s → H q = some (.lst zs) → Ed [q, it] H0 H → Rs (.ok (.ret .none)) s) :
    ∀ (n i : Nat) (H : Hp) (s : Shared), n + i = zs.length → Inv X pins σ H s → H it = some (ItO l it i) → SqL X.K H l zs → H q = some (.lst (zs.take i)) → Ed [q, it] H0 H →
      codeAny (model X.prog X.w) A1 (.builtin "list.extend.loop" ⟨[.ref q, .ref it, .none], []⟩) Rs s := by
  intro n
  induction n with
  | zero =>
    intro i H s hn I hit hl hq e
    refine codeAny_builtin PySem.F.entry_extend_loop ?_
    rw [Around.under_plainId PySem.F.plain_extend_loop _]
    show wpAny _ A1.in1 (pyNext (.ref it) >>= _) _ _ s
    obtain ⟨its, rv, pl, hz⟩ := I.list hl
    have mu : Mut (H it) := by rw [hit]; exact True.intro
    refine wpAny_bind (py_end hh (itO_get I hit) pl.isList (by rw [List.getElem?_toArray]; exact rv.none_of (by rw [List.getElem?_eq_none]; omega)) fun h1 h' e' vs e1 sb k ne he hv => ?_)
    have I2 : Inv X pins σ (upd H it (ItE it i)) { s with heap := h1 } := I.write (x := it) (e := it) (t' := s.toks) mu (.inl rfl) (fun b o nb z => (sb.2 b nb).trans z) ⟨_, e1⟩ (itE_ok e1)
    generalize hu : upd H it (ItE it i) = H2 at I2
    obtain ⟨e2, h2⟩ := chg hu hit
    have I3 : Inv X pins σ H2 { s with heap := h' } := L2.Inv.turnedL (s := { s with heap := h1 }) I2 (t' := s.toks) (ch := []) (h' := h') (fun b o _ e => k b o e) (fun b hb => by cases hb)
    refine wpAny_pure (hdone H2 _ I3 ?_ (e.one e2 (.inl (by simp))))
    rw [e2.at1 hiq.symm hq, List.take_of_length_le (by omega)]
  | succ n ih =>
    intro i H s hn I hit hl hq e
    refine codeAny_builtin PySem.F.entry_extend_loop ?_
    rw [Around.under_plainId PySem.F.plain_extend_loop _]
    show wpAny _ A1.in1 (pyNext (.ref it) >>= _) _ _ s
    obtain ⟨its, rv, pl, hz⟩ := I.list hl
    have mu : Mut (H it) := by rw [hit]; exact True.intro
    obtain ⟨v, hv⟩ : ∃ v, zs[i]? = some v := ⟨_, List.getElem?_eq_getElem (by omega)⟩
    obtain ⟨u, hu, ru⟩ := rv.get hv
    refine wpAny_bind (py_item (itO_get I hit) pl.isList (x := u) (by rw [List.getElem?_toArray]; exact hu) fun h' e' sb => ?_)
    have I2 : Inv X pins σ (upd H it (ItO l it (i + 1))) { s with heap := h' } := I.write (x := it) (e := it) (t' := s.toks) mu (.inl rfl) (fun b o nb z => (sb.2 b nb).trans z) ⟨_, e'⟩ (itO_ok e')
    generalize hg : upd H it (ItO l it (i + 1)) = H2 at I2
    obtain ⟨e2, h2⟩ := chg hg hit
    have hq2 := e2.at1 hiq.symm hq
    show wpAny _ A1.in1 (updateSeq q (·.push u) >>= _) _ _ _
    obtain ⟨z, its2, k, r2, hl2, e3⟩ := I2.lstM hq2
    refine wpAny_bind (wpAny_updateSeq e3 rfl (wpAny_pure ⟨plainId_quiet PySem.F.plain_extend_loop _, ?_⟩) (by rw [List.size_toArray]; omega) (by show (its2.toArray.push u).size ≤ sizeLine + 1; rw [Array.size_push, List.size_toArray]; omega))
    have I3 := I2.lset (f := (·.push u)) (its' := its2 ++ [u]) (t' := s.toks) hq2 e3 (by simp) (r2.append (.cons ru .nil)) (by have := small1000 zl; rw [List.length_append, List.length_take]; show _ + 1 ≤ _; omega)
    generalize hw : upd H2 q _ = H3 at I3
    obtain ⟨e4, h4⟩ := chg hw hq2
    refine ih (i + 1) H3 _ (by omega) I3 (e4.at1 hiq h2) ?_ ?_ ?_
    · exact e4.sql1 hlq (e2.sql1 hli hl)
    · rw [h4, List.take_add_one, hv]; rfl
    · exact (e.one e2 (.inl (by simp))).one e4 (.inl (by simp))
/-- x's own __len__, asked for a hint -/
theorem li_hint {H : Hp} {s : Shared} {C g a : Addr} {dx : Addr} {fs : List (Str × V)} {fd : FuncData} {ps : List Str} {sp : Sp} {n : Nat} {A1 : Around} {EE : Value → Shared → Prop} {Q : Bool → Shared → Prop}
    (F : FnOk X.prog X.w X.K X.mg X.base CX0 n g fd ps sp) (hr : Room n A1.in1) (m : SpM X.K C g "__len__") (hb : Binds X.K fd ps []) (I : Inv X pins σ H s) (env0 : Env0 X.prog X.w X.K X.mg X.base A1.in1 X.stack s H) (ha : H a = some (.ins C dx fs))
    {G : VK} (q : sp [.ref a] H G E0) (kk : ∀ v H', G v H' → ∃ k : Int, v = .int k ∧ 0 ≤ k ∧ k ≤ 1000 ∧ ∀ s', Inv X pins σ H' s' → ∀ b, Q b s') : wpAny (model X.prog X.w) A1 (Builtin.List.listLengthHint (.ref a)) Q EE s := by
  obtain ⟨mA, J, _⟩ := ins_get I.hok ha
  obtain ⟨od, J, _⟩ := J.look
  obtain ⟨mm, hF⟩ := I.fr
  unfold Builtin.List.listLengthHint
  refine wpAny_bind (wpAny_bind (J.type.here ((PySem.W.looks_findIn I.kIn m.at_).here ?_)))
  refine PySem.W.KFB.if_not rfl ?_
  refine wpAny_bind (m := rule "list.length-hint.len") (wpAny_rule ?_)
  refine wpAny_bind (wpAny_attempt ?_)
  refine PySem.W.len_K hF I.ok.mod.kin J m.at_ m.fn ?_
  refine wpAny_mono (runO (vs := [.ref a]) (EE := fun _ _ => False) F hr hb I env0 (.cons rfl .nil) q) (fun u s' hq => ?_) (fun _ _ e => e.elim)
  obtain ⟨z, H', I', rz, hg⟩ := hq
  obtain ⟨k, rfl, k0, k1, qz⟩ := kk _ _ hg
  obtain ⟨t, rfl⟩ := rz
  refine ⟨⟨k0, by omega⟩, ?_⟩
  have tl : Builtin.List.listTooLong k.toNat = false := notLongL (Nat.le_of_lt (small1000 (by omega)))
  refine wpAny_bind (m := asInt? (.int k _)) (wpAny_of_eq (a := some k) rfl ?_)
  show wpAny _ _ (if Builtin.List.listTooLong k.toNat = true then _ else _) _ _ _
  rw [tl, if_neg (by decide)]
  exact wpAny_pure (qz _ (I'.tok _) _)
/-- what x's own __iter__ and __len__ do: a list's iterator, a number -/
def LiRun (K : PySem.W.Frag) (spI spL : Sp) (a q : Addr) (zs : List V) (H : Hp) (R : Hp → Prop) : Prop :=
  spI [.ref a] H (fun v H1 => ∃ l it, v = .ref it ∧ Ed [] H H1 ∧ H it = none ∧ H1 it = some (ItO l it 0) ∧ SqL K H1 l zs ∧ l ≠ q ∧ l ≠ it ∧
    spL [.ref a] H1 (fun w H2 => ∃ k : Int, w = .int k ∧ 0 ≤ k ∧ k ≤ 1000 ∧ Ed [] H1 H2 ∧ R H2) E0) E0
theorem li_extend {H : Hp} {s : Shared} {C gi gl a q dx : Addr} {fs : List (Str × V)} {fdI fdL : FuncData} {psI psL : List Str} {spI spL : Sp} {n : Nat} {A1 : Around} {zs : List V} {Rs : Result → Shared → Prop}
    (FI : FnOk X.prog X.w X.K X.mg X.base CX0 n gi fdI psI spI) (mI : SpM X.K C gi "__iter__") (bI : Binds X.K fdI psI []) (FL : FnOk X.prog X.w X.K X.mg X.base CX0 n gl fdL psL spL) (mL : SpM X.K C gl "__len__") (bL : Binds X.K fdL psL [])
    (sb : Sub X n A1.in1.in1) (sb1 : Sub X n A1.in1) (hh : A1.in1.handled = none) (I : Inv X pins σ H s) (ha : H a = some (.ins C dx fs)) (hq : H q = some (.lst [])) (zl : zs.length ≤ 1000)
    (hrun : LiRun X.K spI spL a q zs H fun _ => True) (hdone : ∀ H' s', Inv X pins σ H' s' → Ed [q] H H' → H' q = some (.lst zs) → Rs (.ok (.ret .none)) s') :
    wpAny (model X.prog X.w) A1.in1 (Builtin.List.listExtendWith (.ref q) (.ref a) .none)
      (fun fin s' => match fin with | .done f => Rs (.ok f) s' | .again c' => c'.quiet = true ∧ codeAny (model X.prog X.w) A1 c' Rs s') (fun e s' => Rs (.error e) s') s := by
  have hne : q ≠ a := ne_of hq ha (fun z => nomatch z)
  obtain ⟨mA, J, _⟩ := ins_get I.hok ha
  obtain ⟨od, J, _⟩ := J.look
  obtain ⟨m0, hF⟩ := I.fr
  unfold Builtin.List.listExtendWith
  refine wpAny_bind (J.type.here ?_)
  have h1 : Builtin.List.listSameRef (.ref q) (.ref a) = false := by simp [Builtin.List.listSameRef, hne]
  have h2 : (Value.ref C == Value.type "list") = false := rfl
  have h3 : (Value.ref C == Value.type "tuple") = false := rfl
  simp only [h1, h2, h3, Bool.or_false, Bool.false_eq_true, if_false]
  refine wpAny_bind (PySem.W.owit_iter hF I.ok.mod.kin J mI.at_ mI.fn ?_)
  have env : ∀ {A' : Around} {s' : Shared} {H' : Hp}, Sub X n A' → Inv X pins σ H' s' → Env0 X.prog X.w X.K X.mg X.base A' X.stack s' H' := fun sb I => by
    have e := I.env0
    exact ⟨by rw [sb.fr]; exact e.frames, e.mod, e.bs, e.bsz, e.funs, e.frf, e.hok, e.bare⟩
  refine wpAny_mono (runO (vs := [.ref a]) (EE := fun _ _ => False) FI sb1.room bI I (env sb1 I) (.cons rfl .nil) hrun) (fun u s' hq' => ?_) (fun _ _ e => e.elim)
  obtain ⟨z, H1, I1, rz, l, it, rfl, e1, nit, hit, hl, hlq, hli, hL⟩ := hq'
  cases rz
  have hT : s'.TypeIs (.ref it) "list_iterator" := ⟨_, itO_get I1 hit, rfl⟩
  unfold PySem.W.OwitIt
  refine wpAny_specialOf (name := Str.ofString "__next__") hT slot_listiter_next.lookup ?_
  have ha1 := e1.at0 ha
  have hq1 := e1.at0 hq
  have hiq : it ≠ q := fun z => by rw [z, hq] at nit; cases nit
  refine wpAny_bind (wpAny_holding (li_hint FL sb.room mL bL I1 (env sb I1) ha1 hL fun v H2 hg => ?_))
  obtain ⟨k, ek, k0, k1, e2, _⟩ := hg
  refine ⟨k, ek, k0, k1, fun s2 I2 b => ?_⟩
  have hq2 := e2.at0 hq1
  have hit2 : H2 it = some (ItO l it 0) := e2.keep _ _ (fun z => nomatch z) hit
  have hl2 := e2.sql0 hl
  have e12 : Ed [] H H2 := e1.ex e2
  have loop : ∀ s3, Inv X pins σ H2 s3 → codeAny (model X.prog X.w) A1 (.builtin "list.extend.loop" ⟨[.ref q, .ref it, .none], []⟩) Rs s3 := fun s3 I3 =>
    li_loop hh hlq hli hiq zl (H0 := H2) (fun H' s' I' hq' e' => hdone H' s' I' (Ed.two' e' (Ed.refl.ex e12) (.inl (by simp)) (.inr nit)) hq') zs.length 0 H2 s3 (by omega) I3 hit2 hl2 (by rw [hq2]; rfl) .refl
  obtain ⟨z, its, kk, r3, hl3, e3⟩ := I2.lstM hq2
  cases r3
  refine wpAny_ite_split (fun _ => ?_) (fun _ => wpAny_pure ⟨plainId_quiet PySem.F.plain_extend_loop _, loop _ I2⟩)
  refine wpAny_bind (wpAny_rule ?_)
  refine wpAny_bind ?_
  show wpAny _ _ (updateSeq q (·.push .none) >>= fun _ => updateSeq q (·.pop)) _ _ _
  refine wpAny_bind (wpAny_updateSeq e3 rfl ?_)
  have I3 := I2.lset (f := (·.push Value.none)) (its' := [Value.none]) (ys := [.non]) (t' := s2.toks) hq2 e3 (by simp) (.cons rfl .nil) (by rw [List.length_singleton, sizeLine_eq]; decide)
  obtain ⟨z4, its4, k4, r4, hl4, e4⟩ := I3.lstM upd_same
  obtain ⟨u4, rfl, ru4⟩ := r4.one
  refine wpAny_updateSeq e4 rfl ?_ (by show 1 ≤ sizeLine; rw [sizeLine_eq]; decide) (by show 0 ≤ sizeLine + 1; exact Nat.zero_le _)
  refine wpAny_pure ⟨plainId_quiet PySem.F.plain_extend_loop _, loop _ ?_⟩
  have I4 := I3.lset (f := (·.pop)) (its := [u4]) (its' := []) (ys := []) (t' := s2.toks) upd_same e4 (by rfl) .nil (Nat.zero_le _)
  rw [upd_upd] at I4
  have hH : upd H2 q (.lst []) = H2 := by
    funext b
    by_cases hb : b = q
    · rw [hb, upd_same, hq2]
    · rw [upd_ne hb]
  rw [hH] at I4
  exact I4
/-- list(x) -/
def rListLi (K : PySem.W.Frag) (C : Addr) (spI spL : Sp) : List V → Hp → VK → Prop := fun xs H Q => ∃ a dx fs zs, xs = [.ref a] ∧ H a = some (.ins C dx fs) ∧ zs.length ≤ 1000 ∧
  (∀ q H1, H q = none → Ed [] H H1 → LiRun K spI spL a q zs H1 fun _ => True) ∧ ∀ q H', H q = none → Ed [] H H' → H' q = some (.lst zs) → Q (.ref q) H'
theorem call_listLi {C gi gl : Addr} {fdI fdL : FuncData} {psI psL : List Str} {spI spL : Sp} {n : Nat} (hc : X.calm = true)
    (FI : FnOk X.prog X.w X.K X.mg X.base CX0 n gi fdI psI spI) (mI : SpM X.K C gi "__iter__") (bI : Binds X.K fdI psI []) (FL : FnOk X.prog X.w X.K X.mg X.base CX0 n gl fdL psL spL) (mL : SpM X.K C gl "__len__") (bL : Binds X.K fdL psL [])
    (hr : Room (n + 3) X.A) : CallR X (.type "list") (rListLi X.K C spI spL) := by
  intro pins s σ H xs us Q I rv h
  obtain ⟨a, dx, fs, zs, rfl, ha, zl, hrun, hq⟩ := h
  obtain ⟨u, rfl, ru⟩ := rv.one
  cases ru
  have sb3 : Sub X (n + 1) X.A.in1.in1 := (Sub.in1 (Sub.in1 (⟨hr, rfl⟩ : Sub X (n + 3) X.A)))
  refine callType_codes (Q₁ := fun obj s₁ => obj = .ref s.heap.objs.size ∧ s₁ = { s with heap := s.heap.push { cls := .type "list", data := .seq #[] } }) PySem.F.called_list (PySem.F.typeCall_list_1 _) PySem.F.entry_list_init
    (code_list_new _ ⟨rfl, rfl⟩) fun obj s₁ h₁ => ?_
  obtain ⟨rfl, rfl⟩ := h₁
  have hS : (s.heap.push { cls := .type "list", data := .seq #[] }).get? s.heap.objs.size = some { cls := .type "list", data := .seq #[] } := Heap.get?_push_size _ rfl
  refine ⟨⟨_, hS, rfl⟩, PySem.F.args_list_init_2 _ _, ?_⟩
  have fr : H s.heap.objs.size = none := I.hok.fresh (Nat.le_refl _)
  have I1 : Inv X pins σ (upd H s.heap.objs.size (.lst [])) { s with heap := s.heap.push { cls := .type "list", data := .seq #[] } } := I.lnew (its := []) (t' := s.toks) .nil (Nat.zero_le _)
  show wpAny _ _ (do let old ← Builtin.List.listItems (.ref s.heap.objs.size); Builtin.List.listUpdate (.ref s.heap.objs.size) (fun _ => #[]); letGo old.toList.reverse; Builtin.List.listExtendWith (.ref s.heap.objs.size) (.ref a) .none) _ _ _
  refine wpAny_bind ?_
  unfold Builtin.List.listItems
  refine wpAny_bind (wpAny_seqItems hS rfl (wpAny_pure ?_))
  show wpAny _ _ (updateSeq s.heap.objs.size (fun _ => #[]) >>= fun _ => letGo (#[] : Array Value).toList.reverse >>= fun _ => Builtin.List.listExtendWith (.ref s.heap.objs.size) (.ref a) .none) _ _ _
  refine wpAny_bind (wpAny_updateSeq hS rfl ?_)
  have I2 := I1.lset (f := fun _ => #[]) (its := []) (its' := []) (ys := []) (t' := s.toks) upd_same hS rfl .nil (Nat.zero_le _)
  rw [upd_upd] at I2
  refine wpAny_bind (wpAny_letGo ?_)
  have ha2 : upd H s.heap.objs.size (.lst []) a = some (.ins C dx fs) := by rw [upd_ne (ne_of_none ha fr)]; exact ha
  have e0 : Ed [] H (upd H s.heap.objs.size (.lst [])) := Ed.new fr
  exact li_extend (A1 := X.A.in1) (Rs := wants (fun r s₂ => r = .none ∧ EP X pins σ Q (.ref s.heap.objs.size) s₂) X.xe) FI mI bI FL mL bL (sb3.in1) (sb3.mono (Nat.le_succ _)) (I.ok.hd hc) I2 ha2 upd_same zl (hrun _ _ fr e0)
    (fun H' s' I' e' hz => ⟨rfl, .ref s.heap.objs.size, H', I', rfl, hq _ H' fr (e0.one e' (.inr fr)) hz⟩)
/-- either way of a call -/
theorem call_or {g : Value} {r r' : List V → Hp → VK → Prop} (a : CallR X g r) (b : CallR X g r') : CallR X g (fun xs H Q => r xs H Q ∨ r' xs H Q) := by
  intro pins s σ H xs us Q I rv h
  rcases h with h | h
  · exact a pins s σ H xs us Q I rv h
  · exact b pins s σ H xs us Q I rv h
end
end Vc

/-! Xv: defs with a star parameter: the promise, the instance made. -/
namespace Vc
open PySem PySem.Spec PyProof.Rows L2
/-- a def with a star parameter behind its others: what binding does -/
structure BindV (fd : FuncData) (ps : List Str) (pv : Str) : Prop where
  b : ∀ us rest : List Value, us.length = ps.length → bindArgs fd ⟨us ++ rest, []⟩ = (newTuple rest >>= fun t => pure (ps.zip us ++ [(pv, t)]))
theorem bind_star3 {B : List Value → Sem (List (Str × Value))} {p1 p2 p3 pv : Str} (h0 : ∀ a b c, B [a, b, c] = (newTuple [] >>= fun t => pure [(p1, a), (p2, b), (p3, c), (pv, t)])) (h1 : ∀ a b c r rs, B (a :: b :: c :: r :: rs) = (newTuple (r :: rs) >>= fun t => pure [(p1, a), (p2, b), (p3, c), (pv, t)])) :
    ∀ us rest : List Value, us.length = [p1, p2, p3].length → B (us ++ rest) = (newTuple rest >>= fun t => pure ([p1, p2, p3].zip us ++ [(pv, t)]))
  | [a, b, c], [], _ => h0 a b c
  | [a, b, c], r :: rs, _ => h1 a b c r rs
/-- a call's promise by the def's own: what is left over is a new tuple -/
def spV (n : Nat) (sp : Sp) : Sp := fun vs H Q E => ∃ ws rest, vs = ws ++ rest ∧ ws.length = n ∧ rest.length ≤ sizeLine ∧ ∀ p, H p = none → sp (ws ++ [V.ref p]) (upd H p (.tup rest)) Q E
section
variable {w : World} {P : Program} {K : PySem.W.Frag} {mg : Str → Option Value} {base : Heap}
theorem Fun.bindsV {x qual pv : Str} {st : Stmt} {f : Addr} {fd : FuncData} {ps : List Str} (F : Fun K x qual st f fd)
    (h : ∀ (kV doc pm : Value) (an : Option Addr) (cdv ct : Value) (us rest : List Value), us.length = ps.length → bindArgs (PySem.W.fnOf x qual (defArgs st) (defBody st) (defScope st) .none kV doc pm an cdv ct) ⟨us ++ rest, []⟩ = (newTuple rest >>= fun t => pure (ps.zip us ++ [(pv, t)]))) : BindV fd ps pv := by
  obtain ⟨oc, od, kV, doc, pm, an, cdv, ct, osl, rfl, lk, hcd⟩ := F.ex
  exact ⟨h kV doc pm an cdv ct⟩
theorem Fun.okV {x qual pv : Str} {st : Stmt} {f : Addr} {fd : FuncData} {N ps : List Str} {k : Nat} {sp : Sp} (F : Fun K x qual st f fd) (B : BindV fd ps pv) (S : FnScope N (ps ++ [pv]) (defScope st))
    (hbody : ∀ (cdv : Value) (A : Around) (outer : List Env) (s : Shared) (H : Hp) (vs : List V) (Q : VK) (E : XK), Room k (A.deeper (envOfC qual (defScope st) s.heap.objs.size f cdv)) → sp vs H Q E →
      ∃ t, PSs (cxOf (L2.CX P w) P w K mg base N qual (defScope st) f cdv A outer s H E) (defBody st) t ∧ t { nx := fun _ H' => Q .non H', rt := Q } (start N vs) H) : FnR P w K mg base (L2.CX P w) (k + 1) f (spV ps.length sp) := by
  obtain ⟨oc, od, kV, doc, pm, an, cdv, ct, osl, rfl, lk, hcd⟩ := F.ex
  exact StX.fn_star lk hcd S StX.cxUp B.b fun A outer s H vs Q E hr hsp => hbody cdv A outer s H vs Q E hr hsp
end
section
variable {X : Cx} {CX : CXT} {k : Nat} {f C : Addr} {sp : Sp} {E : L2.St → XK} {x : Str} {e : Expr} {es : List Expr} {t : TA} {p pos : Pos}
theorem run_makeV {pins : List (Addr × Obj)} {σ : L2.St} {H : Hp} {s : Shared} {Q : VK} {us : List Value} {vs : List V} (M : Mk X.K C f) (F : FnR X.prog X.w X.K X.mg X.base CX k f sp) (hr : Room (k + 1) X.A)
    (hx : PassesAt CX X σ (E σ)) (I : Inv X pins σ H s) (r : Vals vs us)
    (h : ∀ x dx, H x = none → H dx = none → dx ≠ x → sp (.ref x :: vs) (upd (upd H dx (.own x)) x (.ins C dx [])) (fun v H2 => v = .non ∧ Q (.ref x) H2) (E σ)) :
    wpAny (model X.prog X.w) X.A (call (.ref C) us) (EP X pins σ Q) X.xe s := by
  have hq := h (s.heap.objs.size + 1) s.heap.objs.size (I.hok.fresh (Nat.le_succ _)) (I.hok.fresh (Nat.le_refl _)) (Nat.ne_of_lt (Nat.lt_succ_self _))
  have I2 := Inv.made (C := C) I
  have r2 : Vals (V.ref (s.heap.objs.size + 1) :: vs) (Value.ref (s.heap.objs.size + 1) :: us) := .cons rfl r
  refine wpAny_call (make_map (f := f) I.kIn M.makes M.init (beq_iff_eq.mp M.fn) (codeAny_mono (F _ X.stack _ _ (Value.ref (s.heap.objs.size + 1) :: us) _ _ (E σ) (hr.make C us []) (I2.env0.make C us []) r2 hq) fun r s' hq' => ?_))
  cases r with
  | error e => exact hx pins _ _ e s' I2 hq'
  | ok fl =>
    cases fl with
    | ret u =>
      obtain ⟨v, H', I3, rv, ev, q3⟩ := I2.after hq'
      subst ev
      exact ⟨rv, ⟨V.ref (s.heap.objs.size + 1), H', I3, rfl, q3⟩⟩
    | next => exact False.elim hq'
    | brk => exact False.elim hq'
    | cont => exact False.elim hq'
/-- C(a, .., b), the class's __init__ with a star parameter -/
theorem pe_makeV (M : Mk X.K C f) (F : FnR X.prog X.w X.K X.mg X.base CX k f sp) (hr : Room (k + 1) X.A) (hg : Gl X x) (hm : X.mg x = some (.ref C)) (hx : ∀ σ, PassesAt CX X σ (E σ))
    (ha : PA X (e :: es) t) (hdb : (x == ("__debug__" : Str)) = false := by decide) (he : starEach (e :: es) X.env = (false, eval e X.env) :: starEach es X.env := by rfl) (hpl : (backTo pos (starEach es X.env)).any (·.1) = false := by rfl) :
    PE X (.Call (.Name x p) (e :: es) [] pos) (tMakeS C sp E t) := by
  refine ⟨fun pins s σ H Q I h => ?_⟩
  refine wpAny_Call_Name_kw (ld_glob I hg hm ?_ hdb)
  refine PySem.W.callWith_K (h₀ := X.base) I.ok.mod.kin M.kp (thn (ha.run pos pins s σ H _ I h) fun us s1 ⟨vs, H1, I1, r, q⟩ => ⟨I1.kIn, ?_⟩) he hpl
  exact run_makeV M F hr (hx σ) I1 r q
end
end Vc

/-! Xs: xs.count(z), xs a list of texts (my own; the way is HandS.SetFor's for ints). -/
namespace Vc
open PySem PySem.Spec PyProof.Rows L2
open Builtin Builtin.Str in
/-- the library's bound -/
theorem short_ok {n : Nat} (h : n ≤ 1000) : tooLong n = false := by
  unfold tooLong
  simp only [decide_eq_false_iff_not, sizeLine_eq]
  omega
def eqs (k : Str) (v : Value) : Bool := match v with
  | .str n _ => n.cps.toList == k.cps.toList
  | _ => false
theorem eqs_beq (n k : Str) : (n.cps.toList == k.cps.toList) = (n == k) := by
  rw [Bool.eq_iff_iff, beq_iff_eq, beq_iff_eq]
  constructor
  · intro h
    cases n; cases k
    exact congrArg Str.mk (Array.toList_inj.mp h)
  · rintro rfl; rfl
theorem eqs_gives {k : Str} {t : Tok} : ∀ {us : List Value} {zs : List Str}, Vals (zs.map V.str) us → ∀ y ∈ us, MeetsSeq.EqGives y (.str k t) (eqs k y)
  | _, [], .nil => fun y hy => by cases hy
  | _, z :: r, .cons h hr => fun y hy => by
    rcases List.mem_cons.mp hy with e | e
    · obtain ⟨t', e'⟩ := h
      rw [e, e']
      exact SeqRoads2.EqGives.str z k t' t
    · exact eqs_gives hr y e
theorem eqs_count {k : Str} : ∀ {us : List Value} {zs : List Str}, Vals (zs.map V.str) us → us.countP (eqs k) = zs.count k
  | _, [], .nil => rfl
  | _, z :: r, .cons h hr => by
    obtain ⟨t', rfl⟩ := h
    rw [List.countP_cons, List.count_cons, eqs_count hr]
    show _ + (if (z.cps.toList == k.cps.toList) = true then 1 else 0) = _
    rw [eqs_beq]
def rCntS (K : PySem.W.Frag) : V → List V → Hp → VK → Prop := fun x xs H Q => ∃ (p : Addr) (zs : List Str) (k : Str), x = .ref p ∧ xs = [.str k] ∧ SqL K H p (zs.map V.str) ∧ Q (.int (zs.count k : Nat)) H
theorem mt_lcountS {X : Cx} : MtR X "list.count" (rCntS X.K) := by
  intro pins s σ H x xs v us Q I rx rxs h
  obtain ⟨p, zs, k, rfl, rfl, hs, q⟩ := h
  cases rx
  obtain ⟨u, rfl, ru⟩ := rxs.one
  obtain ⟨t, rfl⟩ := ru
  obtain ⟨its, rv, ⟨⟨cls, dd, data, sl⟩, n, ho, hc, hdn, hd⟩, hlen⟩ := I.list hs
  simp only at hc hd
  subst hc hd
  refine call_meets PySem.F.slot_list_count ⟨_, ho, rfl⟩ PySem.F.entry_list_count (PySem.F.args_list_count_2 _ _)
    (SeqAt.list_countAt p its.toArray n dd sl (.str k t) (eqs k)) ⟨ho, fun y hy => (eqs_gives rv y (by simpa using hy)).at _ _, ?_⟩
  have ec : its.toArray.toList.countP (eqs k) = zs.count k := eqs_count rv
  refine ⟨.int (zs.count k : Nat), H, I.tok _, ⟨s.toks, ?_⟩, q⟩
  show Value.int ((its.toArray.toList.countP (eqs k) : Nat) : Int) s.toks = Value.int ((zs.count k : Nat) : Int) s.toks
  rw [ec]
theorem go_cntS {K : PySem.W.Frag} {H : Hp} {Q : VK} {p : Addr} {zs : List Str} {k : Str} (e : SqL K H p (zs.map V.str)) (h : Q (.int (zs.count k : Nat)) H) : rCntS K (.ref p) [.str k] H Q := ⟨p, zs, k, rfl, rfl, e, h⟩
theorem rep_sign {c : Nat} : ∀ n : Nat, (List.replicate n (#[c] : Array Nat)).foldl (· ++ ·) #[] = (List.replicate n c).toArray := by
  have g : ∀ (n : Nat) (a : Array Nat), (List.replicate n (#[c] : Array Nat)).foldl (· ++ ·) a = a ++ (List.replicate n c).toArray := by
    intro n
    induction n with
    | zero => intro a; simp
    | succ n ih =>
      intro a
      rw [List.replicate_succ, List.foldl_cons, ih, List.replicate_succ]
      apply Array.toList_inj.mp
      simp
  intro n
  rw [g]; simp
theorem mul_sign {c : Nat} {n : Int} (h : 1 ≤ n) : Txt.mul ⟨#[c]⟩ n = ⟨(List.replicate n.toNat c).toArray⟩ := by
  unfold Txt.mul
  rw [if_neg (by omega)]
  by_cases h1 : n = 1
  · subst h1
    rfl
  · rw [if_neg (by
      have : ((⟨#[c]⟩ : Str).length == 0) = false := rfl
      rw [this, Bool.or_false]
      simpa using h1), rep_sign]
/-- a sign, n times -/
theorem op_mulSign {X : Cx} : OpR X (binaryOp .Mult) (fun x y H Q => ∃ (c : Nat) (n : Int), x = .str ⟨#[c]⟩ ∧ y = .int n ∧ 1 ≤ n ∧ n ≤ 1000 ∧ Q (.str ⟨(List.replicate n.toNat c).toArray⟩) H) := by
  intro pins s σ H x y v u Q I rx ry h
  obtain ⟨c, n, rfl, rfl, n0, n1, q⟩ := h
  obtain ⟨t, rfl⟩ := rx
  obtain ⟨t', rfl⟩ := ry
  refine SB.mul ⟨?_, fun _ _ => ?_, fun _ _ => ?_⟩ fun t2 k => ⟨.str _, H, I.tok k, ⟨t2, by rw [mul_sign n0]⟩, q⟩
  · have e1 : decide (n < -(2 ^ 63 : Int)) = false := decide_eq_false (by omega)
    have e2 : decide (n ≥ 2 ^ 63) = false := decide_eq_false (by omega)
    rw [e1, e2]; rfl
  · show ¬ ((1 : Int) > _)
    have : (1 : Int) ≤ (2 ^ 63 - 1) / n := (Int.le_ediv_iff_mul_le (by omega)).mpr (by omega)
    omega
  · exact short_ok (by show 1 * n.toNat ≤ 1000; omega)
end Vc

/-! Xj: an except suite (as n) that raises another error from the caught one; star calls that make an instance (my own; ways of HandS.SuiteRaise, HandS.RaiseFrom, HandS.ExcInitHot). -/
namespace Vc
open PySem PySem.Spec PyProof.Rows L2 HotX L2H
/-! ### errors whose context is None leave a def -/
theorem cxUpN {P : Program} {w : World} : StX.CXUp (L2N.CX P w) := by
  rintro outer s H s2 H2 E e s' un kp ho ⟨a, B, H', cls, d, ea, fl, hok, ub, na, os, ag, he⟩
  refine ⟨a, B, H', cls, d, ea, fl, hok, ⟨fun b o q n hb => ub.keep b o (kp b o q) (un.free b o q n (by simp)) hb, fun b o q hb => ub.slot b o (kp b o q) hb, fun b o q n => ub.free b o (kp b o q) (un.free b o q n (by simp)),
    fun b o q hb => ub.there b o (kp b o q) hb, fun b xs q => ub.tups b xs (un.tups b xs q), fun b o xs q => ub.frzs b o xs (un.frzs b o xs q), fun b ps q => ?_⟩, na, os.trans ho, ag, he⟩
  obtain ⟨m1, e1⟩ := un.tbls b ps q
  obtain ⟨m2, e2⟩ := ub.tbls b _ e1
  exact ⟨m1 ++ m2, by rw [e2, Array.append_assoc]⟩
theorem cx_weak {P : Program} {w : World} {outer : List Env} {H : Hp} {s : Shared} {E : XK} {u : Value} {s' : Shared} (h : L2N.CX P w outer H s E u s') : L2.CX P w outer H s E u s' := by
  obtain ⟨a, B, H', cls, d, ea, fl, r⟩ := h
  exact ⟨a, B, H', cls, d, ea, flyingZ_imp (fun o z => z.zc) fl, r⟩
theorem fnr_weak {P : Program} {w : World} {K : PySem.W.Frag} {mg : Str → Option Value} {base : Heap} {k : Nat} {f : Addr} {sp : Sp} (F : FnR P w K mg base (L2N.CX P w) k f sp) : FnR P w K mg base (L2.CX P w) k f sp :=
  fun A outer s H us vs Q E hr e0 r h => codeAny_mono (F A outer s H us vs Q E hr e0 r h) fun r s' hq => by
    cases r with
    | error e => exact cx_weak hq
    | ok fl => cases fl <;> exact hq
section
variable {w : World} {P : Program} {K : PySem.W.Frag} {mg : Str → Option Value} {base : Heap}
theorem Fun.okVN {x qual pv : Str} {st : Stmt} {f : Addr} {fd : FuncData} {N ps : List Str} {k : Nat} {sp : Sp} (F : Fun K x qual st f fd) (B : BindV fd ps pv) (S : FnScope N (ps ++ [pv]) (defScope st))
    (hbody : ∀ (cdv : Value) (A : Around) (outer : List Env) (s : Shared) (H : Hp) (vs : List V) (Q : VK) (E : XK), Room k (A.deeper (envOfC qual (defScope st) s.heap.objs.size f cdv)) → sp vs H Q E →
      ∃ t, PSs (cxOf (L2N.CX P w) P w K mg base N qual (defScope st) f cdv A outer s H E) (defBody st) t ∧ t { nx := fun _ H' => Q .non H', rt := Q } (start N vs) H) : FnR P w K mg base (L2N.CX P w) (k + 1) f (spV ps.length sp) := by
  obtain ⟨oc, od, kV, doc, pm, an, cdv, ct, osl, rfl, lk, hcd⟩ := F.ex
  exact StX.fn_star lk hcd S cxUpN B.b fun A outer s H vs Q E hr hsp => hbody cdv A outer s H vs Q E hr hsp
end
/-- X(..), X's own __init__ walked; where nothing is handled -/
theorem pmk_oexN {X : Cx} {CX : CXT} {x : Str} {e : Expr} {es : List Expr} {ta : TA} {p pos : Pos} {C fI : Addr} {k : Nat} {fd : FuncData} {ps : List Str} {sp : Sp} (T : OexC X.K C) (iC : PySem.W.findIn X.K (.ref C) "__init__" = some (some (.ref fI))) (tI : PySem.W.typeIn X.K (.ref fI) = some (.type "function"))
    (F1 : FnOk X.prog X.w X.K X.mg X.base CX k fI fd ps sp) (hr : Room (k + 1) X.A) (hb : Binds X.K fd ps []) (hx : Passes CX X (fun _ _ _ => False)) (hg : Gl X x) (hm : X.mg x = some (.ref C)) (ha : PA X (e :: es) ta)
    (hdb : (x == ("__debug__" : Str)) = false := by decide) (he : starEach (e :: es) X.env = (false, eval e X.env) :: starEach es X.env := by rfl) (hpl : (backTo pos (starEach es X.env)).any (·.1) = false := by rfl) :
    L2N.PMk X (.Call (.Name x p) (e :: es) [] pos) (tMkO C sp [] ta) := by
  intro pins s σ H Q I h
  obtain ⟨nm, q, N, bs, bm, sn, sub, ab, col, dd, k0, k1, k2, k3, k5, hC, hbm⟩ := T.cls
  refine wpAny_Call_Name_kw (ld_glob I hg hm ?_ hdb)
  refine PySem.W.callWith_K (h₀ := X.base) I.ok.mod.kin T.kC (thn (ha.run pos pins s σ H _ I h) fun us s1 ⟨vs, H1, I1, r1, hz, q1⟩ => ⟨I1.kIn, ?_⟩) he hpl
  show wpAny _ _ (call (.ref C) us) _ _ _
  obtain ⟨hp, g, dr, tk, os⟩ := s1
  have hsz : hp.objs.size ≤ hp.objs.size + 1 := Nat.le_succ _
  have hn : H1 (hp.objs.size + 1) = none := I1.hok.fresh hsz
  have hq := q1 (hp.objs.size + 1) hn
  rw [List.append_nil] at hq
  have kk : ∀ b o, hp.get? b = some o → ((hp.push (PySem.W.kdv_tup us)).push (PySem.HandSPX.excO C hp.objs.size)).get? b = some o := fun b o e => Heap.get?_push_of_some _ (Heap.get?_push_of_some _ e)
  have hget : ((hp.push (PySem.W.kdv_tup us)).push (PySem.HandSPX.excO C hp.objs.size)).get? (hp.objs.size + 1) = some (PySem.HandSPX.excO C hp.objs.size) := by heap_get
  have I2 : Inv X pins σ (upd H1 (hp.objs.size + 1) (exo (hp.objs.size + 1) C none)) ⟨(hp.push (PySem.W.kdv_tup us)).push (PySem.HandSPX.excO C hp.objs.size), g, dr, tk, os⟩ :=
    I1.laid (t' := tk) (a := hp.objs.size + 1) (o := exo (hp.objs.size + 1) C none) (h' := (hp.push (PySem.W.kdv_tup us)).push (PySem.HandSPX.excO C hp.objs.size)) kk hsz (exo_ok hget)
  have r2 : Vals (V.ref (hp.objs.size + 1) :: vs) (Value.ref (hp.objs.size + 1) :: us) := .cons rfl r1
  have hl : (Value.ref (hp.objs.size + 1) :: us ++ []).length = ps.length := by
    have e := r2.length
    rw [F1.len _ _ _ _ hq] at e
    rw [List.append_nil]
    exact e.symm
  have hus : us.length ≤ sizeLine := by
    rw [← Paired.length r1, sizeLine_eq]
    omega
  have b2 := hb _ (Value.ref (hp.objs.size + 1) :: us) I2.kIn hl
  rw [List.append_nil] at b2
  refine wpAny_call (PySem.HandSPX.call_own F.excBase_ValueError (fun Y => PySem.HandSPX.refsVE_contains Y bm hbm) (I1.kIn _ _ hC) (PySem.W.looks_findIn I1.kIn iC) (fun self => PySem.W.bind_fn I1.kIn self tI) hus
    (codeAny_mono (F1.run _ X.stack _ _ ⟨Value.ref (hp.objs.size + 1) :: us, []⟩ (Value.ref (hp.objs.size + 1) :: us) _ _ (fun _ _ _ => False) (hr.make C us []) (I2.env0.make C us []) b2 r2 hq) fun r s' hq' => ?_))
  cases r with
  | error er => exact hx pins σ _ _ er s' I2 hq'
  | ok fl =>
    cases fl with
    | ret u =>
      obtain ⟨v, H2, os2, bare2, un2, hok2, rv, ev, d, fs, ea, ed, hd1, q2⟩ := hq'
      subst ev
      obtain ⟨h2, g2, d2, t2, os'⟩ := s'
      obtain ⟨t0, G, J, kG, ge, hoe, na⟩ := mk_end0 (d2 := d2) (t2 := t2) I1 hsz kk un2 hok2 os2 bare2 ea ed hd1
      refine ⟨rv, ⟨hp.objs.size + 1, _, _, ⟨G, g2, d2, t2, os'⟩, _, .ref C, some d, rfl, J, kG, ge, hoe, ⟨rfl, rfl, fun vs hv => ?_⟩, rfl, rfl, na, rfl, bare2, raises_own T.exC T.tyC, q2⟩⟩
      cases hv
      rfl
    | next => exact False.elim hq'
    | brk => exact False.elim hq'
    | cont => exact False.elim hq'
theorem ps_raiseN {X : Cx} {W : WX} {e : Expr} {t : L2.St → Hp → XK → Prop} {pos : Pos} (hc : X.calm = true) (tk : L2N.Takes X W) (he : L2N.PMk X e t) : PS X (.Raise (some e) none pos) (tRaise W t) := L2N.ps_raise hc tk he
/-! ### an error's __init__ also where one is handled -/
theorem FnHt.toH {P : Program} {w : World} {K : PySem.W.Frag} {mg : Str → Option Value} {base : Heap} {k : Nat} {f : Addr} {fd : FuncData} {ps : List Str} {sp : Sp} (F : FnHt P w K mg base k f fd ps sp) : FnH P w K mg base CX0 k f fd ps sp :=
  ⟨F.len, fun A outer s H args us vs Q E p hr _ _ e0 b r h => F.run A outer s H args us vs Q E hr e0 b r h⟩
theorem FunS.okT {P : Program} {w : World} {K : PySem.W.Frag} {mg : Str → Option Value} {base : Heap} {x qual : Str} {st : Stmt} {rest : List Stmt} {f C : Addr} {fd : FuncData} {sv : Str} {N ps : List Str} {k : Nat} {sp : Sp} {e : Expr} {z : Str} {p0 p1 ap pos spos : Pos} {pl : Sem Bool}
    (F : FunS P K mg x qual st f fd C sv) (S : SupScope N ps (defScope st)) (T : OexC K C) (hb : defBody st = .Expr (.Call (.Attribute (.Call (.Name "super" p0) [] [] p1) "__init__" ap) [e] [] pos) spos :: rest) (hN : N[0]? = some sv) (hself : (defScope st).names.lookup sv = some .local)
    (len : ∀ vs H Q E, sp vs H Q E → vs.length = ps.length)
    (hE : ∀ (X : Cx), PE X e (tC (.str z)))
    (hi : ∀ L cd cc, interactive (PySem.W.ksEnv qual (defScope st) L f cd cc) = false)
    (hs : ∀ L cd cc, swapsWith (.Call (.Attribute (.Call (.Name "super" p0) [] [] p1) "__init__" ap) [e] [] pos) none spos.line (PySem.W.ksEnv qual (defScope st) L f cd cc) = pure false)
    (hst : ∀ L cd cc, starEach [e] (PySem.W.ksEnv qual (defScope st) L f cd cc) = (false, eval e (PySem.W.ksEnv qual (defScope st) L f cd cc)) :: starEach [] (PySem.W.ksEnv qual (defScope st) L f cd cc))
    (ht : ∀ L cd cc, eval (.Call (.Attribute (.Call (.Name "super" p0) [] [] p1) "__init__" ap) [e] [] pos) (PySem.W.ksEnv qual (defScope st) L f cd cc) = (do
      let ov ← attributeBase (.Call (.Name "super" p0) [] [] p1) "__init__" (PySem.W.ksEnv qual (defScope st) L f cd cc) (eval (.Call (.Name "super" p0) [] [] p1) (PySem.W.ksEnv qual (defScope st) L f cd cc))
      standAt ap.atName
      let (fm, first) ← holding [ov] (getMethod ov "__init__" pl)
      callWith pos fm first (backTo pos (starEach [e] (PySem.W.ksEnv qual (defScope st) L f cd cc))) (backToKw pos (keywordEach [] (PySem.W.ksEnv qual (defScope st) L f cd cc)))))
    (hbody : ∀ (cda cc : Addr) (A : Around) (outer : List Env) (s : Shared) (H : Hp) (vs : List V) (Q : VK) (E : XK), sp vs H Q E →
      ∃ a, vs[0]? = some (.ref a) ∧ H a = some (exo a C none) ∧ ∃ t, PSs (cxS false CX0 P w K mg base N qual (defScope st) f (.ref cda) cc A outer s H E) rest t ∧ t { nx := fun _ H' => Q .non H', rt := Q } (start N vs) H) :
    FnHt P w K mg base (k + 1) f fd ps sp :=
  ⟨len, fun A outer s H args us vs Q E hr e0 hbd r hsp => FunS.code false F S T hb hN hself len hE hi hs hst ht hbody A outer s H args us vs Q E hr.depth (fun z => nomatch z) e0 hbd r hsp⟩
/-! ### raise X(..) from n, in an except suite -/
def refFrom (b : Addr) (h : Heap) (a : Addr) : Heap := (h.update a (Obj.mapFields (·.setIfInBounds 3 (.ref b)))).update a (Obj.mapFields (·.setIfInBounds 4 (.bool true)))
theorem refFrom_at {b : Addr} {h : Heap} {a : Addr} {oe : Obj} {vs : Array Value} (ha : h.get? a = some oe) (hd : oe.data = .fields vs) :
    (refFrom b h a).get? a = some ((oe.mapFields (·.setIfInBounds 3 (.ref b))).mapFields (·.setIfInBounds 4 (.bool true))) ∧ ((oe.mapFields (·.setIfInBounds 3 (.ref b))).mapFields (·.setIfInBounds 4 (.bool true))).data = .fields ((vs.setIfInBounds 3 (.ref b)).setIfInBounds 4 (.bool true)) := by
  have hd3 := Obj.data_mapFields hd (·.setIfInBounds 3 (.ref b))
  have ha3 := Heap.get?_update_self (Obj.mapFields (·.setIfInBounds 3 (.ref b))) ha (Obj.isFreed_of_fields hd3)
  have hd4 := Obj.data_mapFields hd3 (·.setIfInBounds 4 (.bool true))
  exact ⟨Heap.get?_update_self (Obj.mapFields (·.setIfInBounds 4 (.bool true))) ha3 (Obj.isFreed_of_fields hd4), hd4⟩
theorem refFrom_other {c : Addr} {h : Heap} {a b : Addr} (hne : a ≠ b) : (refFrom c h a).get? b = h.get? b := by
  unfold refFrom
  rw [Heap.get?_update_other _ _ hne, Heap.get?_update_other _ _ hne]
theorem raise_made_hotF {prog : Program} {w : World} {A : Around} {E : Value → Shared → Prop} {env : Env} {s : Shared} {x c : Sem Value} {Q : Flow → Shared → Prop} {x1 b : Addr}
    (h : wpAny (model prog w) A x (fun v s₁ => ∃ a oe vs cls ob vb, v = .ref a ∧ s₁.heap.get? a = some oe ∧ oe.cls = cls ∧ oe.data = .fields vs ∧ vs[1]? = some .none ∧ 4 < vs.size ∧ x1 ≠ a ∧ HotAt A x1 s₁.heap ∧
      (∀ Q' : Value → Shared → Prop, Q' (.ref b) s₁ → wpAny (model prog w) A c Q' E s₁) ∧ s₁.heap.get? b = some ob ∧ ob.data = .fields vb ∧ PySem.W.Looks (model prog w) s₁.heap (isSubtype ob.cls (.type "BaseException")) true ∧
      PySem.W.Looks (model prog w) s₁.heap (isSubtype cls (.type "BaseException")) true ∧ PySem.W.Looks (model prog w) (refFrom b s₁.heap a) (typeOf cls) (.type "type") ∧
      E (.ref a) { s₁ with heap := (refFrom b s₁.heap a).update a (Obj.mapFields (·.setIfInBounds 2 (.ref x1))) }) E s) :
    wpAny (model prog w) A (raiseStmt env (some x) (some c)) Q E s := by
  unfold raiseStmt
  dsimp only
  refine wpAny_bind (wpAny_mono h (fun v s₁ h₁ => ?_) fun _ _ x => x)
  obtain ⟨a, oe, vs, cls, ob, vb, rfl, ha, hcls, hd, h1, hi, hne, hot, hcs, hbo, hbd, LB, L1, L3, hE⟩ := h₁
  have LT : PySem.W.Looks (model prog w) s₁.heap (typeOf (.ref a)) cls := fun A Q E s k q => wpAny_typeOf_ref (k _ _ ha) (by rw [hcls]; exact q)
  have LI : PySem.W.Looks (model prog w) s₁.heap (isInstance (.ref a) (.type "BaseException")) true := LT.andThen L1
  have LTb : PySem.W.Looks (model prog w) s₁.heap (typeOf (.ref b)) ob.cls := fun A Q E s k q => wpAny_typeOf_ref (k _ _ hbo) q
  have LIb : PySem.W.Looks (model prog w) s₁.heap (isInstance (.ref b) (.type "BaseException")) true := LTb.andThen LB
  have hnt : ∀ {Q' : Bool → Shared → Prop}, Q' false s₁ → wpAny (model prog w) A (isType (.ref a)) Q' E s₁ := by
    intro Q' hq
    simp only [isType, loadHead]
    refine wpAny_bind (wpAny_loadPart ha ?_)
    rw [hd]; exact wpAny_pure hq
  have hntb : ∀ {Q' : Bool → Shared → Prop}, Q' false s₁ → wpAny (model prog w) A (isType (.ref b)) Q' E s₁ := by
    intro Q' hq
    simp only [isType, loadHead]
    refine wpAny_bind (wpAny_loadPart hbo ?_)
    rw [hbd]; exact wpAny_pure hq
  have hd3 := Obj.data_mapFields hd (·.setIfInBounds 3 (.ref b))
  have ha3 := Heap.get?_update_self (Obj.mapFields (·.setIfInBounds 3 (.ref b))) ha (Obj.isFreed_of_fields hd3)
  obtain ⟨ha4, hd4⟩ := refFrom_at (b := b) ha hd
  have s3 : 3 < vs.size := by omega
  have s4 : 4 < (vs.setIfInBounds 3 (Value.ref b)).size := by rw [set_size]; exact hi
  have s2 : 2 < ((vs.setIfInBounds 3 (Value.ref b)).setIfInBounds 4 (Value.bool true)).size := by rw [set_size, set_size]; omega
  have h14 : ((vs.setIfInBounds 3 (Value.ref b)).setIfInBounds 4 (Value.bool true))[1]? = some Value.none := set_other (by decide) (set_other (by decide) h1)
  have hcls4 : ((oe.mapFields (·.setIfInBounds 3 (.ref b))).mapFields (·.setIfInBounds 4 (.bool true))).cls = cls := by rw [Obj.cls_mapFields, Obj.cls_mapFields]; exact hcls
  have LT4 : PySem.W.Looks (model prog w) (refFrom b s₁.heap a) (typeOf (.ref a)) cls := fun A Q E s k q => wpAny_typeOf_ref (k _ _ ha4) (by rw [hcls4]; exact q)
  have hnt4 : ∀ {Q' : Bool → Shared → Prop}, Q' false { s₁ with heap := refFrom b s₁.heap a } → wpAny (model prog w) A (isType (.ref a)) Q' E { s₁ with heap := refFrom b s₁.heap a } := by
    intro Q' hq
    simp only [isType, loadHead]
    refine wpAny_bind (wpAny_loadPart ha4 ?_)
    rw [hd4]; exact wpAny_pure hq
  have hot4 : HotAt A x1 (refFrom b s₁.heap a) := by
    obtain ⟨q1, o, vs', q2, q3, q4⟩ := hot
    exact ⟨q1, o, vs', by rw [refFrom_other (Ne.symm hne)]; exact q2, q3, q4⟩
  have rest : wpAny (model prog w) A (do
      let b ← isType (.ref a)
      if b = true then do
        let e ← holding [.ref a] (raisedFor (.ref a) (.ref a))
        setFlight e none
        raiseNew e
      else do
        let e ← raisedInstance (.ref a)
        setFlight e none
        raiseNew e : Sem Flow) Q E { s₁ with heap := refFrom b s₁.heap a } := by
    refine wpAny_bind (hnt4 ?_)
    simp only [Bool.false_eq_true, if_false]
    unfold raisedInstance
    refine wpAny_bind (wpAny_bind (LT4.here (wpAny_bind (L3.here ?_))))
    rw [if_pos (beq_self_eq_true _)]
    refine wpAny_pure ?_
    unfold setFlight
    refine wpAny_bind (wpAny_bind (wpAny_field ha4 hd4 h14 ?_))
    rw [if_neg (by decide)]
    refine wpAny_pure ?_
    exact raiseNew_hot hot4 hne ha4 hd4 s2 hE
  refine wpAny_bind (wpAny_holding (hcs _ (wpAny_bind (wpAny_pure ?_))))
  dsimp only
  refine wpAny_bind (wpAny_holding ?_)
  unfold excFromValue isExcClass
  refine wpAny_bind (wpAny_bind (hnt ?_))
  simp only [Bool.false_eq_true, if_false]
  refine wpAny_pure ?_
  simp only [Bool.false_eq_true, if_false]
  refine wpAny_bind (LI.here ?_)
  simp only [if_true]
  refine wpAny_pure ?_
  rw [if_neg (show ¬ ((Value.ref b == Value.none) = true) from by simp)]
  refine wpAny_bind (wpAny_holding ?_)
  refine wpAny_bind (wpAny_bind (hntb ?_))
  simp only [Bool.false_eq_true, if_false]
  refine wpAny_pure ?_
  simp only [Bool.false_eq_true, if_false]
  refine wpAny_bind (LIb.here ?_)
  simp only [if_true]
  refine wpAny_pure ?_
  refine wpAny_bind (wpAny_setField ha hd s3 (wpAny_bind (wpAny_setField ha3 hd3 s4 ?_)))
  exact rest
/-- raise X(..) from n, n the caught error -/
def tRaiseF (K : PySem.W.Frag) (b : Addr) (cls : Value) (i : Nat) (W : WX) (t : L2.St → Hp → XK → Prop) : TS := fun _ σ H => σ[i]? = some (some (.ref b)) ∧ (∃ C, cls = .ref C ∧ PySem.W.subIn K (.ref C) (.type "BaseException") = some true) ∧ t σ H fun cls d H' => W cls d σ H'
theorem ps_raiseHF {X : Cx} {W : WX} {e : Expr} {t : L2.St → Hp → XK → Prop} {i : Nat} {n : Str} {b : Addr} {ob : Obj} {cls : Value} {d : Option Addr} {np pos : Pos} (hp : (b, ob) ∈ X.pn) (hz : Zc cls d ob) (hf : ∃ vs, ob.data = .fields vs) (hc : HotC X) (tk : L2.Takes X W) (he : PMk5 X e t)
    (hi : X.N[i]? = some n) (hl : X.env.kindOf n = some .local) (hdb : (n == ("__debug__" : Str)) = false := by decide) :
    PS X (.Raise (some e) (some (.Name n np)) pos) (tRaiseF X.K b cls i W t) := by
  refine ⟨fun pins s σ H D I h => ?_⟩
  obtain ⟨hσ, ⟨C, rfl, hsub⟩, h⟩ := h
  obtain ⟨p, ⟨hh, v1, e1, c1⟩, hpn⟩ := hc
  obtain ⟨vb, hvb⟩ := hf
  show wpAny _ _ (do standAt pos; raiseStmt X.env (some (do let v ← eval e X.env; standAt pos; pure v)) (some (do let v ← eval (.Name n np) X.env; standAt pos; pure v))) _ _ _
  refine wpAny_bind (wpAny_standAt (raise_made_hotF (x1 := p.1) (b := b) (wpAny_bind (wpAny_mono (he pins s σ H _ I h) (fun u s1 hu => wpAny_bind (wpAny_standAt (wpAny_pure ?_))) fun _ _ x => x))))
  obtain ⟨⟨a, oe, vs, sI, H', cls, d', rfl, J, k, hne, ha, hz', hd, h1, na, os, ag, r, q⟩, h5⟩ := hu
  have hi5 : 4 < vs.size := h5 a oe vs rfl ha hd
  have k4 : ∀ c u, sI.heap.get? c = some u → (refFrom b s1.heap a).get? c = some u := fun c u z => by
    have nab : a ≠ c := fun y => by
      rw [← y, hne] at z
      cases z
    rw [refFrom_other nab]
    exact k c u z
  obtain ⟨r1, _⟩ := r (model X.prog X.w) s1.heap (J.kIn.keeps k)
  obtain ⟨_, r2⟩ := r (model X.prog X.w) (refFrom b s1.heap a) (J.kIn.keeps k4)
  have P1 := (J.pin p (List.mem_append_left _ hpn)).1
  have P2 := k _ _ (J.pin (b, ob) (List.mem_append_left _ hp)).1
  have nap : p.1 ≠ a := fun z => by
    rw [z, hne] at P1
    cases P1
  obtain ⟨ha4, hd4⟩ := refFrom_at (b := b) ha hd
  have h12 : (((vs.setIfInBounds 3 (Value.ref b)).setIfInBounds 4 (Value.bool true)).setIfInBounds 2 (Value.ref p.1))[1]? = some Value.none := set_other (by decide) (set_other (by decide) (set_other (by decide) h1))
  have cause : ∀ Q' : Value → Shared → Prop, Q' (.ref b) s1 → wpAny (model X.prog X.w) X.A (do let v ← eval (.Name n np) X.env; standAt pos; pure v) Q' X.xe s1 := fun Q' q' => by
    obtain ⟨m, hn, hlk⟩ := id J.loc
    obtain ⟨u, ru, lu⟩ := hlk i n _ hi hσ (.inl hl)
    obtain rfl : u = Value.ref b := ru
    have hm : m n = some (.ref b) := by
      rcases lu with ⟨_, e⟩ | ⟨z, _⟩
      · exact e
      · rcases z with z | z
        · have z : X.env.scope.names.lookup n = some .cell := z
          rw [show X.env.scope.names.lookup n = some .local from hl] at z; cases z
        · have z : X.env.scope.names.lookup n = some .free := z
          rw [show X.env.scope.names.lookup n = some .local from hl] at z; cases z
    exact wpAny_bind (wpAny_Name (wpAny_loadName_local J.ok.kind hl (hn.keeps k) hm (wpAny_bind (wpAny_standAt (wpAny_pure q')))) hdb)
  refine ⟨a, oe, vs, cls, ob, vb, rfl, ha, hz'.1, hd, h1, hi5, nap, ⟨hh, p.2, v1, k _ _ P1, e1, c1⟩, cause, P2, hvb, by rw [hz.1]; exact PySem.W.looks_subIn (J.kIn.keeps k) hsub, r1, r2, tk _ _ (XE.new J (fun c u z => ?_) hne (Heap.get?_update_self _ ha4 (Obj.isFreed_of_fields (Obj.data_mapFields hd4 _)))
    ⟨by rw [Obj.cls_mapFields, Obj.cls_mapFields, Obj.cls_mapFields]; exact hz'.1, by rw [HandSPX.dict_mapFields, HandSPX.dict_mapFields, HandSPX.dict_mapFields]; exact hz'.2.1⟩ (Obj.data_mapFields hd4 _) h12 na os ag q)⟩
  have nac : a ≠ c := fun y => by
    rw [← y, hne] at z
    cases z
  show ((refFrom b s1.heap a).update a (Obj.mapFields (·.setIfInBounds 2 (.ref p.1)))).get? c = some u
  rw [Heap.get?_update_other _ _ nac]
  exact k4 c u z
/-- the caught error's field, where it is pinned -/
theorem pe_xfP {X : Cx} {a : Addr} {oe : Obj} {cls : Value} {d : Option Addr} {e : Expr} {te : TE} {pos : Pos} {n : Str} (hp : (a, oe) ∈ X.pn) (hz : Zc cls d oe) (hf : ∃ vs, oe.data = .fields vs) (he : PE X e te) (hb : attributeBase e n X.env (eval e X.env) = eval e X.env := by rfl) :
    PE X (.Attribute e n pos) (tXfX X.K a cls d n te) := by
  refine ⟨fun pins s σ H Q I h => ?_⟩
  refine attr_of hb (thn (he.run pins s σ H _ I h) fun u s1 hh => ?_)
  obtain ⟨x, H1, I1, rx, ex, C, ec, T, hno, dd, fs, v, ed, ea, l, q⟩ := hh
  subst ex
  obtain rfl : u = Value.ref a := rx
  subst ec
  subst ed
  obtain ⟨ha, _⟩ := I1.pin (a, oe) (List.mem_append_left _ hp)
  obtain ⟨vs, hd⟩ := hf
  have hx : ObjOk X.prog X.w H1 s1.heap dd (.xd fs) := I1.hok dd _ ea
  obtain ⟨mA, hns, hr⟩ := hx
  obtain ⟨od, ho, hl⟩ := lookIn_ns hns
  obtain ⟨u, hu, ru⟩ := RelO.some_of (v := v) (o := mA n) (by rw [← l]; exact hr n)
  have J : PySem.W.InstAt s1.heap a oe C (some od) := ⟨ha, hz.1, by unfold PySem.W.notCls; rw [hd] <;> rfl, by rw [hz.2]; exact ho⟩
  exact HandSPX.exc_get I1.kIn J T.ga T.gg T.exC (PySem.W.findObj_own T.hdC hno rfl (by rw [hl, hu])) (handed_of ru) ⟨v, H1, I1.tok _, ru, q⟩
/-! ### try: .. except x as n: a suite that raises -/
/-- the context of such a suite -/
abbrev suiteY (X : Cx) (a : Addr) (pn : List (Addr × Obj)) (xe : Value → Shared → Prop) : Cx := (suiteX X a pn).wish xe
section
variable {X : Cx} {pins : List (Addr × Obj)} {σ : L2.St} {H : Hp} {s : Shared} {i : Nat} {n : Str}
/-- the name n is gone: the state, where all else stays -/
theorem inv_gone {G : Heap} {v0 : Option Value} {m : Str → Option Value} (I : Inv X pins σ H s) (hN : X.N.Nodup) (hi : X.N[i]? = some n) (hlk : ∀ (j : Nat) (y : Str) (v : V), X.N[j]? = some y → σ[j]? = some (some v) → Vis X.env.scope y → ∃ u, RelV v u ∧ Look X.env s.heap m y u)
    (hn' : G.Ns X.env.locals (fun x => if x = n then v0 else m x)) (hs : Heap.SameBut X.env.locals s.heap G) : Inv X pins (σ.set i none) H { s with heap := G } := by
  have neL : ∀ b o, X.s_0.heap.get? b = some o → b ≠ X.env.locals := fun b o e => Nat.ne_of_lt (Nat.lt_of_lt_of_le (Heap.lt_size e) I.ok.above)
  refine ⟨I.ok, I.os, I.bare, ⟨fun b o e n hb hx => ?_, fun b o e n hb hx => ?_, I.base.free, fun b o e hx => ?_, I.base.tups, I.base.frzs, I.base.tbls⟩, ⟨_, hn', fun j y v' e1 e2 e3 => ?_⟩, fun y c e => ?_, I.free, I.freeC, fun p hp => ?_, fun b ob e => ?_, by simpa using I.len⟩
  · exact (hs.2 b (neL b o e)).trans (I.base.keep b o e n hb hx)
  · obtain ⟨sl, e1⟩ := I.base.slot b o e n hb hx
    exact ⟨sl, (hs.2 b (neL b o e)).trans e1⟩
  · obtain ⟨o', e1⟩ := I.base.there b o e hx
    exact ⟨o', (hs.2 b (neL b o e)).trans e1⟩
  · by_cases hj : j = i
    · subst hj
      by_cases hlt : j < σ.length
      · rw [List.getElem?_set_self hlt] at e2; cases e2
      · rw [List.getElem?_eq_none (by simpa using hlt)] at e2; cases e2
    · rw [List.getElem?_set_ne (Ne.symm hj)] at e2
      obtain ⟨u', r', q⟩ := hlk j y v' e1 e2 e3
      refine ⟨u', r', ?_⟩
      rcases q with ⟨k, e⟩ | ⟨k, c, e, z⟩
      · have ny : y ≠ n := fun e => hj (nodup_ix hN e1 (e ▸ hi))
        exact .inl ⟨k, (if_neg ny).trans e⟩
      · exact .inr ⟨k, c, e, z.sameBut hs (I.cne y c e)⟩
  · obtain ⟨w', z⟩ := I.cell y c e
    exact ⟨w', z.sameBut hs (I.cne y c e)⟩
  · obtain ⟨e, n, ne, nf, d⟩ := I.pin p hp
    exact ⟨(hs.2 p.1 ne).trans e, n, ne, nf, d⟩
  · refine (I.hok b ob e).stay (fun c w' hc q => (hs.2 c ?_).trans q) (fun _ q => q) fun _ _ q => q
    intro z
    subst z
    rcases hc with hc | hc
    · rw [← hc, I.free] at e; cases e
    · rw [I.free] at hc; cases hc
end
theorem funFrames_sameBut {h1 h2 B : Heap} {L : Addr} {o2 : Obj} (hs : Heap.SameBut L h1 h2) (e2 : h2.get? L = some o2) (hd : ∀ vs, o2.data ≠ .fields vs) : ∀ {l : List Env}, h1.FunFrames B l → h2.FunFrames B l
  | [], _ => trivial
  | env :: rest, hl => by
    obtain ⟨k, ⟨L', o, f1, f2, f3, f4⟩, r⟩ := hl
    refine ⟨k, ⟨L', ?_⟩, funFrames_sameBut hs e2 hd r⟩
    by_cases z : L' = L
    · subst z
      exact ⟨o2, f1, f2, e2, hd⟩
    · exact ⟨o, f1, f2, (hs.2 L' z).trans f3, f4⟩
theorem gone_raise {X : Cx} {W : WX} {i : Nat} {n : Str} {A : Around} {Ex Ey Ez : Value → Shared → Prop} {pos : Pos} {what : String} {u : Value} {s : Shared}
    (hs : X.stack = X.env :: X.outer) (hf : X.env.frame = some X.env.locals) (hN : X.N.Nodup) (hi : X.N[i]? = some n) (hl : X.env.kindOf n = some .local) (hA : A.frames = some (X.env :: X.outer)) (x : L2.XE X W u s)
    (K : ∀ s', L2.XE X (fun cls d σ H => ∃ σ0 : L2.St, σ = σ0.set i none ∧ W cls d σ0 H) u s' → Ex u s') :
    wpAny (model X.prog X.w) A (noteFrame u X.env) (fun _ s1 => wpAny (model X.prog X.w) A (do bindName X.env n .none; unbindBehindTheSuite X.env n pos) (fun _ s2 => wpAny (model X.prog X.w) A (passOn what u X.env : Sem Flow) (fun _ _ => False) Ex s2) Ey s1) Ez s := by
  obtain ⟨a, B, sI, pins, σ, H, cls, d, rfl, I, nb, up, sky, na, os, ag, w⟩ := x
  rw [hs] at sky
  have fin : ∀ h1, HandSPX.HeldZ B (X.env :: X.outer) a (Zc cls d) X.env.locals h1 → s.heap.UpToSlots h1 → wpAny (model X.prog X.w) A (do bindName X.env n .none; unbindBehindTheSuite X.env n pos) (fun _ s2 => wpAny (model X.prog X.w) A (passOn what (.ref a) X.env : Sem Flow) (fun _ _ => False) Ex s2) Ey { s with heap := h1 } := by
    intro h1 hh up1
    obtain ⟨m, hn, hlk⟩ := id I.loc
    obtain ⟨oL, es, ep, hoL, hdL, hkL, hmL⟩ := id hn
    have nfL : ∀ vs, oL.data ≠ .fields vs := fun vs z => by rw [hdL] at z; cases z
    obtain ⟨sl, e1⟩ := (up.trans up1) _ _ hoL nfL
    have hn1 : h1.Ns X.env.locals m := ⟨_, es, ep, e1, hdL, hkL, hmL⟩
    have hcls : (X.env.scope.kind == .class || (X.env.scope.kind == .module && X.env.locals != X.env.globals)) = false := by rw [I.ok.kind]; rfl
    refine wpAny_nameGoes_keeps (s := { s with heap := h1 }) hl hn1 hcls fun h2 v hn2 hs2 => ?_
    obtain ⟨o2, es2, ep2, ho2, hd2, r2⟩ := id hn2
    have nf2 : ∀ vs, o2.data ≠ .fields vs := fun vs z => by rw [hd2] at z; cases z
    have gs : Heap.SameBut X.env.locals sI.heap (sI.heap.update X.env.locals fun _ => o2) := Heap.SameBut.update ..
    have gL : (sI.heap.update X.env.locals fun _ => o2).get? X.env.locals = some o2 := Heap.get?_update_self (fun _ => o2) hoL (Obj.isFreed_of_dict hd2)
    have I2 := inv_gone I hN hi hlk (G := sI.heap.update X.env.locals fun _ => o2) (v0 := v) ⟨o2, es2, ep2, gL, hd2, r2⟩ gs
    obtain ⟨k1, k2, k3, oe, vs, T, oT, ts, he, hz, hd, hv1, hnT, hTe, hT, hdT, h3⟩ := hh
    have naL : a ≠ X.env.locals := fun z => by rw [z, e1] at he; injection he with he; rw [← he] at hd; exact nfL vs hd
    have nTL : T ≠ X.env.locals := fun z => by rw [z, e1] at hT; injection hT with hT; rw [← hT] at hdT; exact nfL ts hdT
    have BL : B.get? X.env.locals = none := by
      obtain ⟨_, ⟨L', o, f1, f2, _, _⟩, _⟩ := id k3
      rw [hf] at f1; injection f1 with f1; rw [f1]; exact f2
    have b1 : B.StaysIn h2 := fun b o e => (hs2.2 b fun z => by rw [z, BL] at e; cases e).trans (k1 b o e)
    have b3 := funFrames_sameBut hs2 ho2 nf2 k3
    have b4 : HandSPX.TracedZ h2 B a (Zc cls d) (rawInt X.env.locals) := ⟨oe, vs, T, oT, ts, (hs2.2 a naL).trans he, hz, hd, hv1, hnT, hTe, (hs2.2 T nTL).trans hT, hdT, h3⟩
    unfold PySem.passOn
    refine wpAny_bind (wpAny_field ((hs2.2 a naL).trans he) hd hv1 ?_)
    rw [if_neg (show ¬ ((Value.ref T == Value.none) = true) from by simp)]
    have nbG : ∀ b o, (sI.heap.update X.env.locals fun _ => o2).get? b = some o → b ∉ frs X.stack → B.get? b = some o := fun b o e hb => by
      refine nb b o ?_ hb
      rw [← gs.2 b fun z => hb (by rw [z, hs]; exact List.mem_filterMap.mpr ⟨X.env, List.mem_cons_self, hf⟩)]
      exact e
    have upG : ∀ h4, h2.UpToSlots h4 → (sI.heap.update X.env.locals fun _ => o2).UpToSlots h4 := fun h4 u4 b o e nfo => by
      by_cases z : b = X.env.locals
      · rw [z, gL] at e
        injection e with e
        subst e
        rw [z]
        exact u4 _ _ ho2 nf2
      · rw [gs.2 b z] at e
        obtain ⟨sl5, e5⟩ := (up.trans up1) b o e nfo
        obtain ⟨sl6, e6⟩ := u4 b _ ((hs2.2 b z).trans e5) nfo
        exact ⟨sl6, e6⟩
    have fin2 : wpAny (model X.prog X.w) A (setFlight (.ref a) X.env.frame) (fun _ s4 => wpAny (model X.prog X.w) A (throw (.ref a) : Sem Flow) (fun _ _ => False) Ex s4) Ex { s with heap := h2, toks := s.toks + 1 } := by
      rw [hf]
      refine HandSPX.setFlight_anyZ (s := { s with heap := h2, toks := s.toks + 1 }) b1 b3 b4 fun h4 c1 c2 c3 c4 => wpAny_throw (K _ ?_)
      exact ⟨a, B, { sI with heap := sI.heap.update X.env.locals fun _ => o2 }, pins, σ.set i none, H, cls, d, rfl, I2, nbG, upG h4 c4, .inr (.inr (by rw [hs]; exact ⟨c1, k2, c2, c3⟩)), na, os, ag, σ, rfl, w⟩
    first
      | exact wpAny_bind (wpAny_pure (wpAny_bind fin2))
      | exact wpAny_bind fin2
  rcases sky with ⟨hB, hn, hl', oe, vs, he, hz, hd, h1⟩ | fl | hh
  · exact HandSPX.look_newZ Zc.steady hA hl' hf he hB hn hd h1 hz fin
  · exact HandSPX.looks_onZ Zc.steady hA hf fl fin
  · exact HandSPX.againZ hf hh.2.2.2 (fin s.heap hh (Heap.UpToSlots.refl _))
def tTryR (K : PySem.W.Frag) (c : Value) (i : Nat) (ts : Addr → Value → Option Addr → TS) (Wout : WX) (tb : WX → TS) : TS := fun D σ H => tb (wAs K c i ts Wout D) D σ H
section
variable {X : Cx} {x n : Str} {c : Value} {i : Nat} {body suite : List Stmt} {b₀ : Stmt} {np pos pos' : Pos} {tb : WX → TS} {ts : Addr → Value → Option Addr → TS} {Wout : WX}
theorem ps_tryR (hs : X.stack = X.env :: X.outer) (hf : X.env.frame = some X.env.locals) (hN : X.N.Nodup) (hi : X.N[i]? = some n) (hln : X.env.kindOf n = some .local) (hc : Names X x c) (hpa : ∀ hd : Option Value, PassesOwnAt (model X.prog X.w) (X.A.mark hd) X.A X.env X.xe) (tk : L2.Takes X Wout)
    (hb : ∀ (W : WX) (pn : List (Addr × Obj)) (xe : Value → Shared → Prop), L2N.Takes (X.tr pn xe) W → PassesOwn (model X.prog X.w) X.A X.env xe → PSs (X.tr pn xe) body (tb W))
    (hsu : ∀ (a : Addr) (oe : Obj) (cls : Value) (d : Option Addr) (pn : List (Addr × Obj)) (xe : Value → Shared → Prop), L2N.Zn cls d oe → (∃ vs, oe.data = .fields vs) → L2.Takes (suiteY X a ((a, oe) :: pn) xe) (fun cls d σ H => Wout cls d (σ.set i none) H) → HotC (suiteY X a ((a, oe) :: pn) xe) →
      PSs (suiteY X a ((a, oe) :: pn) xe) (b₀ :: suite) (ts a cls d)) :
    PS X (.Try body [.ExceptHandler (some (.Name x np)) (some n) (b₀ :: suite) pos'] [] [] pos) (tTryR X.K c i ts Wout tb) := by
  refine ⟨fun pins s σ H D I h => ?_⟩
  have ok := I.ok
  have hfr : X.A.frames = some (X.env :: X.outer) := by rw [ok.frames, hs]
  have hloc : Loc X.env.scope n := .inl hln
  refine wpAny_Try_except ?_
  refine wpAny_mono ((hb (wAs X.K c i ts Wout D) (X.pn ++ pins) (fun e s₁ => wpAny (model X.prog X.w) X.A (noteFrame e X.env) (fun _ s₂ => wpAny (model X.prog X.w) X.A (setFlight e none) (fun _ s₃ =>
    wpAny (model X.prog X.w) X.A (handleBy e X.env [.ExceptHandler (some (.Name x np)) (some n) (b₀ :: suite) pos']) (SP X pins D) X.xe s₃) X.xe s₂) X.xe s₁) (fun u s' xx => ?_) PassesOwn.looking).run [] s σ H D (I.toTry _) h) (fun f s1 hsp => ?_) (fun e s1 he => he)
  · obtain ⟨a, B, sI, pins', σ', H', cls, d, rfl, J', nb, up, sky, na, os, ag, b, hb1, hyes, hno⟩ := xx
    have J : Inv X pins σ' H' sI := J'.ofTry ok
    have sky' : Sky B (X.env :: X.outer) a (L2N.Zn cls d) X.env.locals s'.heap := by rw [← hs]; exact sky
    show wpAny (model X.prog X.w) X.A (noteFrame (.ref a) X.env) _ _ _
    refine L2N.Sky.land L2N.Zn.steady hfr hf sky' fun h3 fl3 up3 => ?_
    have J3 : Inv X pins σ' H' { s' with heap := h3 } := J.landed nb fl3.1 (up.trans up3) os ag
    obtain ⟨oe3, vs3, he3, hz3, hd3⟩ := fl3.there
    have notFr : ∀ {h : Heap} {o : Obj} {vs : Array Value}, h.FunFrames B (X.env :: X.outer) → h.get? a = some o → o.data = .fields vs → a ∉ frs (X.env :: X.outer) := fun {h o vs} ff e dd hm => by
      obtain ⟨_, o', e', hnf⟩ := ff.mem hm
      rw [e] at e'; cases e'
      exact hnf _ dd
    have nfr := notFr fl3.2.2.1 he3 hd3
    have nL : a ≠ X.env.locals := fun z => nfr (List.mem_filterMap.mpr ⟨X.env, List.mem_cons_self, by rw [hf, z]⟩)
    have nF : a ∉ X.fs := fun hm => by
      obtain ⟨e, he, q⟩ := List.mem_filterMap.mp hm
      exact nfr (List.mem_filterMap.mpr ⟨e, List.mem_cons_of_mem _ he, q⟩)
    have S3 := J3.suite he3 hd3 na nL nF
    refine wpAny_handleBy_cons (codeAny_handlers_test ?_) (by intro q; cases q)
    have LT : PySem.W.Looks (model X.prog X.w) h3 (typeOf (.ref a)) cls := fun A Q E s k q => wpAny_typeOf_ref (k _ _ he3) (by rw [hz3.1]; exact q)
    have LM := PySem.W.exm_one (M := model X.prog X.w) (J3.kIn) LT hb1
    have test : ∀ {Q : Value → Shared → Prop} {E : Value → Shared → Prop}, Q c { s' with heap := h3 } → wpAny (model X.prog X.w) (X.A.mark (some (.ref a))) (eval (.Name x np) X.env) Q E { s' with heap := h3 } := fun {Q E} q => by
      obtain ⟨hg, hdbg, hm | ⟨hm, hv, hnn⟩⟩ := hc
      · exact ld_glob (X := X.suite a ((a, oe3) :: (X.pn ++ pins))) S3 hg hm q hdbg
      · exact ld_blt (X := X.suite a ((a, oe3) :: (X.pn ++ pins))) S3 hg hm hv q hnn hdbg
    refine test (LM.here ?_)
    cases b with
    | true =>
      refine codeAny_handlers_suite_as ?_
      refine HandSPX.lands_againZ fl3 fun h4 fl4 up4 => ?_
      have J4 : Inv X pins σ' H' { s' with heap := h4 } := J.landed nb fl4.1 ((up.trans up3).trans up4) os ag
      obtain ⟨oe4, vs4, he4, hz4, hd4⟩ := fl4.there
      have S4 := J4.suite he4 hd4 na nL nF
      refine store_ok (X := X.suite a ((a, oe4) :: (X.pn ++ pins))) (v := .ref a) S4 hN hi hloc rfl (fun s5 S5 => ?_) (.inr hln)
      have run : ∀ E' : Value → Shared → Prop, (∀ u s3, L2.XE (suiteY X a ((a, oe4) :: (X.pn ++ pins)) E') (fun cls d σ H => Wout cls d (σ.set i none) H) u s3 → E' u s3) → wpAny (model X.prog X.w) (X.A.mark (some (.ref a))) (execs (b₀ :: suite) X.env) (fun f s6 => ∃ xe, SP (suiteY X a ((a, oe4) :: (X.pn ++ pins)) xe) [] _ f s6) E' s5 := fun E' tkE =>
        wpAny_mono ((hsu a oe4 cls d (X.pn ++ pins) E' hz4 ⟨_, hd4⟩ tkE ⟨(a, oe4), ⟨rfl, vs4, hd4, hz4.2.2 vs4 hd4⟩, List.mem_cons_self⟩).run [] s5 _ H' _ ((suiteX_of S5).wish _) (hyes rfl a na)) (fun f s6 hsp => ⟨E', hsp⟩) (fun _ _ z => z)
      refine wpAny_mono (run _ fun u2 s2 x2 => ?tk) (fun f s6 hsp => ?_) (fun _ _ z => z)
      case tk =>
        refine gone_raise (X := suiteY X a ((a, oe4) :: (X.pn ++ pins)) _) hs hf hN hi hln hfr x2 fun s3 x3 => ?_
        obtain ⟨a2, B2, sI2, pn2, σ2, H2, cls2, d2, e2, I2, nb2, up2, sky2, na2, os2, ag2, σ0, rfl, w2⟩ := x3
        exact hpa (some (.ref a)) _ _ (tk _ _ ⟨a2, B2, sI2, pins, σ0.set i none, H2, cls2, d2, e2, unsuiteX (Inv.unwish I2) ok, nb2, up2, sky2, na2, os2, ag2, w2⟩)
      obtain ⟨xe, hsp⟩ := hsp
      have end_ : ∀ {xe : Value → Shared → Prop} {σ6 : L2.St} {H6 : Hp} {E6 : Value → Shared → Prop} {Q : Shared → Prop}, Inv (suiteY X a ((a, oe4) :: (X.pn ++ pins)) xe) [] σ6 H6 s6 → (∀ s7, Inv X pins (σ6.set i none) H6 s7 → Q s7) →
          wpAny (model X.prog X.w) X.A (do bindName X.env n .none; unbindBehindTheSuite X.env n pos') (fun _ s7 => Q s7) E6 s6 := fun {xe σ6 H6 E6 Q} S6 hq => gone_ok (unsuiteX (Inv.unwish S6) ok) hN hi hln hq
      cases f with
      | next =>
        obtain ⟨σ6, H6, S6, q6⟩ := hsp
        exact end_ S6 fun s7 J7 => ⟨_, _, J7, q6⟩
      | brk =>
        obtain ⟨σ6, H6, S6, q6⟩ := hsp
        exact end_ S6 fun s7 J7 => ⟨_, _, J7, q6⟩
      | cont =>
        obtain ⟨σ6, H6, S6, q6⟩ := hsp
        exact end_ S6 fun s7 J7 => ⟨_, _, J7, q6⟩
      | ret u =>
        obtain ⟨v6, σ6, H6, S6, r6, q6⟩ := hsp
        exact end_ S6 fun s7 J7 => ⟨_, _, _, J7, r6, q6⟩
    | false =>
      show wpAny _ X.A (handleBy (.ref a) X.env []) _ _ _
      refine wpAny_handleBy_nil ?_
      have fl3' := flyingZ_imp (fun o z => L2N.Zn.zc z) fl3
      obtain ⟨k1, k2, k3, oe, vs, T, oT, ts', he, hz, hd, h1, hr⟩ := id fl3'
      unfold PySem.passOn
      refine wpAny_bind (wpAny_field he hd h1 ?_)
      rw [if_neg (show ¬ ((Value.ref T == Value.none) = true) from by simp)]
      have fin : wpAny (model X.prog X.w) X.A (setFlight (.ref a) X.env.frame) (fun _ s4 => wpAny (model X.prog X.w) X.A (throw (.ref a) : Sem Flow) (SP X pins D) X.xe s4) X.xe { s' with heap := h3 } := by
        rw [hf]
        refine HandSPX.setFlight_upZ fl3' fun h4 hh4 up4 => wpAny_throw (tk _ _ ?_)
        exact ⟨a, B, sI, pins, σ', H', cls, d, rfl, J, nb, (up.trans up3).trans up4, .inr (.inr (by rw [hs]; exact hh4)), na, os, ag, hno rfl⟩
      first
        | exact wpAny_bind (wpAny_pure (wpAny_bind fin))
        | exact wpAny_bind fin
  · cases f with
    | next =>
      obtain ⟨σ', H', J', q⟩ := hsp
      exact wpAny_execs_nil ⟨σ', H', J'.ofTry ok, q⟩
    | brk =>
      obtain ⟨σ', H', J', q⟩ := hsp
      exact ⟨σ', H', J'.ofTry ok, q⟩
    | cont =>
      obtain ⟨σ', H', J', q⟩ := hsp
      exact ⟨σ', H', J'.ofTry ok, q⟩
    | ret u =>
      obtain ⟨v, σ', H', J', r, q⟩ := hsp
      exact ⟨v, σ', H', J'.ofTry ok, r, q⟩
end
/-! ### C(a, .., *y) -/
section
variable {X : Cx} {CX : CXT} {k : Nat} {f C : Addr} {sp : Sp} {E : L2.St → XK} {x : Str} {e : Expr} {es : List Expr} {t : TA} {p pos : Pos}
theorem pe_makeVS (M : Mk X.K C f) (F : FnR X.prog X.w X.K X.mg X.base CX k f sp) (hr : Room (k + 1) X.A) (hg : Gl X x) (hm : X.mg x = some (.ref C)) (hx : ∀ σ, PassesAt CX X σ (E σ))
    (ha : PA X (e :: es) t) (hdb : (x == ("__debug__" : Str)) = false := by decide) (he : starEach (e :: es) X.env = (false, eval e X.env) :: starEach es X.env := by rfl) (hst : (backTo pos (starEach es X.env)).any (·.1) = true := by rfl) :
    PE X (.Call (.Name x p) (e :: es) [] pos) (tMakeS C sp E t) := by
  refine ⟨fun pins s σ H Q I h => ?_⟩
  refine wpAny_Call_Name_kw (ld_glob I hg hm ?_ hdb)
  refine PySem.W.callWith_S2 (h₀ := X.base) I.ok.mod.kin M.kp (thn (ha.run pos pins s σ H _ I h) fun us s1 ⟨vs, H1, I1, r, q⟩ => ⟨I1.kIn, ?_⟩) he hst
  exact run_makeV M F hr (hx σ) I1 r q
end
theorem go_star {K : PySem.W.Frag} {te : TE} {t : TA} {σ : L2.St} {H : Hp} {Q : List V → Hp → Prop} (h : te σ H fun x H1 => ∃ p xs, x = V.ref p ∧ (SqT K H1 p xs ∨ SqL K H1 p xs) ∧ t σ H1 fun ys H2 => Q (xs ++ ys) H2) : StX.tStar K te t σ H Q := h
theorem go_tryR {K : PySem.W.Frag} {c : Value} {i : Nat} {tb : WX → TS} {ts : Addr → Value → Option Addr → TS} {Wout : WX} {D : Ends} {σ : L2.St} {H : Hp} (h : tb (wAs K c i ts Wout D) D σ H) : tTryR K c i ts Wout tb D σ H := h
theorem go_raiseF {K : PySem.W.Frag} {b C : Addr} {i : Nat} {W : WX} {t : L2.St → Hp → XK → Prop} {D : Ends} {σ : L2.St} {H : Hp} (hσ : σ[i]? = some (some (.ref b))) (hC : PySem.W.subIn K (.ref C) (.type "BaseException") = some true) (h : t σ H fun cls d H' => W cls d σ H') : tRaiseF K b (.ref C) i W t D σ H := ⟨hσ, ⟨C, rfl, hC⟩, h⟩
/-! ### where a try's body or suite must not be named -/
theorem pa_starK {X : Cx} {K : PySem.W.Frag} {e : Expr} {es : List Expr} {te : TE} {t : TA} {p : Pos} (h : X.K = K) (he : PE X e te) (hr : PA X es t) (hs : starEach (.Starred e p :: es) X.env = (true, eval e X.env) :: starEach es X.env) : PA X (.Starred e p :: es) (StX.tStar K te t) := h ▸ StX.pa_star he hr hs
theorem pe_xfPK {X : Cx} {K : PySem.W.Frag} {a : Addr} {oe : Obj} {cls : Value} {d : Option Addr} {e : Expr} {te : TE} {pos : Pos} {n : Str} (h : X.K = K) (hp : (a, oe) ∈ X.pn) (hz : Zc cls d oe) (hf : ∃ vs, oe.data = .fields vs) (he : PE X e te) (hb : attributeBase e n X.env (eval e X.env) = eval e X.env := by rfl) :
    PE X (.Attribute e n pos) (tXfX K a cls d n te) := h ▸ pe_xfP hp hz hf he hb
theorem ps_raiseHFK {X : Cx} {K : PySem.W.Frag} {W : WX} {e : Expr} {t : L2.St → Hp → XK → Prop} {i : Nat} {n : Str} {b : Addr} {ob : Obj} {cls : Value} {d : Option Addr} {np pos : Pos} (h : X.K = K) (hp : (b, ob) ∈ X.pn) (hz : Zc cls d ob) (hf : ∃ vs, ob.data = .fields vs) (hc : HotC X) (tk : L2.Takes X W) (he : PMk5 X e t)
    (hi : X.N[i]? = some n) (hl : X.env.kindOf n = some .local) (hdb : (n == ("__debug__" : Str)) = false := by decide) :
    PS X (.Raise (some e) (some (.Name n np)) pos) (tRaiseF K b cls i W t) := h ▸ ps_raiseHF hp hz hf hc tk he hi hl hdb
end Vc

/-! Xe: enumerate over a tuple; a test a op b op c op d (my own; ways of HandS.Iter's enumerate, PyProof.EnumMake, HandS.Call's chains). -/
namespace Vc
open PySem PySem.Spec PyProof.Rows L2
theorem meets_enumerate_newT (l : Addr) (items : Array Value) (n : Nat) (dct : Option Addr) (sl : Array (Option Value)) :
    Meets (Builtin.«enumerate.__new__» ⟨[.type "enumerate", .ref l], []⟩) (fun _ R s => s.heap.get? l = some { cls := .type "tuple", dict := dct, data := .seq items n, slots := sl } ∧
      R (.ok (.ret (.ref (s.heap.push { cls := .type "tuple_iterator", data := .fields #[.ref l, .int 0 0] }).objs.size)))
        { s with heap := (s.heap.push { cls := .type "tuple_iterator", data := .fields #[.ref l, .int 0 0] }).push { cls := .type "enumerate", data := .fields #[.none, .bool false, .ref s.heap.objs.size, rawInt 0, .none, .none] } }) :=
  .of_wp fun prog w A R s h => by
    obtain ⟨hp, g, d, tk, os⟩ := s; obtain ⟨hl, h⟩ := h
    have hsub := sub_enumerate
    have hL : Heap.IsTuple (Shared.heap ⟨hp, g, d, tk, os⟩) l items := ⟨_, hl, rfl, n, rfl⟩
    wp_walk using PySem.AutoSeq1.wpAny_loadPart' hl
    refine wpAny_stack_any fun st => wpAny_pure ?_
    split
    · rename_i c _ _ _ _ _
      cases (c == Value.type "enumerate")
      · wp_walk using PySem.AutoSeq1.wpAny_loadPart' hl, wpAny_pyIter_tuple hL
        exact ⟨_, rfl, h⟩
      · wp_walk using PySem.AutoSeq1.wpAny_loadPart' hl, wpAny_pyIter_tuple hL
        exact ⟨_, rfl, h⟩
    · wp_walk using PySem.AutoSeq1.wpAny_loadPart' hl, wpAny_pyIter_tuple hL
      exact ⟨_, rfl, h⟩
theorem call_enumerate_tuple {prog : Program} {w : World} {A : Around} {E : Value → Shared → Prop} {s : Shared} {l : Addr} {items : Array Value} {Q : Value → Shared → Prop} (hL : s.heap.IsTuple l items)
    (h : ∀ h', IsEnum h' (s.heap.objs.size + 1) s.heap.objs.size 0 .none → h'.IsTupleIter s.heap.objs.size l 0 → h'.objs.size = s.heap.objs.size + 2 →
      (∀ b o, s.heap.get? b = some o → h'.get? b = some o) → Q (.ref (s.heap.objs.size + 1)) { s with heap := h' }) :
    wpAny (model prog w) A (call (.type "enumerate") [.ref l]) Q E s := by
  obtain ⟨⟨c, dct, dt, sl⟩, hl, hc, n, hd⟩ := hL
  replace hc : c = .type "tuple" := hc
  replace hd : dt = .seq items n := hd
  subst hc hd
  refine callType_new F.called_enumerate (by decide) (F.typeCall_enumerate_1 _) (F.newCall_enumerate_1 _) (fun obj => F.args_object_init_2 obj _) F.entry_enumerate_new
    (meets_enumerate_newT l items n dct sl) ⟨hl, ?_⟩
  have hz : (s.heap.push { cls := .type "tuple_iterator", data := .fields #[.ref l, .int 0 0] }).objs.size = s.heap.objs.size + 1 := Heap.size_push ..
  show _ ∧ _
  rw [hz]
  have he : IsEnum ((s.heap.push { cls := .type "tuple_iterator", data := .fields #[.ref l, .int 0 0] }).push
      { cls := .type "enumerate", data := .fields #[.none, .bool false, .ref s.heap.objs.size, rawInt 0, .none, .none] }) (s.heap.objs.size + 1) s.heap.objs.size 0 .none := by
    have := Heap.get?_push_size (s.heap.push { cls := .type "tuple_iterator", data := .fields #[.ref l, .int 0 0] })
      (o := { cls := .type "enumerate", data := .fields #[.none, .bool false, .ref s.heap.objs.size, rawInt 0, .none, .none] }) rfl
    rw [hz] at this; exact this
  refine ⟨⟨_, he, rfl⟩, h _ he ⟨_, Heap.get?_push_of_some _ (Heap.get?_push_size _ rfl), rfl, rfl⟩ (by rw [Heap.size_push, hz]) fun b o x => Heap.get?_push_of_some _ (Heap.get?_push_of_some _ x)⟩
/-- the tuple at a, each item in a new pair -/
def IteT (K : PySem.W.Frag) (a : Addr) : It :=
  ⟨fun i H => ∃ (xs : List V) (x : V), SqT K H a xs ∧ xs[i]? = some x, fun i H v H' => ∃ T x, v = .ref T ∧ H T = none ∧ H' = upd H T (.tup [.int (i : Nat), x]) ∧ ∀ xs, SqT K H a xs → xs[i]? = some x, fun i H => ∃ xs : List V, SqT K H a xs ∧ xs.length ≤ i⟩
theorem turn_enumT {P : Program} {w : World} {K : PySem.W.Frag} {elts : List Expr} {kk : Nat} {tpos : Pos} (a e it : Addr) :
    Turn P w K (.Tuple elts kk tpos) (IteT K a) [e, it] e (fun i h => (∃ old, IsEnum h e it ((i : Nat) : Int) old) ∧ h.IsTupleIter it a i ∧ e ≠ it ∧ a ≠ it ∧ a ≠ e) where
  mem := by simp
  obj := fun i h st b hb => by
    obtain ⟨⟨old, he⟩, ⟨o, ho, hc, hd⟩, _⟩ := st
    have e' : b = e ∨ b = it := by simpa using hb
    rcases e' with z | z
    · rw [z]; exact ⟨_, he, fun v q => nomatch q⟩
    · rw [z]; exact ⟨o, ho, fun v q => by rw [hd] at q; cases q⟩
  keep := fun i h h' st k => let ⟨⟨old, he⟩, hi, hne⟩ := st; ⟨⟨old, k e (by simp) _ he⟩, hi.at fun o q => k it (by simp) o q, hne⟩
  item := by
    intro X hP hw hK hc i pins s σ H E I hf st hg
    subst hP hw hK
    obtain ⟨⟨old, he⟩, hit, hne, hai, hae⟩ := st
    obtain ⟨xs, x, hq, hx⟩ := hg
    obtain ⟨its, rv, p, hz⟩ := I.tuple hq
    obtain ⟨u, hu, ru⟩ := rv.get hx
    have hel : e < s.heap.objs.size := Heap.lt_size he
    have hil : it < s.heap.objs.size := by obtain ⟨_, q, _⟩ := hit; exact Heap.lt_size q
    have hlt : i < its.toArray.size := by
      have := (List.getElem?_eq_some_iff.mp hu).1
      simpa using this
    refine wpAny_pyNext_enum_itemD (Draws.tuple (A := X.A.in1) (show X.A.in1.handled = none from I.ok.hd hc) it a hai its.toArray) he ⟨hit, p⟩ hlt hne (by simp [hne, Ne.symm hae]) fun x' h' tk hP ho hst' hT hsz hk => ?_
    have hux : x' = u := by
      have h1 : its[i]? = some x' := by simpa using hP
      rw [hu] at h1
      exact (Option.some.inj h1).symm
    subst hux
    refine ⟨_, rfl, wpAny_letOwnedTupleGo_enum (s := { s with heap := h', toks := tk + 1 }) ho fun h'' he' sb => ?_⟩
    have hT2 : h''.get? s.heap.objs.size = some { cls := .type "tuple", data := .seq #[.int i tk, x'] } := (sb.2 _ (Nat.ne_of_gt hel)).trans hT
    have new : ObjOk X.prog X.w (upd H s.heap.objs.size (.tup [.int (i : Nat), x])) h'' s.heap.objs.size (.tup [.int (i : Nat), x]) :=
      ⟨by show 2 ≤ sizeLine; decide, [.int i tk, x'], .cons ⟨_, rfl⟩ (.cons ru .nil), ⟨_, hT2, rfl, _, rfl⟩⟩
    have I1 : Inv X pins σ (upd H s.heap.objs.size (.tup [.int (i : Nat), x])) { s with heap := h'', toks := tk + 1 } :=
      I.turnedNew (ch := [e, it]) (fun b ob hb q => (sb.2 b (fun z => hb (by simp [z]))).trans (hk b ob (fun z => hb (by simp [z])) (fun z => hb (by simp [z])) q)) hf (Nat.le_refl _) new
    refine ⟨.ref s.heap.objs.size, _, I1, rfl, ⟨_, x, rfl, I.hok.fresh (Nat.le_refl _), rfl, fun ys hy => by rw [I.tuple_inj hy hq]; exact hx⟩, ⟨⟨x', ?_⟩, hst'.1.at fun o q => (sb.2 it (Ne.symm hne)).trans q, hne, hai, hae⟩, fun b hb => ?_⟩
    · have e1 : ((i + 1 : Nat) : Int) = (i : Int) + 1 := by omega
      rw [e1]; exact he'
    · have hb' : b < s.heap.objs.size := by
        have e' : b = e ∨ b = it := by simpa using hb
        rcases e' with z | z
        · rw [z]; exact hel
        · rw [z]; exact hil
      rw [upd_ne (Nat.ne_of_lt hb')]
      exact (hf b hb).1
  done := by
    intro X hP hw hK hc i pins s σ H E I hf st hg
    subst hP hw hK
    obtain ⟨⟨old, he⟩, hit, hne, hai, hae⟩ := st
    obtain ⟨xs, hq, hx⟩ := hg
    obtain ⟨its, rv, p, hz⟩ := I.tuple hq
    obtain ⟨f0, f1, f2, f3, f4, f5⟩ := hf it (by simp)
    have hl := rv.length
    have D : Draws X.prog X.w X.A.in1 it [it, a] i (fun _ _ => False) (fun j h => j = i ∧ h.IsTupleIter it a i ∧ h.IsTuple a its.toArray) := ⟨fun _ _ st => let ⟨o, ho, _⟩ := st.2.1; ⟨o, ho⟩, fun _ _ _ st hk => ⟨st.1, st.2.1.at fun o e => hk it (by simp) o e, st.2.2.at fun o e => hk a (by simp) o e⟩,
      fun j s Q E hj st hQ => absurd (st.1 ▸ hj) (Nat.lt_irrefl _), fun s Q E st hE => wpAny_nextOf_tuple_end (show X.A.in1.handled = none from I.ok.hd hc) st.2.1 st.2.2 (by simp; omega) hE⟩
    exact wpAny_pyNext_enum_endD D he ⟨rfl, hit, p⟩ fun h' eb => ⟨rfl, I.turned (t' := s.toks) (fun b o hb q => eb b o hb q) f0 f1 f3 f4 f5⟩
  self := fun A i s Q E st h => let ⟨⟨_, he⟩, _⟩ := st; wpAny_pyIter_enum he h
def iEnumT (K : PySem.W.Frag) (ta : TA) : TI := fun σ H R => ta σ H fun vs H1 => ∃ a xs, vs = [.ref a] ∧ SqT K H1 a xs ∧ R (IteT K a) H1
theorem pi_enumT {X : Cx} {e : Expr} {ta : TA} {p pos tpos : Pos} {elts : List Expr} {kk : Nat} (hg : Gl X "enumerate") (hm : X.mg "enumerate" = none) (ha : PA X [e] ta) (hs : starEach [e] X.env = [(false, eval e X.env)] := by rfl) :
    PI X (.Tuple elts kk tpos) (.Call (.Name "enumerate" p) [e] [] pos) (iEnumT X.K ta) := by
  refine ⟨fun pins s σ H R I h => ?_⟩
  refine Call_ (ld_blt I hg hm boot_enumerate (PyProof.Rows.callWith_type1 (thn (ha.run pos pins s σ H _ I h) fun us s1 ⟨vs, H1, I1, r1, q1⟩ => ?_) hs rfl))
  obtain ⟨a, xs, ex, hq, q⟩ := q1
  subst ex
  cases r1 with
  | cons r rr =>
    cases rr
    cases r
    obtain ⟨its, rv, p', hz⟩ := I1.tuple hq
    have hal : a < s1.heap.objs.size := by obtain ⟨o, e1, _⟩ := id p'; exact Heap.lt_size e1
    refine call_enumerate_tuple p' fun h' he hit hsz hk => wpAny_pyIter_enum he ?_
    have I2 : Inv X pins σ H1 { s1 with heap := h' } := I1.kept (t' := s1.toks) hk
    refine ⟨s1.heap.objs.size + 1, [s1.heap.objs.size + 1, s1.heap.objs.size], _, _, H1, rfl, I2, turn_enumT a (s1.heap.objs.size + 1) s1.heap.objs.size, ⟨⟨.none, he⟩, hit, Nat.succ_ne_self _, Nat.ne_of_lt hal, Nat.ne_of_lt (Nat.lt_succ_of_lt hal)⟩, fun b hb => ?_, q⟩
    have e' : b = s1.heap.objs.size + 1 ∨ b = s1.heap.objs.size := by simpa using hb
    have hle : s1.heap.objs.size ≤ b := by
      rcases e' with z | z
      · rw [z]; exact Nat.le_add_right _ _
      · rw [z]; exact Nat.le_refl _
    exact I1.fpOk hle (I1.hok.fresh hle)
theorem go_iEnumT {K : PySem.W.Frag} {ta : TA} {σ : L2.St} {H : Hp} {R : It → Hp → Prop} (h : ta σ H fun vs H1 => ∃ a xs, vs = [.ref a] ∧ SqT K H1 a xs ∧ R (IteT K a) H1) : iEnumT K ta σ H R := h
/-- if a op b op c op d -/
def tChain3 (r r' r'' : R2) (ta tb tc td : TE) : TT := fun σ H Q => ta σ H fun x H1 => tb σ H1 fun y H2 => r x y H2 fun z H3 => ∃ k, z = .bl k ∧
  (if k = true then tc σ H3 fun w H4 => r' y w H4 fun z H5 => ∃ k, z = .bl k ∧ (if k = true then td σ H5 fun u H6 => r'' w u H6 fun z H7 => ∃ k, z = .bl k ∧ Q k H7 else Q false H5) else Q false H3)
theorem pt_chain3 {X : Cx} {a b c d : Expr} {ta tb tc td : TE} {pos : Pos} {op op' op'' : CmpOp} {r r' r'' : R2} (ho : OpR X (compareOp op) r) (ho' : OpR X (compareOp op') r') (ho'' : OpR X (compareOp op'') r'') (ha : PE X a ta) (hb : PE X b tb) (hc : PE X c tc) (hd : PE X d td)
    (hm : lastMarks [op, op', op''] [b, c, d] = false := by with_unfolding_all rfl) : PT X (.Compare a [op, op', op''] [b, c, d] pos) (tChain3 r r' r'' ta tb tc td) := by
  refine ⟨fun pins s σ H Q I h => ?_⟩
  refine isTrue_chain (thn (ha.run pins s σ H _ I h) fun v s1 ⟨x, H1, I1, r1, q1⟩ => test_link (thn (hb.run pins s1 σ H1 _ I1 q1) fun u s2 ⟨y, H2, I2, r2, q2⟩ =>
    thn (ho pins s2 σ H2 x y v u _ I2 r1 r2 q2) fun d s3 ⟨z, H3, I3, r3, k, e, q3⟩ => ?_)) hm
  subst e
  cases r3
  refine wpAny_truthy_bool ?_
  cases k with
  | false => exact ite_ff ⟨H3, I3, q3⟩
  | true =>
    refine ite_tt (test_link (thn (hc.run pins s3 σ H3 _ I3 q3) fun w' s4 ⟨z', H4, I4, r4, q4⟩ => thn (ho' pins s4 σ H4 y z' u w' _ I4 r2 r4 q4) fun d' s5 ⟨z2, H5, I5, r5, k2, e2, q5⟩ => ?_))
    subst e2
    cases r5
    refine wpAny_truthy_bool ?_
    cases k2 with
    | false => exact ite_ff ⟨H5, I5, q5⟩
    | true =>
      refine ite_tt (test_last (thn (hd.run pins s5 σ H5 _ I5 q5) fun w'' s6 ⟨z'', H6, I6, r6, q6⟩ => thn (ho'' pins s6 σ H6 z' z'' w' w'' _ I6 r4 r6 q6) fun d'' s7 ⟨z3, H7, I7, r7, k3, e3, q7⟩ => ?_))
      subst e3
      cases r7
      exact wpAny_truthy_bool ⟨H7, I7, q7⟩
theorem go_chain3 {r r' r'' : R2} {ta tb tc td : TE} {σ : L2.St} {H : Hp} {Q : Bool → Hp → Prop} (h : ta σ H fun x H1 => tb σ H1 fun y H2 => r x y H2 fun z H3 => ∃ k, z = .bl k ∧
  (if k = true then tc σ H3 fun w H4 => r' y w H4 fun z H5 => ∃ k, z = .bl k ∧ (if k = true then td σ H5 fun u H6 => r'' w u H6 fun z H7 => ∃ k, z = .bl k ∧ Q k H7 else Q false H5) else Q false H3)) : tChain3 r r' r'' ta tb tc td σ H Q := h
theorem go_par {i j : Nat} {ta : TA} {D : Ends} {σ : L2.St} {H : Hp} (h : ta σ H fun vs H1 => ∃ v w, vs = [v, w] ∧ D.nx ((σ.set i (some v)).set j (some w)) H1) : tPar i j ta D σ H := h
end Vc

/-! Xn: x != y by an own __eq__ (object's __ne__ asks it); xs.count(True) (my own). -/
namespace Vc
open PySem PySem.Spec PyProof.Rows L2
section
open PySem.W PySem.Calls
variable {prog : Program} {w : World} {A A₀ : Around} {E : Value → Shared → Prop} {s : Shared} {K : Frag} {x C L f : Addr} {h₀ : Heap} {m : Str → Option Value} {ox : Obj} {od : Option Obj} {name : Str} {b tb : Value}
theorem ifBoundB_K {M : Model} {id : String} {args : List Value} {Q : Option Value → Shared → Prop} (X : K.In s.heap) (I : InstAt s.heap x ox C od) (hs : findIn K (.ref C) name = some (some (.builtin id))) (hb : ∀ self, bindSpecial (.builtin id) self = pure (.builtin id, [self]))
    (h : wpAny M A (call (.builtin id) (.ref x :: args)) (fun v => Q (some v)) E s) : wpAny M A (callSpecialIfBound? (.ref x) name args) Q E s := by
  simp only [callSpecialIfBound?, bindSpecialIfBound?]
  refine wpAny_holding (wpAny_bind (wpAny_bind (wpAny_bind (I.type.here ((looks_findIn X hs).here ?_)))))
  simp only [hb]
  refine wpAny_bind (wpAny_askSetting (wpAny_ite ?_))
  have fin : wpAny M A (call (.builtin id) ([.ref x] ++ args) >>= fun v => pure (some v)) Q E s := wpAny_bind (wpAny_mono h (fun v s' h' => wpAny_pure h') fun _ _ h' => h')
  split
  · exact wpAny_bind (wpAny_pure (wpAny_pure fin))
  · exact wpAny_tryCatch (wpAny_bind (wpAny_pure (wpAny_pure fin)))
theorem neEntry {Q : Fin → Shared → Prop} (hu : A.units < cLine) (X : K.In s.heap) (I : InstAt s.heap x ox C od) (hs : findIn K (.ref C) "__eq__" = some (some (.ref f))) (hf : isFn K (.ref f) = true)
    (hcall : wpAny (model prog w) A (call (.ref f) [.ref x, b]) (fun v s' => ∃ c, v = .bool c ∧ Q (.done (.ret (.bool (!c)))) s') E s) :
    wpAny (model prog w) A (Builtin.«object.__ne__» ⟨[.ref x, b], []⟩) Q E s := by
  unfold Builtin.«object.__ne__»
  repeat (first
    | with_reducible refine wpAny_cRoomFor hu ?_
    | (refine wpAny_bind (m := callSpecialIfBound? (.ref x) (Str.ofString "__eq__") [b])
        (ifBound_K X I hs hf (wpAny_mono hcall (fun v s' hr => by
          obtain ⟨c, rfl, hq⟩ := hr
          repeat (first | exact hq | exact wpAny_pure hq | exact wpAny_truthy_bool hq | (refine wpAny_bind (m := truthy (.bool _)) (wpAny_truthy_bool ?_)) | wp_step)) fun _ _ e => e)))
    | wp_step)
theorem tryNe {Q : Option Value → Shared → Prop} (hu : A.units + 1 < cLine) (X : K.In s.heap) (I : InstAt s.heap x ox C od) (hn : findIn K (.ref C) "__ne__" = some (some (.builtin "object.__ne__"))) (ht : mroIn K C (.type "object") = some true)
    (hs : findIn K (.ref C) "__eq__" = some (some (.ref f))) (hf : isFn K (.ref f) = true)
    (hcall : wpAny (model prog w) A.in1 (call (.ref f) [.ref x, b]) (fun v s' => ∃ c, v = .bool c ∧ Q (some (.bool (!c))) s') E s) :
    wpAny (model prog w) A (tryCompare (.ref x) "__ne__" b) Q E s := by
  simp only [tryCompare]
  have hi : Looks (model prog w) s.heap (isInstance (.ref x) (.type "object")) true := I.type.andThen (looks_mroIn X ht)
  refine wpAny_bind (ifBoundB_K X I hn (fun self => PySem.F.cmp_object.ne.bind self) (wpAny_call (codeAny_call_builtin PySem.F.cmp_object.ne.plain PySem.F.cmpEntry_ne
    (check_slot PySem.F.cmpKind_ne PySem.F.cmpSplit_ne hi (PySem.F.cmpArgs_ne _ _) (neEntry (A := A.in1) hu X I hs hf (wpAny_mono hcall (fun v s' hv => ?_) fun _ _ e => e))))))
  obtain ⟨c, rfl, hq⟩ := hv
  first | exact ⟨c, rfl, wpAny_pure hq⟩ | exact ⟨c, rfl, wpAny_pure (wpAny_pure hq)⟩ | exact ⟨c, rfl, hq⟩
theorem ne_K {Q : Value → Shared → Prop} (hu : A.units + 1 < cLine) (F : Fr h₀ L s.heap m) (X₀ : K.In h₀) (I : InstAt s.heap x ox C od) (hb : Looks (model prog w) s.heap (typeOf b) tb) (hn : notFirst K C tb = true)
    (hne : findIn K (.ref C) "__ne__" = some (some (.builtin "object.__ne__"))) (ht : mroIn K C (.type "object") = some true) (hs : findIn K (.ref C) "__eq__" = some (some (.ref f))) (hf : isFn K (.ref f) = true)
    (h : wpAny (model prog w) A.in1 (call (.ref f) [.ref x, b]) (fun v s' => ∃ c, v = .bool c ∧ Q (.bool (!c)) s') E s) : wpAny (model prog w) A (richCompare .NotEq (.ref x) b) Q E s := by
  have X := X₀.keeps F.keep
  have one : wpAny (model prog w) A (tryCompare (.ref x) "__ne__" b) (fun r s' => ∃ v, r = some v ∧ Q v s') E s := by
    refine tryNe hu X I hne ht hs hf (wpAny_mono h (fun v s' hv => ?_) fun _ _ e => e)
    obtain ⟨c, rfl, hq⟩ := hv
    exact ⟨c, rfl, _, rfl, hq⟩
  unfold richCompare
  simp only [oneThing_ref]
  refine wpAny_holding (wpAny_bind (wpAny_cRoomFor (Nat.lt_of_succ_lt hu) ?_))
  rw [cmpInfo_NotEq]
  dsimp only
  refine wpAny_bind (I.type.here (wpAny_bind (hb.here ?_)))
  split
  · rename_i q
    have e : subIn K tb (.ref C) = some false := by
      rcases Bool.or_eq_true_iff.mp hn with e | e
      · rw [beq_iff_eq.mp e] at q; simp at q
      · exact beq_iff_eq.mp e
    refine wpAny_bind ((looks_subIn X e).here ?_)
    simp only [Bool.false_eq_true, if_false]
    refine wpAny_bind (wpAny_mono one (fun r s' z => ?_) fun _ _ e => e)
    obtain ⟨v, rfl, hq⟩ := z
    exact wpAny_pure hq
  · refine wpAny_bind (wpAny_pure ?_)
    simp only [Bool.false_eq_true, if_false]
    refine wpAny_bind (wpAny_mono one (fun r s' z => ?_) fun _ _ e => e)
    obtain ⟨v, rfl, hq⟩ := z
    exact wpAny_pure hq
end
structure NeM (K : PySem.W.Frag) (C g : Addr) : Prop where
  eq : EqM K C g
  ne : PySem.W.findIn K (.ref C) "__ne__" = some (some (.builtin "object.__ne__"))
  top : PySem.W.mroIn K C (.type "object") = some true
def rNeO (K : PySem.W.Frag) (C : Addr) (sp : Sp) : R2 := fun x y H Q => ∃ (a dx : Addr) (fs : List (Str × V)) (t : Value), x = .ref a ∧ H a = some (.ins C dx fs) ∧ TyX K H y t ∧ PySem.W.notFirst K C t = true ∧ sp [x, y] H (fun v H' => ∃ b, v = .bl b ∧ Q (.bl (!b)) H') E0
theorem op_neO {X : Cx} {C g : Addr} {fd : FuncData} {ps : List Str} {sp : Sp} {n : Nat} (F : FnOk X.prog X.w X.K X.mg X.base CX0 n g fd ps sp) (hr : Room (n + 1) X.A) (m : NeM X.K C g) (hb : Binds X.K fd ps []) : OpR X (compareOp .NotEq) (rNeO X.K C sp) := by
  intro pins s σ H x y v u Q I rx ry hq
  obtain ⟨a, dx, fs, t, rfl, ha, ty, nf, q⟩ := hq
  cases rx
  show wpAny (model X.prog X.w) X.A (richCompare .NotEq (.ref a) u) (EP X pins σ Q) X.xe s
  obtain ⟨mA, J, _⟩ := ins_get I.hok ha
  obtain ⟨od, J, _⟩ := J.look
  obtain ⟨_, Z, p, _⟩ := kit_of I ry ty
  obtain ⟨mm, hF⟩ := I.fr
  refine ne_K (tb := t) (by have := hr.un; omega) hF I.ok.mod.kin J (Z.ty _ _ I.kIn p) nf m.ne m.top m.eq.at_ m.eq.fn ?_
  have hl := F.len _ _ _ _ q
  have r2 : Vals [V.ref a, y] [Value.ref a, u] := .cons rfl (.cons ry .nil)
  have hb' := hb s [.ref a, u] I.kIn (by simpa using hl)
  rw [List.append_nil] at hb'
  refine wpAny_call (codeAny_mono (F.run X.A.in1 X.stack s H ⟨[.ref a, u], []⟩ [.ref a, u] [.ref a, y] _ E0 hr.in1 I.env0.in1 hb' r2 q) fun r s' hq => ?_)
  cases r with
  | error e => exact hq.elim
  | ok fl =>
    cases fl with
    | ret w =>
      obtain ⟨z, H', I', rz, b, ez, qz⟩ := I.after hq
      subst ez
      cases rz
      exact ⟨b, rfl, .bl (!b), H', I', rfl, qz⟩
    | next => exact False.elim hq
    | brk => exact False.elim hq
    | cont => exact False.elim hq
theorem go_neO {K : PySem.W.Frag} {C : Addr} {sp : Sp} {x : V} {y : V} {H : Hp} {Q : VK} {a dx : Addr} {fs : List (Str × V)} {t : Value} (e : x = .ref a) (ha : H a = some (.ins C dx fs)) (ty : TyX K H y t) (nf : PySem.W.notFirst K C t = true)
    (q : sp [x, y] H (fun v H' => ∃ b, v = .bl b ∧ Q (.bl (!b)) H') E0) : rNeO K C sp x y H Q := ⟨a, dx, fs, t, e, ha, ty, nf, q⟩
end Vc

/-! Xg: defs that are run where no repr is under way (so that repr of data is known), their calls, the end of a law over them (my own). -/
namespace Vc
open PySem PySem.Spec PyProof.Rows L2
structure FnG (P : Program) (w : World) (K : PySem.W.Frag) (mg : Str → Option Value) (base : Heap) (CX : CXT) (k : Nat) (f : Addr) (fd : FuncData) (ps : List Str) (sp : Sp) : Prop where
  len : ∀ vs H Q E, sp vs H Q E → vs.length = ps.length
  run : ∀ (A : Around) (outer : List Env) (s : Shared) (H : Hp) (args : Args) (us : List Value) (vs : List V) (Q : VK) (E : XK), A.guards = some [] → Room k A → Env0 P w K mg base A outer s H → BindsTo s fd args (ps.zip us) → Vals vs us → sp vs H Q E →
    codeAny (model P w) A (.call (.ref f) args) (CR CX outer P w H s Q E) s
theorem FnG.of {P : Program} {w : World} {K : PySem.W.Frag} {mg : Str → Option Value} {base : Heap} {CX : CXT} {k : Nat} {f : Addr} {fd : FuncData} {ps : List Str} {sp : Sp} (F : FnOk P w K mg base CX k f fd ps sp) : FnG P w K mg base CX k f fd ps sp :=
  ⟨F.len, fun A outer s H args us vs Q E _ hr => F.run A outer s H args us vs Q E hr⟩
/-- the rule for such a def -/
theorem Fun.okG {P : Program} {w : World} {K : PySem.W.Frag} {mg : Str → Option Value} {base : Heap} {x qual : Str} {st : Stmt} {f : Addr} {fd : FuncData} {N ps : List Str} {k : Nat} {sp : Sp} (F : Fun K x qual st f fd) (S : FnScope N ps (defScope st)) (len : ∀ vs H Q E, sp vs H Q E → vs.length = ps.length)
    (hbody : ∀ (cdv : Value) (A : Around) (outer : List Env) (s : Shared) (H : Hp) (vs : List V) (Q : VK) (E : XK), (A.deeper (envOfC qual (defScope st) s.heap.objs.size f cdv)).guards = some [] → Room k (A.deeper (envOfC qual (defScope st) s.heap.objs.size f cdv)) → sp vs H Q E →
      ∃ t, PSs (cxOf CX0 P w K mg base N qual (defScope st) f cdv A outer s H E).nox (defBody st) t ∧ t { nx := fun _ H' => Q .non H', rt := Q } (L2.start N vs) H) : FnG P w K mg base CX0 (k + 1) f fd ps sp := by
  obtain ⟨oc, od, kV, doc, pm, an, cdv, ct, osl, rfl, lk, hcd⟩ := F.ex
  refine ⟨len, fun A outer s H args us vs Q E hg hr e0 hb r hsp => ?_⟩
  refine LamX.run_ofS lk hcd S hr e0 hb r (len _ _ _ _ hsp) fun hr' => ?_
  obtain ⟨t, h, q⟩ := hbody cdv A outer s H vs Q E hg hr' hsp
  exact ⟨t, h.nox, q⟩
section
variable {X : Cx} {k : Nat} {f : Addr} {fd : FuncData} {ps : List Str} {sp : Sp} {x : Str} {q pos : Pos} {e : Expr} {es : List Expr} {t : TA}
theorem runG {pins : List (Addr × Obj)} {σ : L2.St} {H : Hp} {s : Shared} {us : List Value} {vs : List V} {Q : VK} (F : FnG X.prog X.w X.K X.mg X.base CX0 k f fd ps sp) (hgd : X.A.guards = some []) (hr : Room k X.A) (hb : Binds X.K fd ps []) (I : Inv X pins σ H s) (r : Vals vs us) (q : sp vs H Q E0) :
    wpAny (model X.prog X.w) X.A (call (.ref f) us) (EP X pins σ Q) X.xe s := by
  have hl : us.length = ps.length := by rw [← r.length]; exact F.len _ _ _ _ q
  have b := hb s us I.kIn (by rw [List.append_nil]; exact hl)
  rw [List.append_nil] at b
  refine wpAny_call (codeAny_mono (F.run X.A X.stack s H ⟨us, []⟩ us vs Q E0 hgd hr I.env0 b r q) fun r s' hq => ?_)
  rcases r with e | fl
  · exact hq.elim
  · cases fl with
    | ret u => exact I.after hq
    | next => exact False.elim hq
    | brk => exact False.elim hq
    | cont => exact False.elim hq
/-- f(e, ..) -/
theorem pe_callG (F : FnG X.prog X.w X.K X.mg X.base CX0 k f fd ps sp) (hgd : X.A.guards = some []) (hr : Room k X.A) (hg : Gl X x) (hm : X.mg x = some (.ref f)) (hk : PySem.W.keepIn X.K (.ref f) = true) (hb : Binds X.K fd ps [])
    (ha : PA X (e :: es) t) (hdb : (x == ("__debug__" : Str)) = false := by decide) (he : starEach (e :: es) X.env = (false, eval e X.env) :: starEach es X.env := by rfl) (hpl : (backTo pos (starEach es X.env)).any (·.1) = false := by rfl) :
    PE X (.Call (.Name x q) (e :: es) [] pos) (tCall sp [] E0 t) := by
  refine ⟨fun pins s σ H Q I h => ?_⟩
  refine wpAny_Call_Name_kw (ld_glob I hg hm ?_ hdb)
  refine PySem.W.callWith_K (h₀ := X.base) I.ok.mod.kin hk (thn (ha.run pos pins s σ H _ I h) fun us s1 ⟨vs, H1, I1, r, q⟩ => ⟨I1.kIn, ?_⟩) he hpl
  exact runG F hgd hr hb I1 r (by have q : sp (vs ++ []) H1 Q E0 := q; rwa [List.append_nil] at q)
theorem pe_callG0 (F : FnG X.prog X.w X.K X.mg X.base CX0 k f fd ps sp) (hgd : X.A.guards = some []) (hr : Room k X.A) (hg : Gl X x) (hm : X.mg x = some (.ref f)) (hk : PySem.W.keepIn X.K (.ref f) = true) (hb : Binds X.K fd ps [])
    (hdb : (x == ("__debug__" : Str)) = false := by decide) : PE X (.Call (.Name x q) [] [] pos) (tCall sp [] E0 tNil) := by
  refine ⟨fun pins s σ H Q I h => ?_⟩
  refine wpAny_Call_Name_kw (ld_glob I hg hm ?_ hdb)
  exact PySem.W.callWith_K0 I.kIn hk (runG (us := []) F hgd hr hb I .nil h)
/-! ### repr of data -/
/-- small data: what it shows fits -/
structure Fits (d : PyData) : Prop where
  sh : d.showable = true
  nd : d.hasDict = false
  dp : d.depth ≤ 60
  sz : d.shown.length ≤ sizeLine
def rRepr (K : PySem.W.Frag) : List V → Hp → VK → Prop := fun xs H Q => ∃ v d, xs = [v] ∧ Dp K H v d ∧ Fits d ∧ Q (.str d.shown) H
theorem call_reprD (hgd : X.A.guards = some []) (hu : X.A.units + 64 < cLine) : CallR X (.builtin "repr") (rRepr X.K) := by
  intro pins s σ H xs us Q I r h
  obtain ⟨v, d, rfl, hd, ⟨sh, nd, dp, sz⟩, q⟩ := h
  obtain ⟨u, rfl, ru⟩ := vals1 r
  have fin : ∀ h' u tk, (∀ b o, s.heap.get? b = some o → h'.get? b = some o) → EP X pins σ Q (.str d.shown u) { s with heap := h', toks := tk } := fun h' u tk k => ⟨.str d.shown, H, I.kept k, ⟨u, rfl⟩, q⟩
  cases hd with
  | non =>
    cases ru
    rw [PyData.shown_none] at fin
    exact PySem.P.repr_of_none (fin s.heap _ _ fun _ _ e => e)
  | bl b =>
    cases ru
    rw [PyData.shown_bool] at fin
    exact PySem.P.repr_of_bool (fin s.heap _ _ fun _ _ e => e)
  | int i =>
    obtain ⟨t, rfl⟩ := ru
    rw [PyData.shown_int] at fin
    refine PySem.P.repr_of_int ?_ (fin s.heap _ _ fun _ _ e => e)
    simpa [PyData.showable] using sh
  | str z =>
    obtain ⟨t, rfl⟩ := ru
    rw [PyData.shown_str] at fin sz
    exact PySem.P.repr_of_str (fin s.heap _ _ fun _ _ e => e) sz
  | @lst a xs ds ha hds =>
    cases ru
    obtain ⟨as, rd⟩ := Dp.reads I (.list ds) (.ref a) (.ref a) (.lst ha hds) rfl
    exact repr_of_reads' rd sh (fun z => by rw [nd] at z; cases z) hgd (by omega) (fun _ _ e => e) fin sz
  | @tup a xs ds ha hds =>
    cases ru
    obtain ⟨as, rd⟩ := Dp.reads I (.tuple ds) (.ref a) (.ref a) (.tup ha hds) rfl
    exact repr_of_reads' rd sh (fun z => by rw [nd] at z; cases z) hgd (by omega) (fun _ _ e => e) fin sz
theorem room65 {k : Nat} {A : Around} (r : Room k A) : A.units + 65 < cLine := by have := r.un; omega
theorem room64 {k : Nat} {A : Around} (r : Room k A) : A.units + 64 < cLine := by have := r.un; omega
end
section
variable {K : PySem.W.Frag} {H : Hp} {Q : VK}
theorem go_repr {v : V} {d : PyData} (hd : Dp K H v d) (f : Fits d) (h : Q (.str d.shown) H) : rRepr K [v] H Q := ⟨v, d, rfl, hd, f, h⟩
end
/-! ### the end of a law whose def is an FnG -/
section
variable {P : Program} {w : World} {K : PySem.W.Frag} {mg mb : Str → Option Value} {k : Nat} {fa a : Addr} {fd : FuncData} {x : Str} {sp : Sp} {s₁ : Shared} {vs : List Value} {ns : List Int}
/-- at most the script's object is known, and it is locked -/
def Lone (H : Hp) (a : Addr) : Prop := ∀ b u, H b = some u → b = a ∧ ∃ o ys, u = .frz o (.lst ys)
theorem lone_call {H : Hp} (KX : K.In s₁.heap) (hns : s₁.heap.Ns mainGlobals mg) (hb : s₁.heap.Ns builtinsNs mb) (hbb : ∀ y : Str, y ≠ "__name__" → mb y = bootBuiltins y) (hlim : s₁.heap.NoLimit) (hg : s₁.gens = #[])
    (ha : s₁.heap.get? a = some { cls := .type "list", data := .seq vs.toArray }) (hr : Room k callerA) (F : ∀ base : Heap, K.In base → base.Ns mainGlobals mg → FnG P w K mg base CX0 k fa fd [x] sp) (hbind : ∀ (s : Shared) (u : Value), BindsTo s fd ⟨[u], []⟩ [(x, u)])
    (L : Lone H a) (hok : HOk P w H s₁.heap) (nk : H a ≠ none → K.lookup a = none) (hsp : sp [.ref a] H (fun v _ => v = .bl true) E0) :
    codeAny (model P w) callerA (.call (.ref fa) ⟨[.ref a], []⟩) (fun r s' => r = .ok (.ret (.bool true)) ∧ OldK s₁.heap s'.heap ∧ s'.os = s₁.os ∧ AllBare s'.gens) s₁ := by
  -- what is not the script's object is not tracked
  have un : ∀ {b : Addr}, b ≠ a → H b = none := fun {b} n => by
    cases e : H b with
    | none => rfl
    | some u => exact (n (L b u e).1).elim
  have dict_un : ∀ {b : Addr} {o : Obj} {es : Array DictEntry} {ep : Nat}, s₁.heap.get? b = some o → o.data = .dict es ep → H b = none := fun {b o es ep} e d => by
    refine un fun z => ?_
    rw [z, ha] at e
    injection e with e
    rw [← e] at d
    cases d
  have ns_keep : ∀ {b : Addr} {m : Str → Option Value}, s₁.heap.Ns b m → (hidT s₁.heap H).Ns b m := fun {b m} h => by
    obtain ⟨o, es, ep, e, d, r⟩ := h
    exact ⟨o, es, ep, hidT_get e (dict_un e d), d, r⟩
  have k_in : K.In (hidT s₁.heap H) := fun b o e => hidT_get (KX b o e) <| by
    by_cases z : b = a
    · cases q : H b with
      | none => rfl
      | some u =>
        have := nk (by rw [← z, q]; exact Option.some_ne_none u)
        rw [← z, e] at this
        cases this
    · exact un z
  have env : Env0 P w K mg (hidT s₁.heap H) callerA [] s₁ H := by
    obtain ⟨mc, c1, c2⟩ := hlim
    exact { frames := rfl, mod := ⟨k_in, ns_keep hns, ⟨mb, ns_keep hb, hbb⟩, mc, ns_keep c1, c2⟩, bs := fun _ _ e => of_hidT e, bsz := Nat.le_of_eq (hidT_size _ _), funs := trivial, frf := fun _ z => (nomatch (show _ ∈ ([] : List Addr) from z)), hok := hok, bare := .of_eq hg }
  have go := (F _ k_in (ns_keep hns)).run callerA [] s₁ H ⟨[.ref a], []⟩ [.ref a] [.ref a] (fun v _ => v = .bl true) E0 rfl hr env (hbind s₁ (.ref a)) (.cons rfl .nil) hsp
  refine codeAny_mono go fun r s' hq => ?_
  rcases r with e | fl
  · exact False.elim hq
  cases fl with
  | next => exact False.elim hq
  | brk => exact False.elim hq
  | cont => exact False.elim hq
  | ret u =>
    obtain ⟨v, H', os, bare, u2, hok', rv, ev⟩ := hq
    have ev : v = .bl true := ev
    rw [ev] at rv
    cases rv
    refine ⟨rfl, OldK.of_keep fun b o e => ?_, os, bare⟩
    cases q : H b with
    | none => exact u2.keep b o e q (fun z => nomatch (show b ∈ ([] : List Addr) from z)) (fun z => nomatch (show b ∈ ([] : List Addr) from z))
    | some v2 =>
      obtain ⟨_, ob, ys, ez⟩ := L b v2 q
      rw [ez] at q
      have o1 := (hok b _ q).1
      have o2 := (hok' b _ (u2.frzs b ob _ q)).1
      rw [e] at o1
      injection o1 with o1
      rw [o1]; exact o2
theorem law_callG (KX : K.In s₁.heap) (hns : s₁.heap.Ns mainGlobals mg) (hb : s₁.heap.Ns builtinsNs mb) (hbb : ∀ y : Str, y ≠ "__name__" → mb y = bootBuiltins y) (hlim : s₁.heap.NoLimit) (hg : s₁.gens = #[])
    (ha : s₁.heap.get? a = some { cls := .type "list", data := .seq vs.toArray }) (hi : IntsAre vs ns) (hl : ns.length ≤ sizeLine) (hr : Room k callerA) (F : ∀ base : Heap, K.In base → base.Ns mainGlobals mg → FnG P w K mg base CX0 k fa fd [x] sp) (hbind : ∀ (s : Shared) (u : Value), BindsTo s fd ⟨[u], []⟩ [(x, u)])
    (hsp : ∀ H : Hp, SqL K H a (ns.map V.int) → sp [.ref a] H (fun v _ => v = .bl true) E0) :
    codeAny (model P w) callerA (.call (.ref fa) ⟨[.ref a], []⟩) (fun r s' => r = .ok (.ret (.bool true)) ∧ OldK s₁.heap s'.heap ∧ s'.os = s₁.os ∧ AllBare s'.gens) s₁ := by
  have rv := vals_ints hi
  have len : vs.length = ns.length := hi.length
  cases hk : K.lookup a with
  | some o =>
    have e := KX a o hk
    rw [ha] at e
    injection e with e
    subst e
    exact lone_call (H := fun _ => none) KX hns hb hbb hlim hg ha hr F hbind (fun b u z => nomatch z) (fun b u z => nomatch z) (fun z => (z rfl).elim) (hsp _ (.inr ⟨_, vs.toArray, _, hk, rfl, rfl, rfl, by rw [List.size_toArray, len]; exact hl, by simpa using rv⟩))
  | none =>
    generalize ho : ({ cls := .type "list", data := .seq vs.toArray } : Obj) = ob at ha
    generalize hH : (fun b => if b = a then some (HO.frz ob (.lst (ns.map V.int))) else none : Hp) = H
    have at_a : H a = some (.frz ob (.lst (ns.map V.int))) := by rw [← hH]; exact if_pos rfl
    have only : ∀ b u, H b = some u → b = a ∧ u = .frz ob (.lst (ns.map V.int)) := fun b u e => by
      rw [← hH] at e
      by_cases z : b = a
      · have e : (if b = a then some (HO.frz ob (.lst (ns.map V.int))) else none) = some u := e
        rw [if_pos z] at e
        exact ⟨z, (Option.some.inj e).symm⟩
      · have e : (if b = a then some (HO.frz ob (.lst (ns.map V.int))) else none) = some u := e
        rw [if_neg z] at e
        cases e
    refine lone_call (H := H) KX hns hb hbb hlim hg (by rw [ha, ho]) hr F hbind (fun b u e => ⟨(only b u e).1, ob, _, (only b u e).2⟩) (fun b u e => ?_) (fun _ => hk) (hsp H (.inl (.inr ⟨ob, at_a⟩)))
    obtain ⟨z, eu⟩ := only b u e
    rw [z, eu]
    exact ⟨ha, by rw [List.length_map]; exact hl, vs, 0, rv, by rw [ha, ← ho]⟩
end
theorem walk_ofG {l : PySem.W.OpenLaw} {n k : Nat} {q : Program} {loose : List Str} {XP : (Str → Option Value) → Heap → Prop} {YP : World → Heap → Prop} {d : DefRec} {K : Params → PySem.W.Frag} {sp : World → Sp} {x : Str}
    (hn : l.most = some n) (hn2 : n ≤ sizeLine) (hdf : d.params.defaults = []) (hr : Room k callerA) (hY : ∀ (w : World) (h : Heap), YP w h → (K w.params).In h)
    (F : ∀ (w : World) (mg : Str → Option Value) (fa : Addr) (h : Heap), (K w.params).In h → h.Ns mainGlobals mg → mg d.name = some (.ref fa) →
      ∃ fd : FuncData, (∀ (s : Shared) (u : Value), BindsTo s fd ⟨[u], []⟩ [(x, u)]) ∧ ∀ base : Heap, (K w.params).In base → base.Ns mainGlobals mg → FnG l.prog w (K w.params) mg base CX0 k fa fd [x] (sp w))
    (hsp : ∀ (w : World) (H : Hp) (a : Addr) (ns : List Int), ns.length ≤ n → SqL (K w.params) H a (ns.map V.int) → sp w [.ref a] H (fun v _ => v = .bl true) E0) :
    PySem.W.WalkO q loose XP YP l.row.toRowW d [] (fun f vs => PySem.call f vs) := by
  refine Att.attach_call hn hdf fun w s₀ s₁ mg mb fa o pm cd doc a vs ns G Y ho hd hcd hmg hobj hints hlen hg => ?_
  obtain ⟨fd, hb, hF⟩ := F w mg fa _ (hY w _ Y) G.T.g hmg
  exact law_callG (hY w _ Y) G.T.g G.T.b G.T.builtins G.T.nolimit hg hobj hints (Nat.le_trans hlen hn2) hr hF hb fun H hS => hsp w H a ns hlen hS
end Vc

/-! Xu: super().__init__(..) in a class that is no exception (my own; ways of Sup, HandS.Star and HandS.MethStar). -/
namespace Vc
open PySem PySem.Spec PyProof.Rows L2 PySem.W
/-- what super() asks for in a def of the class at C -/
structure SupQ (P : Program) (K : PySem.W.Frag) (mg : Str → Option Value) (f cda cc C g : Addr) (fd : FuncData) (sv : Str) : Prop where
  lk : ∃ oc od sl, K.lookup f = some ⟨oc, od, .func fd, sl⟩
  par : ∃ ar : Arg, (fd.params.posonlyargs ++ fd.params.args).head? = some ar ∧ ar.arg = sv
  code : ∃ ccl cdd vs ccs file tf, K.lookup cda = some ⟨ccl, cdd, .fields vs, ccs⟩ ∧ vs[2]? = some (.str file tf) ∧ ((P.main.file : Str) == file) = true
  cell : ∃ cl cld csl, K.lookup cc = some ⟨cl, cld, .cell (some (.ref C)), csl⟩
  sub : mroIn K C (.ref C) = some true
  init : ks_superIn K C C "__init__" = some (some (.ref g))
  fn : PySem.W.isFn K (.ref g) = true
  fi : PySem.W.fnIn K g = true
  nosup : mg "super" = none
  noop : nsIn K cStatics "thirdparty.any" = some none
  top : (P.main.scope.names.lookup ("super" : Str)).isSome = false
section
variable {prog : Program} {w : World} {A : Around} {E : Value → Shared → Prop} {h : Heap} {g : Array GenState} {d : Drawn} {t : Nat} {os : OsState}
/-- super().m as a value -/
theorem getAttr_super {so D x C f : Addr} {of : Obj} {l₀ l : List Value} {K : Frag} {name : Str} {Q : Value → Shared → Prop}
    (hso : h.get? so = some { cls := .type "super", dict := none, data := .fields #[.ref D, .ref x, .ref C], slots := #[] }) (hno : Looks (model prog w) h (opaqueClassAbove (.ref C)) none)
    (hC : Looks (model prog w) h (mroOf (.ref C)) l₀) (hl : (l₀.dropWhile (· != .ref D)).drop 1 = l) (X : K.In h)
    (hf : alongIn K name l = some (some (.ref f))) (hfo : h.get? f = some of) (hfc : of.cls = .type "function") (hxC : x ≠ C) (hn : (name == ("__class__" : Str)) = false)
    (hq : Q (.ref h.objs.size) ⟨h.push { cls := .type "method", data := .fields #[.ref f, .ref x] }, g, d, t + 1, os⟩) :
    wpAny (model prog w) A (getAttr (.ref so) name true) Q E ⟨h, g, d, t, os⟩ := by
  have hlk := F.ks_slot_super_ga.lookup
  have hcan := F.ks_canon_super_ga
  have hT : ∀ t', (⟨h, g, d, t', os⟩ : Shared).TypeIs (.ref so) "super" := fun _ => ⟨_, hso, rfl⟩
  unfold getAttr getAttrBy
  refine wpAny_bind (wpAny_mkText (wpAny_holding (wpAny_bind (wpAny_typeOf (hT _) (wpAny_bind (wpAny_of_eq hlk ?_))))))
  show wpAny _ _ (getAttrByItsOwn (.ref so) (.str name t) (.type "super") (.builtin "super.__getattribute__") true true) _ _ _
  unfold getAttrByItsOwn hookBefore callGetattribute boundAndCalled
  refine wpAny_bind (wpAny_of_eq (show (if onTheHeap (.type "super") then typeLookup (.type "super") "__getattr__" else pure none) = pure none from rfl) ?_)
  refine wpAny_bind (wpAny_attempt (wpAny_holding ?_))
  show wpAny _ _ (bindSpecial (.builtin "super.__getattribute__") (.ref so) >>= _) _ _ _
  refine wpAny_bind (wpAny_of_eq (F.ks_slot_super_ga.bind _) ?_)
  refine wpAny_mono (Q := fun v s' => v = .ref h.objs.size ∧ s' = ⟨h.push { cls := .type "method", data := .fields #[.ref f, .ref x] }, g, d, t + 1, os⟩) (E := fun _ _ => False)
    (wpAny_call_entry F.ks_slot_super_ga (hT _) F.ks_entry_super_ga (ks_wpAny_super_ga hso hno hC hl X hf hfo hfc hxC hn ⟨_, rfl, rfl, rfl⟩) (F.ks_gaArgs_super _ _)) (fun v s' hv => ?_) fun _ _ z => z.elim
  obtain ⟨rfl, rfl⟩ := hv
  exact wpAny_pure hq
end
/-- statements told where the def's own body is known -/
structure PSA (X : Cx) (body ss : List Stmt) (t : TS) : Prop where
  run : ∀ (pins : List (Addr × Obj)) (s : Shared) (σ : L2.St) (H : Hp) (D : Ends), Inv X pins σ H s → t D σ H → _root_.PySem.wpAt (model X.prog X.w) X.A (.func body X.env) (execs ss X.env) (SP X pins D) X.xe s
theorem psa_of {X : Cx} {body ss : List Stmt} {t : TS} (h : PSs X ss t) : PSA X body ss t := ⟨fun pins s σ H D I q => wpAt_of_wpAny (h.run pins s σ H D I q)⟩
theorem psa_cons {X : Cx} {body rest : List Stmt} {st : Stmt} {t u : TS} (h1 : PS X st t) (h2 : PSA X body rest u) : PSA X body (st :: rest) (tSeq t u) := by
  refine ⟨fun pins s σ H D I h => ?_⟩
  refine ks_wpAt_execs_cons (wpAt_of_wpAny (thn (h1.run pins s σ H { D with nx := u D } I h) fun f s1 q => ?_))
  cases f with
  | next =>
    obtain ⟨σ', H', I', q⟩ := q
    exact h2.run pins s1 σ' H' D I' q
  | ret v => exact q
  | brk => exact q
  | cont => exact q
/-- super().__init__(..); the rest -/
def tSup (C g : Addr) (sp : Sp) (E : XK) (t : TA) (u : TS) : TS := fun D σ H => ∃ (a dx : Addr) (fs : List (Str × V)), σ[0]? = some (some (.ref a)) ∧ H a = some (.ins C dx fs) ∧
  ∀ q, H q = none → t σ (upd H q (.met g a)) fun vs H1 => H1 q = some (.met g a) ∧ sp (.ref a :: vs) H1 (fun _ H2 => u D σ H2) E
section
variable {cm : Bool} {CX CXg : CXT} {P : Program} {w : World} {K : PySem.W.Frag} {mg : Str → Option Value} {base : Heap} {N ps : List Str} {qual : Str} {scope : Scope} {f cc cda C g : Addr} {A : Around} {outer : List Env} {s0 : Shared} {H0 : Hp} {E0' : XK} {fd : FuncData} {sv : Str} {body rest : List Stmt} {p0 p1 ap cp pos spos : Pos} {pl : Sem Bool} {k : Nat} {sp : Sp} {E : XK} {e1 : Expr} {es1 : List Expr} {t : TA} {u : TS}
theorem psa_super (S : SupScope N ps scope) (SF : SupQ P K mg f cda cc C g fd sv) (F : FnR P w K mg base CXg k g sp) (hr : Room k (A.deeper (ksEnv qual scope s0.heap.objs.size f (.ref cda) cc)))
    (hx : Passes CXg (cxS cm CX P w K mg base N qual scope f (.ref cda) cc A outer s0 H0 E0') E) (hN : N[0]? = some sv) (hself : scope.names.lookup sv = some .local)
    (ha : PA (cxS cm CX P w K mg base N qual scope f (.ref cda) cc A outer s0 H0 E0') (e1 :: es1) t) (h2 : PSA (cxS cm CX P w K mg base N qual scope f (.ref cda) cc A outer s0 H0 E0') body rest u)
    (he : starEach (e1 :: es1) (ksEnv qual scope s0.heap.objs.size f (.ref cda) cc) = (false, eval e1 (ksEnv qual scope s0.heap.objs.size f (.ref cda) cc)) :: starEach es1 (ksEnv qual scope s0.heap.objs.size f (.ref cda) cc))
    (star : (backTo pos (starEach (e1 :: es1) (ksEnv qual scope s0.heap.objs.size f (.ref cda) cc))).any (·.1) = false)
    (hi : interactive (ksEnv qual scope s0.heap.objs.size f (.ref cda) cc) = false)
    (hs : swapsWith (.Call (.Attribute (.Call (.Name "super" p0) [] [] p1) "__init__" ap) (e1 :: es1) [] pos) none spos.line (ksEnv qual scope s0.heap.objs.size f (.ref cda) cc) = pure false)
    (ht : eval (.Call (.Attribute (.Call (.Name "super" p0) [] [] p1) "__init__" ap) (e1 :: es1) [] pos) (ksEnv qual scope s0.heap.objs.size f (.ref cda) cc) = (do
      let ov ← attributeBase (.Call (.Name "super" p0) [] [] p1) "__init__" (ksEnv qual scope s0.heap.objs.size f (.ref cda) cc) (eval (.Call (.Name "super" p0) [] [] p1) (ksEnv qual scope s0.heap.objs.size f (.ref cda) cc))
      standAt ap.atName
      let (fm, first) ← holding [ov] (getMethod ov "__init__" pl)
      callWith pos fm first (backTo pos (starEach (e1 :: es1) (ksEnv qual scope s0.heap.objs.size f (.ref cda) cc))) [])) :
    PSA (cxS cm CX P w K mg base N qual scope f (.ref cda) cc A outer s0 H0 E0') body (.Expr (.Call (.Attribute (.Call (.Name "super" p0) [] [] p1) "__init__" ap) (e1 :: es1) [] pos) spos :: rest) (tSup C g sp E t u) := by
  refine ⟨fun pins s σ H D I hh => ?_⟩
  obtain ⟨a, dx, fs, hσ, ea, hh⟩ := hh
  obtain ⟨_, _, _, lkf⟩ := SF.lk
  obtain ⟨ar, hp, rfl⟩ := SF.par
  obtain ⟨_, _, vs, _, file, tf, lkc, hvs, hfile⟩ := SF.code
  obtain ⟨_, _, _, lkl⟩ := SF.cell
  have KX : K.In s.heap := I.kIn
  refine ks_wpAt_execs_cons (ks_wpAt_Expr_any ?_ hi hs)
  refine ks_wpAt_MethodCall (pl := pl) ?_ ht
  refine ks_wpAt_super_base (env := ksEnv qual scope s0.heap.objs.size f (.ref cda) cc) S.sup S.cls (by decide) rfl (KX _ _ lkf) rfl hp rfl (KX _ _ lkc) rfl hvs hfile SF.top ?_
  obtain ⟨mb, hb1, hb2⟩ := I.mod.blt
  have hboot : bootBuiltins "super" = some (.type "super") := by decide +kernel
  refine ks_loadName_global S.kind S.sup (Calls.loadGlobal_builtin (I.mod.glob.keeps I.bk) SF.nosup (hb1.keeps I.bk) ((hb2 "super" (by decide)).trans hboot) ⟨rfl, ?_⟩)
  refine wpAny_loadName_free S.kind S.cls (c := cc) (by simp [List.lookup]) ⟨_, KX _ _ lkl, rfl⟩ ?_
  obtain ⟨m, ns, hm⟩ := id I.loc
  obtain ⟨v0, ru, lu⟩ := hm 0 _ _ hN hσ (.inl hself)
  obtain rfl : v0 = Value.ref a := ru
  have hma : m ar.arg = some (.ref a) := by
    rcases lu with ⟨_, e⟩ | ⟨k | k, _⟩
    · exact e
    · have k : scope.names.lookup ar.arg = some .cell := k
      rw [hself] at k; cases k
    · have k : scope.names.lookup ar.arg = some .free := k
      rw [hself] at k; cases k
  refine wpAny_loadName_local S.kind hself ns hma ?_
  obtain ⟨mA, J0, _⟩ := ins_get I.hok ea
  obtain ⟨od, J, _⟩ := J0.look
  have hsi := SF.init
  unfold ks_superIn at hsi
  cases hcl : clsIn K C with
  | none => rw [hcl] at hsi; cases hsi
  | some cd =>
    rw [hcl, Option.bind_some] at hsi
    obtain ⟨oC, hC1, hC2⟩ : ∃ oC, s.heap.get? C = some oC ∧ oC.data = .cls cd := by
      have hcl2 := hcl
      unfold clsIn at hcl2
      split at hcl2
      · rename_i c d cd' sl ho
        cases hcl2
        exact ⟨_, KX _ _ ho, rfl⟩
      · cases hcl2
    obtain ⟨of, hof, hofc⟩ : ∃ of, K.lookup g = some of ∧ of.cls = .type "function" := by
      have ht' : typeIn K (.ref g) = some (.type "function") := beq_iff_eq.mp SF.fn
      have ht' : (K.lookup g).map (·.cls) = some (.type "function") := ht'
      cases z : K.lookup g with
      | none => rw [z] at ht'; cases ht'
      | some of => rw [z] at ht'; exact ⟨of, rfl, Option.some.inj ht'⟩
    refine ks_wpAny_isType_cls hC1 hC2 ⟨rfl, ?_⟩
    obtain ⟨hh0, gg, d, tt, os⟩ := s
    refine ks_wpAny_call_super hC1 hC2 J.at_ J.cls (fun c z => ?_) (looks_mroIn KX SF.sub) fun h' hso hk => ?_
    · have := J.no
      unfold notCls at this
      rw [z] at this
      exact Bool.noConfusion this
    have KX' : K.In h' := KX.keeps hk
    have Jk := J
    refine ks_wpAny_getMethod_super hso (looks_opaque KX' SF.noop) (l₀ := cd.mro) ?_ rfl KX' hsi (KX' _ _ hof) hofc (ks_ne KX J hcl) (by decide) ?_
    · exact fun A Q E s k q => wpAny_bind ((looks_clsIn KX' hcl) A _ E s k (wpAny_pure q))
    have hk2 : ∀ b o, hh0.get? b = some o → (h'.push (methodObj (.ref g) (.ref a))).get? b = some o := fun b o z => Heap.get?_push_of_some _ (hk b o z)
    have hsz : hh0.objs.size ≤ h'.objs.size := Nat.le_of_lt (Nat.lt_of_le_of_lt (Nat.le_refl _) (Heap.lt_size hso))
    have I2 := I.laid (t' := tt + 1) (a := h'.objs.size) (o := .met g a) hk2 hsz (show (h'.push (methodObj (.ref g) (.ref a))).get? h'.objs.size = some (methodObj (.ref g) (.ref a)) from Heap.get?_push_at rfl rfl)
    have hq := hh h'.objs.size (I.hok.fresh hsz)
    have hev := ha.run pos pins _ σ _ _ I2 hq
    rw [show starEach (e1 :: es1) (cxS cm CX P w K mg base N qual scope f (.ref cda) cc A outer s0 H0 E0').env = _ from he] at hev
    rw [he] at star
    first | rw [he] | rw [show starEach (e1 :: es1) (cxS cm CX P w K mg base N qual scope f (.ref cda) cc A outer s0 H0 E0').env = _ from he]
    refine callwith_met (g := g) (a := a) (q := h'.objs.size) (Bool.or_eq_false_iff.mpr ⟨star, rfl⟩) SF.fi (Calls.evalArgs_plain (thn hev fun us s1 ⟨vs', H1, I1, r, hm1, hsp⟩ => ⟨met_P I1 hm1, ?_⟩))
    refine thn (Q := EP (cxS cm CX P w K mg base N qual scope f (.ref cda) cc A outer s0 H0 E0') pins σ fun _ H2 => u D σ H2) ?_ fun v s' ⟨v', H', J', rv, q⟩ => h2.run pins s' σ H' D J' q
    exact wpAny_call (method_call (met_P I1 hm1).1 (run_fnR (us := Value.ref a :: us) (vs := V.ref a :: vs') F hr hx I1 (.cons rfl r) hsp))
/-- super().__init__(.., *v); the rest -/
theorem psa_superS (S : SupScope N ps scope) (SF : SupQ P K mg f cda cc C g fd sv) (F : FnR P w K mg base CXg k g sp) (hr : Room k (A.deeper (ksEnv qual scope s0.heap.objs.size f (.ref cda) cc)))
    (hx : Passes CXg (cxS cm CX P w K mg base N qual scope f (.ref cda) cc A outer s0 H0 E0') E) (hN : N[0]? = some sv) (hself : scope.names.lookup sv = some .local)
    (ha : PA (cxS cm CX P w K mg base N qual scope f (.ref cda) cc A outer s0 H0 E0') (e1 :: es1) t) (h2 : PSA (cxS cm CX P w K mg base N qual scope f (.ref cda) cc A outer s0 H0 E0') body rest u)
    (he : starEach (e1 :: es1) (ksEnv qual scope s0.heap.objs.size f (.ref cda) cc) = (false, eval e1 (ksEnv qual scope s0.heap.objs.size f (.ref cda) cc)) :: starEach es1 (ksEnv qual scope s0.heap.objs.size f (.ref cda) cc))
    (star : (backTo pos (starEach (e1 :: es1) (ksEnv qual scope s0.heap.objs.size f (.ref cda) cc))).any (·.1) = true)
    (hi : interactive (ksEnv qual scope s0.heap.objs.size f (.ref cda) cc) = false)
    (hs : swapsWith (.Call (.Attribute (.Call (.Name "super" p0) [] [] p1) "__init__" ap) (e1 :: es1) [] pos) none spos.line (ksEnv qual scope s0.heap.objs.size f (.ref cda) cc) = pure false)
    (hform : methodCallForm ((e1 :: es1).length + ([] : List Keyword).length) (backTo pos (starEach (e1 :: es1) (ksEnv qual scope s0.heap.objs.size f (.ref cda) cc))) [] = false) :
    PSA (cxS cm CX P w K mg base N qual scope f (.ref cda) cc A outer s0 H0 E0') body (.Expr (.Call (.Attribute (.Call (.Name "super" p0) [] [] p1) "__init__" ap) (e1 :: es1) [] pos) spos :: rest) (tSup C g sp E t u) := by
  refine ⟨fun pins s σ H D I hh => ?_⟩
  obtain ⟨a, dx, fs, hσ, ea, hh⟩ := hh
  obtain ⟨_, _, _, lkf⟩ := SF.lk
  obtain ⟨ar, hp, rfl⟩ := SF.par
  obtain ⟨_, _, vs, _, file, tf, lkc, hvs, hfile⟩ := SF.code
  obtain ⟨_, _, _, lkl⟩ := SF.cell
  have KX : K.In s.heap := I.kIn
  refine ks_wpAt_execs_cons (ks_wpAt_Expr_any ?_ hi hs)
  have hke : backToKw pos (keywordEach [] (ksEnv qual scope s0.heap.objs.size f (.ref cda) cc)) = [] := rfl
  have hcal : ∀ ov, calleeOf false (.Call (.Name "super" p0) [] [] p1) (ksEnv qual scope s0.heap.objs.size f (.ref cda) cc) ov "__init__" = (getAttr ov "__init__" true >>= fun v => pure (v, [])) := fun _ => rfl
  have hpos : methodCallPos false (.Call (.Name "super" p0) [] [] p1) (ksEnv qual scope s0.heap.objs.size f (.ref cda) cc) ap pos = pure pos := rfl
  show _root_.PySem.wpAt _ _ _ (eval _ (ksEnv qual scope s0.heap.objs.size f (.ref cda) cc)) _ _ _
  rw [arm_eval_Call, hke]
  refine _root_.PySem.wpAt_bind ?_
  refine ks_wpAt_super_base (env := ksEnv qual scope s0.heap.objs.size f (.ref cda) cc) S.sup S.cls (by decide) rfl (KX _ _ lkf) rfl hp rfl (KX _ _ lkc) rfl hvs hfile SF.top ?_
  obtain ⟨mb, hb1, hb2⟩ := I.mod.blt
  have hboot : bootBuiltins "super" = some (.type "super") := by decide +kernel
  refine ks_loadName_global S.kind S.sup (Calls.loadGlobal_builtin (I.mod.glob.keeps I.bk) SF.nosup (hb1.keeps I.bk) ((hb2 "super" (by decide)).trans hboot) ⟨rfl, ?_⟩)
  refine wpAny_loadName_free S.kind S.cls (c := cc) (by simp [List.lookup]) ⟨_, KX _ _ lkl, rfl⟩ ?_
  obtain ⟨m, ns, hm⟩ := id I.loc
  obtain ⟨v0, ru, lu⟩ := hm 0 _ _ hN hσ (.inl hself)
  obtain rfl : v0 = Value.ref a := ru
  have hma : m ar.arg = some (.ref a) := by
    rcases lu with ⟨_, e⟩ | ⟨k | k, _⟩
    · exact e
    · have k : scope.names.lookup ar.arg = some .cell := k
      rw [hself] at k; cases k
    · have k : scope.names.lookup ar.arg = some .free := k
      rw [hself] at k; cases k
  refine wpAny_loadName_local S.kind hself ns hma ?_
  obtain ⟨mA, J0, _⟩ := ins_get I.hok ea
  obtain ⟨od, J, _⟩ := J0.look
  have hsi := SF.init
  unfold ks_superIn at hsi
  cases hcl : clsIn K C with
  | none => rw [hcl] at hsi; cases hsi
  | some cd =>
    rw [hcl, Option.bind_some] at hsi
    obtain ⟨oC, hC1, hC2⟩ : ∃ oC, s.heap.get? C = some oC ∧ oC.data = .cls cd := by
      have hcl2 := hcl
      unfold clsIn at hcl2
      split at hcl2
      · rename_i c d cd' sl ho
        cases hcl2
        exact ⟨_, KX _ _ ho, rfl⟩
      · cases hcl2
    obtain ⟨of, hof, hofc⟩ : ∃ of, K.lookup g = some of ∧ of.cls = .type "function" := by
      have ht' : typeIn K (.ref g) = some (.type "function") := beq_iff_eq.mp SF.fn
      have ht' : (K.lookup g).map (·.cls) = some (.type "function") := ht'
      cases z : K.lookup g with
      | none => rw [z] at ht'; cases ht'
      | some of => rw [z] at ht'; exact ⟨of, rfl, Option.some.inj ht'⟩
    refine ks_wpAny_isType_cls hC1 hC2 ⟨rfl, ?_⟩
    obtain ⟨hh0, gg, d, tt, os⟩ := s
    refine ks_wpAny_call_super hC1 hC2 J.at_ J.cls (fun c z => ?_) (looks_mroIn KX SF.sub) fun h' hso hk => ?_
    · have := J.no
      unfold notCls at this
      rw [z] at this
      exact Bool.noConfusion this
    have KX' : K.In h' := KX.keeps hk
    refine wpAt_of_wpAny (wpAny_bind (wpAny_standAt ?_))
    unfold methodCall
    rw [hform, hpos, hcal]
    refine wpAny_bind (wpAny_holding (wpAny_bind ?_))
    refine getAttr_super hso (looks_opaque KX' SF.noop) (l₀ := cd.mro) ?_ rfl KX' hsi (KX' _ _ hof) hofc (ks_ne KX J hcl) (by decide) ?_
    · exact fun A Q E s k q => wpAny_bind ((looks_clsIn KX' hcl) A _ E s k (wpAny_pure q))
    refine wpAny_pure (wpAny_bind (wpAny_pure ?_))
    have hk2 : ∀ b o, hh0.get? b = some o → (h'.push (methodObj (.ref g) (.ref a))).get? b = some o := fun b o z => Heap.get?_push_of_some _ (hk b o z)
    have hsz : hh0.objs.size ≤ h'.objs.size := Nat.le_of_lt (Nat.lt_of_le_of_lt (Nat.le_refl _) (Heap.lt_size hso))
    have I2 := I.laid (t' := tt + 1) (a := h'.objs.size) (o := .met g a) hk2 hsz (show (h'.push (methodObj (.ref g) (.ref a))).get? h'.objs.size = some (methodObj (.ref g) (.ref a)) from Heap.get?_push_at rfl rfl)
    have hq := hh h'.objs.size (I.hok.fresh hsz)
    have hev := ha.run pos pins _ σ _ _ I2 hq
    rw [show starEach (e1 :: es1) (cxS cm CX P w K mg base N qual scope f (.ref cda) cc A outer s0 H0 E0').env = _ from he] at hev
    rw [he] at star
    first | rw [he] | rw [show starEach (e1 :: es1) (cxS cm CX P w K mg base N qual scope f (.ref cda) cc A outer s0 H0 E0').env = _ from he]
    refine PySem.W.ks_call (P := PySem.W.MethP K h'.objs.size g (.ref a)) star (PySem.W.keeps_M SF.fi) (Calls.evalArgs_plain (thn hev fun us s1 ⟨vs', H1, I1, r, hm1, hsp⟩ => ⟨met_P I1 hm1, ?_⟩))
    refine thn (Q := EP (cxS cm CX P w K mg base N qual scope f (.ref cda) cc A outer s0 H0 E0') pins σ fun _ H2 => u D σ H2) ?_ fun v s' ⟨v', H', J', rv, q⟩ => h2.run pins s' σ H' D J' q
    exact wpAny_call (method_call (met_P I1 hm1).1 (run_fnR (us := Value.ref a :: us) (vs := V.ref a :: vs') F hr hx I1 (.cons rfl r) hsp))
end
/-- as Fun, for a def with the free cell __class__ at cc, in a class that is no exception -/
structure FunQ (P : Program) (K : PySem.W.Frag) (mg : Str → Option Value) (x qual : Str) (st : Stmt) (f : Addr) (fd : FuncData) (C g : Addr) (sv : Str) : Prop where
  ex : ∃ (oc : Value) (od : Option Addr) (kV doc pm : Value) (an : Option Addr) (cda cc : Addr) (ct : Value) (osl : Array (Option Value)),
    fd = ksFn x qual (defArgs st) (defBody st) (defScope st) .none kV doc pm an (.ref cda) ct cc ∧ K.lookup f = some ⟨oc, od, .func fd, osl⟩ ∧ PySem.W.codeIn K (.ref cda) qual = true ∧ SupQ P K mg f cda cc C g fd sv
  kp : PySem.W.keepIn K (.ref f) = true
section
variable {P : Program} {w : World} {K : PySem.W.Frag} {mg : Str → Option Value} {base : Heap} {CX : CXT} {x qual : Str} {st : Stmt} {f C g : Addr} {fd : FuncData} {sv : Str} {N ps : List Str} {k : Nat} {sp : Sp}
/-- what the body of such a def shows -/
abbrev BodyQ (P : Program) (w : World) (K : PySem.W.Frag) (mg : Str → Option Value) (base : Heap) (CX : CXT) (N : List Str) (qual : Str) (st : Stmt) (f C g : Addr) (fd : FuncData) (sv : Str) (k : Nat) (sp : Sp) : Prop := ∀ (cda cc : Addr) (A : Around) (outer : List Env) (s : Shared) (H : Hp) (vs : List V) (Q : VK) (E : XK),
  SupQ P K mg f cda cc C g fd sv → Room k (A.deeper (ksEnv qual (defScope st) s.heap.objs.size f (.ref cda) cc)) → sp vs H Q E →
    ∃ t, PSA (cxS true CX P w K mg base N qual (defScope st) f (.ref cda) cc A outer s H E) (defBody st) (defBody st) t ∧ t { nx := fun _ H' => Q .non H', rt := Q } (start N vs) H
theorem FunQ.run {A : Around} {outer : List Env} {s : Shared} {H : Hp} {args : Args} {Q : VK} {E : XK} {G : List V → Hp → Prop} (F : FunQ P K mg x qual st f fd C g sv) (S : SupScope N ps (defScope st)) (hr : Room (k + 1) A) (e0 : Env0 P w K mg base A outer s H) (hb : StX.Bnd CX P w K mg base fd args ps A outer s H E G)
    (hG : ∀ vs H2, G vs H2 → sp vs H2 Q E) (hbody : BodyQ P w K mg base CX N qual st f C g fd sv k sp) : codeAny (model P w) A (.call (.ref f) args) (CR CX outer P w H s Q E) s := by
  obtain ⟨oc, od, kV, doc, pm, an, cda, cc, ct, osl, rfl, lk, hcd, SF⟩ := F.ex
  obtain ⟨_, _, _, lkl⟩ := SF.cell
  have KX : K.In s.heap := e0.mod.kin.keeps fun b o e => (e0.bs b o e).1
  refine codeAny_call_function hr.depth (KX _ _ lk) rfl S.co S.gen rfl (PySem.W.codeRec_of KX hcd) ?_
  refine hb _ _ _ fun s2 H2 vs us e2 un ho hx r hl gg => ?_
  have lim : s2.heap.NoLimit := e0.mod.nolimit.keeps fun b o e => (e2.bs b o e).1
  refine wpAny_newFunctionEnv S.nocell (fun y hy => S.par y.1 (List.of_mem_zip (show (y.1, y.2) ∈ _ from hy)).1) (fun h₀ hns hsb => ⟨lim.fresh _ hsb, ks_codeAny_funcAt ?_⟩) S.kind
  have hk : ∀ b o, s2.heap.get? b = some o → h₀.get? b = some o := fun b o e => hsb.extBut b o (Nat.ne_of_lt (Heap.lt_size e)) (Heap.get?_push_of_some _ e)
  obtain ⟨t, ht, hq⟩ := hbody cda cc A outer s2 H2 vs Q E SF (hr.deeper _) (hG _ _ gg)
  have I : Inv (cxS true CX P w K mg base N qual (defScope st) f (.ref cda) cc A outer s2 H2 E) [] (start N vs) H2 { s2 with heap := h₀, toks := s2.toks + (ps.zip us).length } := inv_sup S (fun _ => hr.hd) e2 hl r lkl hns hk
  refine ks_wpAt_mono (ht.run [] _ _ _ _ I hq) (fun fl s' hs => ?_) fun e s' hs => ?_
  · have fin : ∀ {σ' : L2.St} {H' : Hp} {v' : V} {u' : Value}, Inv (cxS true CX P w K mg base N qual (defScope st) f (.ref cda) cc A outer s2 H2 E) [] σ' H' s' → RelV v' u' → Q v' H' → CE outer P w H s Q u' s' :=
      fun {σ' H' v' u'} J rv' q => ⟨v', H', J.os.trans ho, J.bare, un.trans J.base, J.hok, rv', q⟩
    cases fl with
    | ret u' =>
      obtain ⟨v', σ', H', J, rv', q⟩ := hs
      exact fin J rv' q
    | next =>
      obtain ⟨σ', H', J, q⟩ := hs
      exact fin (v' := V.non) (u' := Value.none) J rfl q
    | brk =>
      obtain ⟨_, _, _, q⟩ := hs
      exact False.elim q
    | cont =>
      obtain ⟨_, _, _, q⟩ := hs
      exact False.elim q
  · exact wpAny_mono hs (fun _ s'' z => hx e s'' z) fun e' s'' z => hx e' s'' z
theorem FunQ.ok (F : FunQ P K mg x qual st f fd C g sv) (S : SupScope N ps (defScope st)) (len : ∀ vs H Q E, sp vs H Q E → vs.length = ps.length) (hbody : BodyQ P w K mg base CX N qual st f C g fd sv k sp) : FnOk P w K mg base CX (k + 1) f fd ps sp :=
  ⟨len, fun A outer s H args us vs Q E hr e0 hb r hsp => F.run S hr e0 (G := fun xs H2 => xs = vs ∧ H2 = H) (fun A' Ex Q' h => hb _ _ _ _ (h s H vs us e0 Un.refl rfl (fun _ _ z => z) r (len _ _ _ _ hsp) ⟨rfl, rfl⟩)) (fun _ _ ⟨e1, e2⟩ => by subst e1 e2; exact hsp) hbody⟩
theorem FunQ.okV {pv : Str} (F : FunQ P K mg x qual st f fd C g sv) (B : BindV fd ps pv) (S : SupScope N (ps ++ [pv]) (defScope st)) (hbody : BodyQ P w K mg base (L2.CX P w) N qual st f C g fd sv k sp) : FnR P w K mg base (L2.CX P w) (k + 1) f (spV ps.length sp) := by
  intro A outer s H us vs Q E hr e0 r hsp
  obtain ⟨ws, rest, ev, hl, hz, hq⟩ := hsp
  subst ev
  obtain ⟨u1, u2, eu, r1, r2⟩ := StX.vals_split r
  subst eu
  have hn : H s.heap.objs.size = Option.none := e0.hok.fresh (Nat.le_refl _)
  have hl1 : u1.length = ps.length := by rw [← r1.length]; exact hl
  have hl2 : u2.length ≤ sizeLine := by rw [← r2.length]; exact hz
  refine F.run S hr e0 (G := fun xs H2 => ∃ p, H p = Option.none ∧ xs = ws ++ [V.ref p] ∧ H2 = upd H p (.tup rest)) (fun A' Ex Q' h => ?_) (fun xs H2 ⟨p, hp, ex, eH⟩ => ?_) hbody
  · rw [B.b u1 u2 hl1]
    refine wpAny_bind (wpAny_newTuple (wpAny_pure ?_) hl2)
    have new : ObjOk P w (upd H s.heap.objs.size (.tup rest)) (s.heap.push ({ cls := .type "tuple", data := .seq u2.toArray } : Obj)) s.heap.objs.size (.tup rest) := ⟨hz, u2, r2, ⟨_, Heap.get?_push_size _ rfl, rfl, _, rfl⟩⟩
    have un := StX.un_laid (fs := frs outer) (s := s) (o := ({ cls := .type "tuple", data := .seq u2.toArray } : Obj)) (u := .tup rest) hn
    have z := h _ _ (ws ++ [V.ref s.heap.objs.size]) (u1 ++ [Value.ref s.heap.objs.size]) (StX.env0_laid e0 new) un rfl (fun e s' => StX.cxUp outer s H _ _ E e s' un (fun b o q => Heap.get?_push_of_some _ q) rfl) (r1.append (.cons rfl .nil))
      (by rw [List.length_append, List.length_append, hl] <;> rfl) ⟨_, hn, rfl, rfl⟩
    rw [List.zip_append hl1.symm] at z
    exact z
  · subst ex eH
    exact hq p hp
/-- how its arguments bind (no defaults) -/
theorem FunQ.binds (F : FunQ P K mg x qual st f fd C g sv)
    (h : ∀ (kV doc pm : Value) (an : Option Addr) (cda cc : Addr) (ct : Value) (us : List Value), us.length = ps.length → bindArgs (ksFn x qual (defArgs st) (defBody st) (defScope st) .none kV doc pm an (.ref cda) ct cc) ⟨us, []⟩ = pure (ps.zip us)) : Binds K fd ps [] := by
  obtain ⟨oc, od, kV, doc, pm, an, cda, cc, ct, osl, rfl, lk, hcd, SF⟩ := F.ex
  exact .all (h kV doc pm an cda cc ct)
theorem FunQ.bindsV {pv : Str} (F : FunQ P K mg x qual st f fd C g sv)
    (h : ∀ (kV doc pm : Value) (an : Option Addr) (cda cc : Addr) (ct : Value) (us rest : List Value), us.length = ps.length → bindArgs (ksFn x qual (defArgs st) (defBody st) (defScope st) .none kV doc pm an (.ref cda) ct cc) ⟨us ++ rest, []⟩ = (newTuple rest >>= fun t => pure (ps.zip us ++ [(pv, t)]))) : BindV fd ps pv := by
  obtain ⟨oc, od, kV, doc, pm, an, cda, cc, ct, osl, rfl, lk, hcd, SF⟩ := F.ex
  exact ⟨h kV doc pm an cda cc ct⟩
end
/-- def f(a, .., *v) under any wish that bears new objects -/
theorem Fun.okVX {CX : CXT} {P : Program} {w : World} {K : PySem.W.Frag} {mg : Str → Option Value} {base : Heap} {x qual pv : Str} {st : Stmt} {f : Addr} {fd : FuncData} {N ps : List Str} {k : Nat} {sp : Sp} (hCX : StX.CXUp CX) (F : Fun K x qual st f fd) (B : BindV fd ps pv) (S : FnScope N (ps ++ [pv]) (defScope st))
    (hbody : ∀ (cdv : Value) (A : Around) (outer : List Env) (s : Shared) (H : Hp) (vs : List V) (Q : VK) (E : XK), Room k (A.deeper (envOfC qual (defScope st) s.heap.objs.size f cdv)) → sp vs H Q E →
      ∃ t, PSs (cxOf CX P w K mg base N qual (defScope st) f cdv A outer s H E) (defBody st) t ∧ t { nx := fun _ H' => Q .non H', rt := Q } (start N vs) H) : FnR P w K mg base CX (k + 1) f (spV ps.length sp) := by
  obtain ⟨oc, od, kV, doc, pm, an, cdv, ct, osl, rfl, lk, hcd⟩ := F.ex
  exact StX.fn_star lk hcd S hCX B.b fun A outer s H vs Q E hr hsp => hbody cdv A outer s H vs Q E hr hsp
section
variable {P : Program} {K : PySem.W.Frag} {mg : Str → Option Value} {x qual : Str} {st : Stmt} {f C g : Addr} {fd : FuncData} {sv : Str} {ps ks : List Str} {gB : List Value → List Value → List Value} {gV : List V → List V → List V}
theorem kbindsQ (F : FunQ P K mg x qual st f fd C g sv)
    (h : ∀ (kV doc pm : Value) (an : Option Addr) (cda cc : Addr) (ct : Value) (us ws : List Value), (gB us ws).length = ps.length → bindArgs (ksFn x qual (defArgs st) (defBody st) (defScope st) .none kV doc pm an (.ref cda) ct cc) ⟨us, ks.zip ws⟩ = pure (ps.zip (gB us ws)))
    (rel : ∀ {vs : List V} {us : List Value} {zs : List V} {ws : List Value}, Vals vs us → Vals zs ws → Vals (gV vs zs) (gB us ws)) : KBinds K fd ps ks gB gV := by
  obtain ⟨oc, od, kV, doc, pm, an, cda, cc, ct, osl, rfl, lk, hcd, SF⟩ := F.ex
  exact ⟨fun s us ws _ hl => .of_eq (h kV doc pm an cda cc ct us ws hl), rel⟩
end
end Vc

/-! Xa: x + y by an own __add__; p[::-1] of a pair (my own). -/
namespace Vc
open PySem PySem.Spec PyProof.Rows L2
section
variable {X : Cx} {C g : Addr} {fd : FuncData} {ps : List Str} {sp : Sp} {n : Nat}
/-- x + y by x's own __add__, y of the same class -/
def rAddO (K : PySem.W.Frag) (C : Addr) (sp : Sp) : R2 := fun x y H Q => ∃ (a dx : Addr) (fs : List (Str × V)), x = .ref a ∧ H a = some (.ins C dx fs) ∧ TyX K H y (.ref C) ∧ sp [x, y] H (fun v H' => ∃ b, v = .ref b ∧ Q (.ref b) H') E0
theorem op_addO (F : FnOk X.prog X.w X.K X.mg X.base CX0 n g fd ps sp) (hr : Room n X.A) (m : SpM X.K C g "__add__") (sf : PySem.W.selfFirst X.K C = true) (hb : Binds X.K fd ps []) : OpR X (binaryOp .Add) (rAddO X.K C sp) := by
  intro pins s σ H x y v u Q I rx ry h
  obtain ⟨a, dx, fs, rfl, ha, ty, q⟩ := h
  cases rx
  obtain ⟨mA, J, _⟩ := ins_get I.hok ha
  obtain ⟨od, J, _⟩ := J.look
  obtain ⟨_, Z, p, _⟩ := kit_of I ry ty
  obtain ⟨mm, hF⟩ := I.fr
  refine PySem.W.binop_K (op := .Add) hF I.ok.mod.kin J (Z.ty _ _ I.kIn p) sf m.at_ m.fn ?_
  refine wpAny_mono (runO (vs := [.ref a, y]) F hr hb I I.env0 (.cons rfl (.cons ry .nil)) q) (fun w' s' hq => ?_) (fun _ _ e => e)
  obtain ⟨z, H', I', rz, b, rfl, qz⟩ := hq
  cases rz
  exact ⟨.ref b, H', I', rfl, qz⟩
theorem go_addO {K : PySem.W.Frag} {H : Hp} {Q : VK} {a dx : Addr} {fs : List (Str × V)} {y : V} (ha : H a = some (.ins C dx fs)) (ty : TyX K H y (.ref C)) (q : sp [.ref a, y] H (fun v H' => ∃ b, v = .ref b ∧ Q (.ref b) H') E0) : rAddO K C sp (.ref a) y H Q := ⟨a, dx, fs, rfl, ha, ty, q⟩
end
section
variable {prog : Program} {w : World} {A : Around} {E : Value → Shared → Prop} {s : Shared}
theorem sliceApplied_rev {sl : Addr} {vl vu vs : Value} {Q : Int × Int × Nat → Shared → Prop} (hs : s.heap.IsSliceOf sl vl vu vs) (pl : IsPart vl none) (pu : IsPart vu none) (p : IsPart vs (some (-1)))
    (h : Q (1, -1, 2) s) : wpAny (model prog w) A (Builtin.Slice.sliceApplied (.ref sl) (pure (2 : Int))) Q E s := by
  obtain ⟨os, hos, hcs, hds⟩ := id hs
  unfold Builtin.Slice.sliceApplied Builtin.Slice.sliceFields
  refine wpAny_bind (wpAny_bind (wpAny_field hos hds (x := vl) rfl (wpAny_bind (wpAny_field hos hds (x := vu) rfl (wpAny_bind (wpAny_field hos hds (x := vs) rfl (wpAny_pure ?_)))))))
  refine wpAny_bind (HT.slicePart_ p ?_)
  show wpAny _ _ (if ((-1 : Int) == 0) = true then _ else _) _ _ s
  rw [if_neg (by decide)]
  refine wpAny_bind (HT.slicePart_ pl (wpAny_bind (HT.slicePart_ pu (wpAny_bind (wpAny_pure ?_)))))
  exact wpAny_pure h
theorem getItem_pair_rev {t sl : Addr} {a b : Value} {vl vu vs : Value} {Q : Value → Shared → Prop} (ht : IsTup s.heap t #[a, b]) (hs : s.heap.IsSliceOf sl vl vu vs) (pl : IsPart vl none) (pu : IsPart vu none) (p : IsPart vs (some (-1)))
    (h : Q (.ref s.heap.objs.size) { s with heap := s.heap.push { cls := .type "tuple", data := .seq #[b, a] } }) : wpAny (model prog w) A (getItem (.ref t) (.ref sl)) Q E s := by
  have htake : sizeOk (.seq #[b, a]) := by
    show 2 ≤ sizeLine
    decide
  obtain ⟨os, hos, hcs, hds⟩ := id hs
  have hTs : s.TypeIs (.ref sl) "slice" := ⟨os, hos, hcs⟩
  unfold getItem
  try with_reducible refine wpAny_holding ?_
  first | refine wpAny_bind (wpAny_pure ?_) | skip
  refine wpAny_bind (wpAny_sequenceKey ht.typeIs (by decide) ?_)
  refine wpAny_bind (wpAny_callSpecial?_slot (name := Str.ofString "__getitem__") ht.typeIs PyProof.Rows.slot_tuple_getitem
    (wpAny_call_entry PyProof.Rows.slot_tuple_getitem ht.typeIs PyProof.Rows.entry_tuple_getitem ?_ (PyProof.Rows.args_tuple_getitem _ _)))
  show wpAny _ _ (Builtin.Tuple.tupleItemsOf (.ref t) >>= _) _ _ s
  refine wpAny_bind (PyProof.Rows.tupleItemsOf_ ht ?_)
  refine wpAny_bind (wpAny_typeOf hTs ?_)
  rw [if_pos (by decide)]
  refine wpAny_bind (sliceApplied_rev hs pl pu p ?_)
  show wpAny _ _ (if ((1 : Int) == 0 && (-1 : Int) == 1 && 2 == (#[a, b] : Array Value).size) = true then _ else _) _ _ s
  rw [if_neg (by show ¬ ((1 : Int) == 0 && (-1 : Int) == 1 && 2 == 2) = true; decide)]
  have pick : ((List.range 2).filterMap fun (m : Nat) => (#[a, b] : Array Value)[((1 : Int) + (m : Int) * (-1)).toNat]?).toArray = #[b, a] := rfl
  rw [pick]
  first
    | exact wpAny_bind (m := Builtin.Tuple.tupleExact _) (wpAny_newObj_type (wpAny_pure ⟨_, rfl, wpAny_pure h⟩) htake)
    | exact wpAny_bind (m := Builtin.Tuple.tupleExact _) (wpAny_newObj_type (wpAny_bind (wpAny_pure (wpAny_pure ⟨_, rfl, wpAny_pure h⟩))) htake)
    | exact wpAny_bind (wpAny_bind (m := Builtin.Tuple.tupleExact _) (wpAny_newObj_type (wpAny_pure (wpAny_pure ⟨_, rfl, wpAny_pure h⟩)) htake))
    | exact wpAny_bind (wpAny_bind (m := Builtin.Tuple.tupleExact _) (wpAny_newObj_type (wpAny_pure ⟨_, rfl, wpAny_pure h⟩) htake))
end
/-- p[::-1], p a pair -/
def tRev2 (K : PySem.W.Frag) (te : TE) : TE := fun σ H Q => te σ H fun x H1 => ∃ a u v, x = .ref a ∧ SqT K H1 a [u, v] ∧ ∀ p, H1 p = none → Q (.ref p) (upd H1 p (.tup [v, u]))
theorem pe_rev2 {X : Cx} {e : Expr} {te : TE} {k : Nat} {p1 p2 p3 pos : Pos} (he : PE X e te) : PE X (.Subscript e (.Slice none none (some (.UnaryOp .USub (.Constant (.int 1) k p1) p2)) p3) pos) (tRev2 X.K te) := by
  refine ⟨fun pins s σ H Q I h => ?_⟩
  refine Subscript_ (thn (he.run pins s σ H _ I h) fun v s1 ⟨x, H1, I1, r1, q1⟩ => ?_)
  obtain ⟨a, y, z, ex, hx, q⟩ := q1
  subst ex
  cases r1
  have hst : PO X (some (.UnaryOp .USub (.Constant (.int 1) k p1) p2)) (tPart (tUn (rU fun i => .int (-i)) (tC (.int 1)))) := po_some (pe_un un_neg pe_int)
  refine wpAny_Slice (thn (po_none.run pins s1 σ H1 (fun o H2 => o = none ∧ H2 = H1) I1 ⟨rfl, rfl⟩) fun vl s2 ⟨l, H2, I2, pl, el, e2⟩ => ?_)
  subst el e2
  refine thn (po_none.run pins s2 σ H2 (fun o H3 => o = none ∧ H3 = H2) I2 ⟨rfl, rfl⟩) fun vu s3 ⟨u, H3, I3, pu, eu, e3⟩ => ?_
  subst eu e3
  refine thn (hst.run pins s3 σ H3 (fun o H4 => o = some (-1) ∧ H4 = H3) I3 ⟨1, rfl, -1, rfl, rfl, rfl⟩) fun vs s4 ⟨o, H4, I4, ps, eo, e4⟩ => ?_
  subst eo e4
  have I5 : Inv X pins σ H4 { s4 with heap := s4.heap.push { cls := .type "slice", data := .fields #[vl, vu, vs] } } := I4.kept (t' := s4.toks) fun b ob q => Heap.get?_push_of_some _ q
  obtain ⟨its, r, ht, hz⟩ := I5.tuple hx
  cases r with
  | cons ry r =>
    cases r with
    | cons rz r =>
      cases r
      show wpAny (model X.prog X.w) X.A (subscriptTail e (.Slice none none (some (.UnaryOp .USub (.Constant (.int 1) k p1) p2)) p3) (.ref a) (.ref s4.heap.objs.size)) (EP X pins σ Q) X.xe { s4 with heap := s4.heap.push { cls := .type "slice", data := .fields #[vl, vu, vs] } }
      refine tail_any (ops := [.ref a, .ref s4.heap.objs.size]) ht.typeIs (PyProof.Rows.slot_tuple_getitem.lookup) ?_ (by with_unfolding_all rfl)
      refine getItem_pair_rev ht (Heap.IsSliceOf.new _ vl vu vs) pl pu ps ?_
      refine ⟨.ref _, _, I5.laid (t' := s4.toks) (o := .tup [z, y]) (fun b ob q => Heap.get?_push_of_some _ q) (Nat.le_refl _) ?_, rfl, q _ (I5.hok.fresh (Nat.le_refl _))⟩
      exact ⟨by show 2 ≤ sizeLine; decide, _, .cons rz (.cons ry .nil), IsTup.new _ _⟩
theorem go_rev2 {K : PySem.W.Frag} {te : TE} {σ : L2.St} {H : Hp} {Q : VK} (h : te σ H fun x H1 => ∃ a u v, x = .ref a ∧ SqT K H1 a [u, v] ∧ ∀ p, H1 p = none → Q (.ref p) (upd H1 p (.tup [v, u]))) : tRev2 K te σ H Q := h
end Vc

/-! Xp: e.f, x == y, x != y, str(x) where x is of one of several own classes that have the def in common: the reading tells which (my own). -/
namespace Vc
open PySem PySem.Spec PyProof.Rows L2
section
variable {X : Cx} {g : Addr} {fd : FuncData} {ps : List Str} {sp : Sp} {n : Nat}
def rEqP (K : PySem.W.Frag) (g : Addr) (sp : Sp) : R2 := fun x y H Q => ∃ C, EqM K C g ∧ rEqO K C sp x y H Q
theorem op_eqP (F : FnOk X.prog X.w X.K X.mg X.base CX0 n g fd ps sp) (hr : Room n X.A) (hb : Binds X.K fd ps []) : OpR X (compareOp .Eq) (rEqP X.K g sp) := by
  rintro pins s σ H x y v u Q I rx ry ⟨C, m, h⟩
  exact op_eqO F hr m hb pins s σ H x y v u Q I rx ry h
def rNeP (K : PySem.W.Frag) (g : Addr) (sp : Sp) : R2 := fun x y H Q => ∃ C, NeM K C g ∧ rNeO K C sp x y H Q
theorem op_neP (F : FnOk X.prog X.w X.K X.mg X.base CX0 n g fd ps sp) (hr : Room (n + 1) X.A) (hb : Binds X.K fd ps []) : OpR X (compareOp .NotEq) (rNeP X.K g sp) := by
  rintro pins s σ H x y v u Q I rx ry ⟨C, m, h⟩
  exact op_neO F hr m hb pins s σ H x y v u Q I rx ry h
def rStrP (K : PySem.W.Frag) (g : Addr) (sp : Sp) : List V → Hp → VK → Prop := fun xs H Q => ∃ C, SpM K C g "__str__" ∧ rStrO C sp xs H Q
theorem call_strP (F : FnOk X.prog X.w X.K X.mg X.base CX0 n g fd ps sp) (hr : Room (n + 2) X.A) (hb : Binds X.K fd ps []) : CallR X (.type "str") (rStrP X.K g sp) := by
  rintro pins s σ H xs us Q I r ⟨C, m, h⟩
  exact call_strO F hr m hb pins s σ H xs us Q I r h
def tPropP (K : PySem.W.Frag) (f : Str) (g : Addr) (sp : Sp) (te : TE) : TE := fun σ H Q => te σ H fun x H1 => ∃ (a C p dx : Addr) (fs : List (Str × V)), x = .ref a ∧ H1 a = some (.ins C dx fs) ∧ Cls K C ∧ PropOf K C f p g ∧ sp [.ref a] H1 Q E0
theorem pe_propP {e : Expr} {te : TE} {f : Str} {pos : Pos} (he : PE X e te) (F : FnOk X.prog X.w X.K X.mg X.base CX0 n g fd ps sp) (hr : Room (n + 1) X.A) (hb : Binds X.K fd ps [])
    (hab : attributeBase e f X.env (eval e X.env) = eval e X.env) : PE X (.Attribute e f pos) (tPropP X.K f g sp te) := by
  refine ⟨fun pins s σ H Q I h => ?_⟩
  refine attr_of hab (thn (he.run pins s σ H _ I h) fun u s1 ⟨x, H1, I1, rx, a, C, p, dx, fs, ex, ea, c, hp, q⟩ => ?_)
  subst ex
  obtain rfl : u = Value.ref a := rx
  exact getprop_ok I1 ea c hp F hr hb .nil pass0 (by simpa using q)
end
section
variable {K : PySem.W.Frag} {H : Hp} {Q : VK} {g : Addr} {sp : Sp} {C a dx : Addr} {fs : List (Str × V)}
theorem go_eqP (m : EqM K C g) {y : V} {t : Value} (ha : H a = some (.ins C dx fs)) (ty : TyX K H y t) (nf : PySem.W.notFirst K C t = true) (q : sp [.ref a, y] H (fun v H' => ∃ b, v = .bl b ∧ Q (.bl b) H') E0) : rEqP K g sp (.ref a) y H Q := ⟨C, m, a, dx, fs, t, rfl, ha, ty, nf, q⟩
theorem go_neP (m : NeM K C g) {y : V} {t : Value} (ha : H a = some (.ins C dx fs)) (ty : TyX K H y t) (nf : PySem.W.notFirst K C t = true) (q : sp [.ref a, y] H (fun v H' => ∃ b, v = .bl b ∧ Q (.bl (!b)) H') E0) : rNeP K g sp (.ref a) y H Q := ⟨C, m, a, dx, fs, t, rfl, ha, ty, nf, q⟩
theorem go_strP (m : SpM K C g "__str__") (ha : H a = some (.ins C dx fs)) (q : sp [.ref a] H (fun v H' => ∃ z, v = .str z ∧ Q (.str z) H') E0) : rStrP K g sp [.ref a] H Q := ⟨C, m, a, dx, fs, rfl, ha, q⟩
theorem go_propP {f : Str} {te : TE} {σ : L2.St} (h : te σ H fun x H1 => ∃ (a C p dx : Addr) (fs : List (Str × V)), x = .ref a ∧ H1 a = some (.ins C dx fs) ∧ Cls K C ∧ PropOf K C f p g ∧ sp [.ref a] H1 Q E0) : tPropP K f g sp te σ H Q := h
end
end Vc

/-! Xrp: how long the repr of data is (my own). -/
namespace Vc
open PySem PySem.Spec PyProof.Rows L2
/-- a text of at most n plain signs -/
structure SOk (z : Str) (n : Nat) : Prop where
  len : z.length ≤ n
  sg : ∀ c ∈ z.cps.toList, c < 16 ^ 8
theorem SOk.mono {z : Str} {n m : Nat} (h : SOk z n) (l : n ≤ m) : SOk z m := ⟨Nat.le_trans h.len l, h.sg⟩
theorem sapp_len (a b : Str) : (a ++ b).length = a.length + b.length := strLen_append a b
theorem SOk.app {a b : Str} {n m : Nat} (h : SOk a n) (k : SOk b m) : SOk (a ++ b) (n + m) := by
  refine ⟨by rw [sapp_len]; exact Nat.add_le_add h.len k.len, fun c hc => ?_⟩
  have hc : c ∈ (a.cps ++ b.cps).toList := hc
  rw [Array.toList_append] at hc
  rcases List.mem_append.mp hc with hc | hc
  · exact h.sg c hc
  · exact k.sg c hc
theorem int_sg (i : Int) : ∀ c ∈ (Str.ofString (toString i)).cps.toList, c < 16 ^ 8 := fun c hc => by
  by_cases h : c < 16 ^ 8
  · exact h
  · have n := PyProof.Rows.shown_int_free' (k := c) ⟨by omega, by omega⟩ i
    rw [PyData.shown_int] at n
    exact absurd hc n
theorem int_sok {i : Int} {k : Nat} (hk : 0 < k) (h : i.natAbs < 10 ^ k) : SOk (Str.ofString (toString i)) (k + 1) := by
  refine ⟨?_, int_sg i⟩
  rw [PySem.ofString_length]
  exact int_text_length_le10 hk h
/-- data whose repr has at most w signs -/
structure Fw (d : PyData) (w k : Nat) : Prop where
  sh : d.showable = true
  nd : d.hasDict = false
  dp : d.depth ≤ k
  sz : d.shown.length ≤ w
theorem Fw.mono {d : PyData} {w k w' k' : Nat} (h : Fw d w k) (l : w ≤ w') (m : k ≤ k') : Fw d w' k' := ⟨h.sh, h.nd, Nat.le_trans h.dp m, Nat.le_trans h.sz l⟩
theorem Fw.fits {d : PyData} {w k : Nat} (h : Fw d w k) (l : w ≤ 1000000 := by decide) (m : k ≤ 60 := by decide) : Fits d := ⟨h.sh, h.nd, Nat.le_trans h.dp m, Nat.le_trans h.sz (by rw [sizeLine_eq]; omega)⟩
theorem fw_non {w k : Nat} (l : 4 ≤ w := by decide) : Fw .none w k := ⟨rfl, rfl, Nat.zero_le _, by rw [PyData.shown_none]; exact Nat.le_trans (by decide) l⟩
theorem fw_bl {w k : Nat} (b : Bool) (l : 5 ≤ w := by decide) : Fw (.bool b) w k := ⟨rfl, rfl, Nat.zero_le _, by rw [PyData.shown_bool]; exact Nat.le_trans (by cases b <;> decide) l⟩
theorem log10 {n k : Nat} (h : n < 10 ^ k) (l : k ≤ 480) : n.log2 < 1920 := by
  have : n < 2 ^ 1920 := Nat.lt_of_lt_of_le h (Nat.le_trans (Nat.pow_le_pow_right (by decide) l) (by decide +kernel))
  by_cases z : n = 0
  · rw [z]; decide
  · exact (Nat.log2_lt z).mpr this
theorem fw_int {i : Int} {w k : Nat} (j : Nat) (h : i.natAbs < 10 ^ j) (j0 : 0 < j := by decide) (j1 : j ≤ 480 := by decide) (l : j + 1 ≤ w := by decide) : Fw (.int i) w k :=
  ⟨by simp only [PyData.showable]; exact decide_eq_true (log10 h j1), rfl, Nat.zero_le _, by rw [PyData.shown_int]; exact Nat.le_trans (int_sok j0 h).len l⟩
theorem fw_str {z : Str} {n w k : Nat} (h : SOk z n) (l : 10 * n + 2 ≤ w := by decide) : Fw (.str z) w k :=
  ⟨rfl, rfl, Nat.zero_le _, by rw [PyData.shown_str]; have := PySem.StrLaws.reprText_len z h.sg; have := h.len; omega⟩
theorem fw_all {w k : Nat} : ∀ {ds : List PyData}, (∀ x ∈ ds, Fw x w k) → PyData.showableAll ds = true ∧ PyData.hasDictAll ds = false ∧ PyData.depthAll ds ≤ k ∧ piled (PyData.shownAll ds) ≤ ds.length * (w + 2)
  | [], _ => ⟨rfl, rfl, Nat.zero_le _, by show piled [] ≤ _; rw [piled_nil]; exact Nat.zero_le _⟩
  | d :: r, h => by
    obtain ⟨a, b, c, e⟩ := fw_all (fun x hx => h x (List.mem_cons_of_mem _ hx))
    have hd := h d List.mem_cons_self
    refine ⟨by simp only [PyData.showableAll, hd.sh, a, Bool.and_self], by simp only [PyData.hasDictAll, hd.nd, b, Bool.or_self], by simp only [PyData.depthAll]; exact Nat.max_le.mpr ⟨hd.dp, c⟩, ?_⟩
    show piled (d.shown :: PyData.shownAll r) ≤ (r.length + 1) * (w + 2)
    rw [piled_cons, Nat.add_mul]
    have := hd.sz
    omega
theorem listText_le (ts : List Str) : (listText ts).length ≤ piled ts + 4 := by
  cases ts with
  | nil => decide
  | cons t r =>
    show ((textFrom 1 ("[" ++ "" ++ t) r) ++ "]" : Str).length ≤ _
    rw [sapp_len, textFrom_length_pos r 1 _ (by decide), piled_cons, sapp_len, sapp_len]
    show 1 + 0 + t.length + piled r + 1 ≤ _
    omega
theorem tupleText_le (ts : List Str) : (tupleText ts).length ≤ piled ts + 4 := by
  unfold tupleText
  rw [sapp_len, sapp_len]
  have l1 : (Str.ofString (if (ts.length == 1) = true then ",)" else ")")).length ≤ 2 := by split <;> decide
  have l2 : (Str.ofString "(").length = 1 := rfl
  cases ts with
  | nil => decide
  | cons t r =>
    have := join_length_add (t :: r) (by simp)
    omega
theorem fw_lst {ds : List PyData} {w k W : Nat} (h : ∀ x ∈ ds, Fw x w k) (l : ds.length * (w + 2) + 4 ≤ W) : Fw (.list ds) W (k + 1) := by
  obtain ⟨a, b, c, e⟩ := fw_all h
  exact ⟨by simp only [PyData.showable]; exact a, by simp only [PyData.hasDict]; exact b, by simp only [PyData.depth]; omega, by simp only [PyData.shown]; have := listText_le (PyData.shownAll ds); omega⟩
theorem fw_tup {ds : List PyData} {w k W : Nat} (h : ∀ x ∈ ds, Fw x w k) (l : ds.length * (w + 2) + 4 ≤ W) : Fw (.tuple ds) W (k + 1) := by
  obtain ⟨a, b, c, e⟩ := fw_all h
  exact ⟨by simp only [PyData.showable]; exact a, by simp only [PyData.hasDict]; exact b, by simp only [PyData.depth]; omega, by simp only [PyData.shown]; have := tupleText_le (PyData.shownAll ds); omega⟩
theorem fw_nil {w k : Nat} : ∀ x ∈ ([] : List PyData), Fw x w k := fun _ h => nomatch h
theorem fw_cons {w k : Nat} {d : PyData} {r : List PyData} (h : Fw d w k) (t : ∀ x ∈ r, Fw x w k) : ∀ x ∈ d :: r, Fw x w k := fun x hx => by
  rcases List.mem_cons.mp hx with rfl | hx
  · exact h
  · exact t x hx
end Vc

/-! Xla: lambdas handed to a def that calls them where errors are caught (the way of HandS.Lambda; what may be raised is told at the caller's slots), edges that let the tables of code objects grow, the end of a law whose defs make lambdas (my own). -/
namespace Vc
open PySem PySem.Spec PyProof.Rows L2
/-! ### edges that let tables grow -/
structure EdX (S : List Addr) (H H' : Hp) : Prop where
  keep : ∀ a o, a ∉ S → (∀ ps, o ≠ .tbl ps) → H a = some o → H' a = some o
  tup : ∀ a xs, H a = some (.tup xs) → H' a = some (.tup xs)
  frz : ∀ a o u, H a = some (.frz o u) → H' a = some (.frz o u)
/-- nothing is known there, or a table -/
def Nw (H : Hp) (a : Addr) : Prop := H a = none ∨ ∃ ps, H a = some (.tbl ps)
section
variable {S T : List Addr} {H H1 H2 : Hp} {a p : Addr} {o : HO}
theorem Nw.none (h : H a = none) : Nw H a := .inl h
theorem Nw.ne (h : Nw H p) (e : H a = some o) (n : ∀ ps, o ≠ .tbl ps := by intro _ z; cases z) : a ≠ p := fun z => by
  rw [z] at e
  rcases h with h | ⟨ps, h⟩
  · rw [h] at e; cases e
  · rw [h] at e; exact n ps (Option.some.inj e).symm
theorem EdX.of (e : Ed S H H1) : EdX S H H1 := ⟨fun a o n _ h => e.keep a o n h, e.tup, e.frz⟩
theorem EdX.refl : EdX S H H := ⟨fun _ _ _ _ h => h, fun _ _ h => h, fun _ _ _ h => h⟩
theorem EdX.lam (e : LamX.ExtN H H1) : EdX [] H H1 := ⟨fun a o _ n h => e a o h n, fun a xs h => e a _ h (fun _ z => nomatch z), fun a o u h => e a _ h (fun _ z => nomatch z)⟩
theorem EdX.new (e : EdX S H H1) (h : Nw H1 p) : p ∈ S ∨ Nw H p := by
  cases q : H p with
  | none => exact .inr (.inl q)
  | some o =>
    by_cases t : ∃ ps, o = .tbl ps
    · obtain ⟨ps, rfl⟩ := t
      exact .inr (.inr ⟨ps, q⟩)
    · by_cases m : p ∈ S
      · exact .inl m
      · exact (h.ne (e.keep p o m (fun ps z => t ⟨ps, z⟩) q) (fun ps z => t ⟨ps, z⟩) rfl).elim
theorem EdX.new0 (e : EdX [] H H1) (h : Nw H1 p) : Nw H p := (e.new h).elim (fun z => nomatch z) id
theorem EdX.trans (x : EdX S H H1) (y : EdX T H1 H2) (hs : ∀ x ∈ T, x ∈ S ∨ Nw H x) : EdX S H H2 :=
  ⟨fun b u n t h => y.keep b u (fun z => (hs b z).elim n fun w => w.ne h t rfl) t (x.keep b u n t h), fun b xs h => y.tup b xs (x.tup b xs h), fun b v u h => y.frz b v u (x.frz b v u h)⟩
theorem EdX.ex (x : EdX S H H1) (y : EdX [] H1 H2) : EdX S H H2 := x.trans y fun _ z => nomatch z
theorem EdX.one (x : EdX S H H1) (y : EdX [p] H1 H2) (h : p ∈ S ∨ Nw H p) : EdX S H H2 := x.trans y fun b z => by rw [List.mem_singleton.mp z]; exact h
theorem EdX.mono (x : EdX S H H1) (hs : ∀ b ∈ S, b ∈ T) : EdX T H H1 := ⟨fun b u n => x.keep b u fun z => n (hs b z), x.tup, x.frz⟩
theorem EdX.at0 (e : EdX [] H H1) (h : H a = some o) (n : ∀ ps, o ≠ .tbl ps := by intro _ z; cases z) : H1 a = some o := e.keep a o (fun z => nomatch z) n h
theorem EdX.at1 (e : EdX [p] H H1) (m : a ≠ p) (h : H a = some o) (n : ∀ ps, o ≠ .tbl ps := by intro _ z; cases z) : H1 a = some o := e.keep a o (fun z => m (List.mem_singleton.mp z)) n h
theorem EdX.rdt {xs : List V} (e : EdX S H H1) (h : Rd H a (.tup xs)) : Rd H1 a (.tup xs) := h.elim (fun h => .inl (e.tup _ _ h)) fun ⟨o, h⟩ => .inr ⟨o, e.frz _ _ _ h⟩
theorem EdX.sqt {K : PySem.W.Frag} {xs : List V} (e : EdX S H H1) (h : SqT K H a xs) : SqT K H1 a xs := h.elim (fun h => .inl (e.rdt h)) .inr
theorem EdX.sql {K : PySem.W.Frag} {xs : List V} (e : EdX S H H1) (n : a ∉ S) (h : SqL K H a xs) : SqL K H1 a xs := by
  rcases h with (h | ⟨o, h⟩) | h
  · exact .inl (.inl (e.keep _ _ n (fun _ z => nomatch z) h))
  · exact .inl (.inr ⟨o, e.frz _ _ _ h⟩)
  · exact .inr h
end
mutual
theorem Dp.edx {K : PySem.W.Frag} {S : List Addr} {H H' : Hp} (e : EdX S H H') (hS : ∀ a ∈ S, ∀ xs, H a ≠ some (.lst xs)) : ∀ (d : PyData) (v : V), Dp K H v d → Dp K H' v d
  | .none, _, h => by cases h; exact .non
  | .bool b, _, h => by cases h; exact .bl b
  | .int i, _, h => by cases h; exact .int i
  | .str x, _, h => by cases h; exact .str x
  | .list ds, _, h => by
    cases h with
    | lst ha hd =>
      refine .lst ?_ (Dp.edxAll e hS ds _ hd)
      rcases ha with (q | ⟨ob, q⟩) | q
      · exact .inl (.inl (e.keep _ _ (fun z => hS _ z _ q) (fun _ z => nomatch z) q))
      · exact .inl (.inr ⟨ob, e.frz _ _ _ q⟩)
      · exact .inr q
  | .tuple ds, _, h => by
    cases h with
    | tup ha hd => exact .tup (e.sqt ha) (Dp.edxAll e hS ds _ hd)
theorem Dp.edxAll {K : PySem.W.Frag} {S : List Addr} {H H' : Hp} (e : EdX S H H') (hS : ∀ a ∈ S, ∀ xs, H a ≠ some (.lst xs)) : ∀ (ds : List PyData) (vs : List V), DpAll K H vs ds → DpAll K H' vs ds
  | [], _, h => by cases h; exact .nil
  | d :: ds, _, h => by
    cases h with
    | cons h1 h2 => exact .cons (Dp.edx e hS d _ h1) (Dp.edxAll e hS ds _ h2)
end
theorem Dp.edx0 {K : PySem.W.Frag} {H H' : Hp} {d : PyData} {v : V} (e : EdX [] H H') (h : Dp K H v d) : Dp K H' v d := Dp.edx e (fun _ z => nomatch z) d v h
/-- the tables stand where neither they nor code objects are changed -/
theorem tabs_ed {T : List (Addr × Str)} {S : List Addr} {H H' : Hp} (t : LamX.Tabs T H) (e : Ed S H H') (hS : ∀ b ∈ S, Nw H b ∧ (∀ ps, H b ≠ some (.tbl ps)) ∨ ∃ o, H b = some o ∧ (∀ ps, o ≠ .tbl ps) ∧ ∀ c q, o ≠ LamX.CodeO c q) : LamX.Tabs T H' := fun p hp => by
  obtain ⟨ps, h1, h2, h3⟩ := t p hp
  have keep : ∀ {b : Addr} {o : HO}, H b = some o → ((∃ qs, o = .tbl qs) ∨ ∃ c q, o = LamX.CodeO c q) → H' b = some o := fun {b o} h k => by
    refine e.keep b o (fun z => ?_) h
    rcases hS b z with ⟨w, n⟩ | ⟨u, q, n1, n2⟩
    · rcases w with w | ⟨qs, w⟩
      · rw [w] at h; cases h
      · exact n qs w
    · rw [h] at q
      obtain rfl := Option.some.inj q
      rcases k with ⟨qs, k⟩ | ⟨c, r, k⟩
      · exact n1 qs k
      · exact n2 c r k
  refine ⟨ps, keep h1 (.inl ⟨ps, rfl⟩), h2, fun pos cv hc => ?_⟩
  obtain ⟨c, e1, e2⟩ := h3 pos cv hc
  exact ⟨c, e1, keep e2 (.inr ⟨c, _, rfl⟩)⟩
theorem tabs_ed0 {T : List (Addr × Str)} {H H' : Hp} (t : LamX.Tabs T H) (e : Ed [] H H') : LamX.Tabs T H' := tabs_ed t e fun _ z => nomatch z
theorem code_kind {c : Addr} {q : Str} : LamX.CodeO c q = HO.ext fun h => ∃ (oc : Obj) (vs : Array Value) (t : Tok), h.get? c = some oc ∧ oc.data = .fields vs ∧ vs[1]? = some (.str q t) := rfl
theorem tabs_lst {T : List (Addr × Str)} {H H' : Hp} {b : Addr} {xs : List V} (t : LamX.Tabs T H) (e : Ed [b] H H') (hb : H b = some (.lst xs)) : LamX.Tabs T H' := tabs_ed t e fun a z => by
  rw [List.mem_singleton.mp z]
  exact .inr ⟨_, hb, (fun _ z => nomatch z), (fun c q z => by rw [code_kind] at z; cases z)⟩
/-! ### a lambda that is called in a try -/
section
variable {X : Cx} {pins : List (Addr × Obj)} {σ : L2.St} {H : Hp} {s : Shared}
/-- the context of the def at g that got the lambda -/
abbrev gcx (X : Cx) (Ng : List Str) (x : Str) (sg : Scope) (g : Addr) (cdg : Value) (s : Shared) (H : Hp) : Cx := cxOf C8.CX0 X.prog X.w X.K X.mg X.base Ng x sg g cdg X.A X.stack s H C8.E0
theorem pe_actS {Ng : List Str} {qg : Str} {sg : Scope} {g f c' : Addr} {cdg pm ctv : Value} {params : Arguments} {body : Expr} {scope : Scope} {k i : Nat} {a : Str} {pn : List (Addr × Obj)} {xe : Value → Shared → Prop} {W : WX} {t : XK → TE} {p1 p2 : Pos}
    (I : Inv X pins σ H s) (L : LamX.LamS X.env.scope scope)
    (hf : s.heap.get? f = some (PySem.W.kla_obj "<lambda>" (X.env.qual ++ "<lambda>") params body scope (cloFrom X.env.cells scope.names []) pm c' ctv)) (hfn : H f = none) (hfr : f ∉ frs X.stack)
    (bi : bindArgs (PySem.W.kla_fn "<lambda>" (X.env.qual ++ "<lambda>") params body scope (cloFrom X.env.cells scope.names []) pm (.ref c') ctv) ⟨[], []⟩ = pure [])
    (tk : Takes ((gcx X Ng qg sg g cdg s H).tr pn xe) W) (hr : Room (k + 1) (X.A.deeper (envOfC qg sg s.heap.objs.size g cdg)))
    (hbody : ∀ (A : Around) (outer : List Env) (s : Shared) (H : Hp) (E : XK), Room k (A.deeper (LamX.lamEnv X scope s.heap.objs.size f c')) → PE (LamX.lamCx X A outer s H E scope f c') body (t E))
    (hN : Ng[i]? = some a) (hv : Vis sg a) (hd : (a == ("__debug__" : Str)) = false := by decide) (hcd : (a == ("__classdict__" : Str)) = false := by decide) :
    PE ((gcx X Ng qg sg g cdg s H).tr pn xe) (.Call (.Name a p1) [] [] p2) (fun σZ HZ Q => σZ[i]? = some (some (.ref f)) ∧ HZ c' = some (LamX.CodeO c' (X.env.qual ++ "<lambda>")) ∧ t (WE W σZ) σ HZ Q) := by
  refine ⟨fun pz sz σz Hz Q Iz h => ?_⟩
  obtain ⟨hs, hc, ht⟩ := h
  refine wpAny_Call_Name_kw (thn ((pe_var (pos := p1) (i := i) hN hv hd hcd).run pz sz σz Hz (fun v H1 => v = .ref f ∧ H1 = Hz) Iz ⟨.ref f, hs, rfl, rfl⟩) fun u s1 ⟨v, H1, I1, r1, ev, eH⟩ => ?_)
  subst ev
  rw [eH] at I1
  obtain rfl : u = Value.ref f := r1
  have of1 := I1.base.keep f _ hf hfn hfr (fun z => nomatch (show f ∈ ([] : List Addr) from z))
  refine PySem.W.callWith_F0 ⟨_, _, _, _, of1⟩ ?_
  have un : Un (frs X.stack) [] H Hz s.heap s1.heap := I1.base
  obtain ⟨⟨oc, vs, tt, hoc, hdc, hvc⟩, _, _⟩ := I1.hok c' _ hc
  have rc : codeAny (model X.prog X.w) (X.A.deeper (envOfC qg sg s.heap.objs.size g cdg)) (.call (.ref f) ⟨[], []⟩) (CR (L2.CX X.prog X.w) (envOfC qg sg s.heap.objs.size g cdg :: X.stack) X.prog X.w Hz s1 Q (WE W σz)) s1 := by
    refine PySem.W.kla_callFunE hr.depth of1 rfl L.co L.gen rfl ⟨c', oc, vs, tt, rfl, hoc, hdc, hvc⟩ ?_
    rw [bi]
    refine wpAny_pure (wpAny_newFunctionEnv (fun y hy => (L.own y hy).2) (fun y hy => absurd hy (by simp)) (fun h₁ hns hsb => ⟨I1.nolimit.fresh _ hsb, ?_⟩) L.kind)
    have kp : ∀ b o, s1.heap.get? b = some o → h₁.get? b = some o := fun b o e => hsb.extBut b o (Nat.ne_of_lt (Heap.lt_size e)) (Heap.get?_push_of_some _ e)
    have J := LamX.lam_start2 (A := X.A.deeper (envOfC qg sg s.heap.objs.size g cdg)) (outer := envOfC qg sg s.heap.objs.size g cdg :: X.stack) (E := WE W σz) (f := f) (c' := c') (tk := s1.toks + ([] : List (Str × Value)).length) I L I1.env0 hr.hd un hns kp
    refine PySem.W.kla_codeExpr (wpAny_mono ((hbody _ _ s1 Hz _ (hr.deeper _)).run [] _ _ Hz Q J ht) (fun v s' ⟨w', H', J', rv, q⟩ => ?_) fun e s' hq => hq)
    exact ⟨w', H', J'.os, J'.bare, J'.base, J'.hok, rv, q⟩
  refine wpAny_call (codeAny_mono rc fun r s' hq => ?_)
  rcases r with e | fl
  · exact passAt tk σz pz Hz s1 e s' I1 hq
  · cases fl with
    | ret u => exact I1.after hq
    | next => exact False.elim hq
    | brk => exact False.elim hq
    | cont => exact False.elim hq
end
/-- the def that calls what it got, where errors are caught; TT: what it makes of the lambda's reading -/
def GivesS (j : Nat) (X : Cx) (Ng : List Str) (x : Str) (sg : Scope) (g : Addr) (cdg : Value) (bg : List Stmt) (a : Str) (q : Str) (TT : (XK → Hp → VK → Prop) → Hp → VK → Prop) : Prop :=
  ∀ (f c' : Addr) (s : Shared) (H : Hp) (Q : VK) (tl : XK → Hp → VK → Prop), Room j (X.A.deeper (envOfC x sg s.heap.objs.size g cdg)) →
    (∀ (W : WX) (pn : List (Addr × Obj)) (xe : Value → Shared → Prop) (p1 p2 : Pos), Takes ((gcx X Ng x sg g cdg s H).tr pn xe) W →
      PE ((gcx X Ng x sg g cdg s H).tr pn xe) (.Call (.Name a p1) [] [] p2) (fun σZ HZ Q => σZ[0]? = some (some (.ref f)) ∧ HZ c' = some (LamX.CodeO c' q) ∧ tl (WE W σZ) HZ Q)) →
    H c' = some (LamX.CodeO c' q) → TT tl H Q → ∃ t, PSs (gcx X Ng x sg g cdg s H).nox bg t ∧ t { nx := fun _ H' => Q .non H', rt := Q } (L2.start Ng [.ref f]) H
section
variable {X : Cx}
/-- x(lambda: body) -/
theorem pe_lamS {T : List (Addr × Str)} {TT : (XK → Hp → VK → Prop) → Hp → VK → Prop} {x a : Str} {g c P : Addr} {k j : Nat} {st : Stmt} {fd : FuncData} {Ng : List Str} {params : Arguments} {body : Expr} {scope : Scope} {t : XK → TE} {p lpos pos : Pos}
    (F : Fun X.K x x st g fd) (hg : Gl X x) (hm : X.mg x = some (.ref g)) (hb : Binds X.K fd [a] []) (Sg : FnScope Ng [a] (defScope st)) (hNg : Ng[0]? = some a) (hva : Vis (defScope st) a)
    (hG : ∀ cdg, GivesS j X Ng x (defScope st) g cdg (defBody st) a (X.env.qual ++ "<lambda>") TT)
    (TB : LamX.TabB X.base X.mg c P) (hcode : X.env.code = .ref c) (hmT : (P, X.env.qual ++ "<lambda>") ∈ T) (hu : ∀ p ∈ T, p.1 = P → p.2 = X.env.qual ++ "<lambda>") (hr : Room (j + 1) X.A) (hk : k + 1 ≤ j) (L : LamX.LamS X.env.scope scope) (hdef : defaultsOf params X.env = ([], []))
    (bi : ∀ (q : Str) (cl : List (Str × Addr)) (pm cv ctv : Value), bindArgs (PySem.W.kla_fn "<lambda>" q params body scope cl pm cv ctv) ⟨[], []⟩ = pure [])
    (hbody : ∀ (A : Around) (outer : List Env) (s : Shared) (H : Hp) (E : XK) (f c' : Addr), Room k (A.deeper (LamX.lamEnv X scope s.heap.objs.size f c')) → PE (LamX.lamCx X A outer s H E scope f c') body (t E))
    (hdb : (x == ("__debug__" : Str)) = false := by decide) (hd : (a == ("__debug__" : Str)) = false := by decide) (hcd : (a == ("__classdict__" : Str)) = false := by decide) :
    PE X (.Call (.Name x p) [.Lambda params body scope lpos] [] pos) (LamX.tLam T TT t) := by
  refine ⟨fun pins s σ H Q I h => ?_⟩
  obtain ⟨hT, h⟩ := h
  obtain ⟨oc, od, kV, doc, pm0, an, cdv, ct, osl, rfl, lk, hcg⟩ := F.ex
  refine wpAny_Call_Name_kw (ld_glob I hg hm ?_ hdb)
  refine PySem.W.callWith_K (h₀ := X.base) I.ok.mod.kin F.kp ?_ (by rfl) (by rfl)
  show wpAny _ _ (spliced ((false, eval (.Lambda params body scope lpos) X.env) :: backTo pos (starEach [] X.env))) _ _ s
  refine Calls.spliced_cons (LamX.lam_make2 I TB hcode hmT hu hT hdef (L.has I.ok) fun f c' pm' ctv H1 s' I1 eN T1 hf hfn hfr hco => ?_)
  refine Calls.spliced_nil ⟨I1.kIn, ?_⟩
  have rc : codeAny (model X.prog X.w) X.A (.call (.ref g) ⟨[.ref f], []⟩) (CR C8.CX0 X.stack X.prog X.w H1 s' Q C8.E0) s' := by
    refine LamX.run_ofS (N := Ng) (ps := [a]) (us := [.ref f]) (vs := [.ref f]) lk hcg Sg hr I1.env0 (hb s' [.ref f] I1.kIn rfl) (.cons rfl .nil) rfl fun hr' => ?_
    obtain ⟨t', ht', hq'⟩ := hG cdv f c' s' H1 Q (fun E H' Q' => t E σ H' Q') hr' (fun W pn xe p1 p2 tk => pe_actS (k := k) (i := 0) I1 L hf hfn hfr (bi _ _ _ _ _) tk (hr'.mono hk) (fun A outer s H E hr2 => hbody A outer s H E f c' hr2) hNg hva hd hcd) hco (h H1 eN T1)
    exact ⟨t', ht'.nox, hq'⟩
  refine wpAny_call (codeAny_mono rc fun r s2 hq => ?_)
  rcases r with e | fl
  · exact (show False from hq).elim
  · cases fl with
    | ret u => exact I1.after hq
    | next => exact False.elim hq
    | brk => exact False.elim hq
    | cont => exact False.elim hq
end
theorem go_lam {T : List (Addr × Str)} {TT : (XK → Hp → VK → Prop) → Hp → VK → Prop} {t : XK → TE} {σ : L2.St} {H : Hp} {Q : VK} (h : LamX.Tabs T H) (k : ∀ H1, EdX [] H H1 → LamX.Tabs T H1 → TT (fun E H' Q' => t E σ H' Q') H1 Q) : LamX.tLam T TT t σ H Q :=
  ⟨h, fun H1 e t => k H1 (EdX.lam e) t⟩
theorem vals_refs : ∀ {as : List Addr} {us : List Value}, Vals (as.map V.ref) us → us = as.map Value.ref
  | [], _, h => by cases h; rfl
  | a :: r, _, h => by
    cases h with
    | cons h t =>
      have h : _ = Value.ref a := h
      rw [h, vals_refs t]; rfl
theorem kit_none {K : PySem.W.Frag} {D : Addr} : ∀ {as : List Addr}, (∀ c ∈ as, PySem.W.kitOne K (.ref D) (.ref c) = some false) → PySem.W.kitAny K (.ref D) (as.map Value.ref) = some false
  | [], _ => rfl
  | a :: r, h => by
    show PySem.W.kitAny K (.ref D) (Value.ref a :: r.map Value.ref) = some false
    unfold PySem.W.kitAny
    rw [h a List.mem_cons_self]
    exact kit_none fun c hc => h c (List.mem_cons_of_mem _ hc)
/-- isinstance(e, (C1, C2, ..)): of none of them -/
theorem go_isNo {K : PySem.W.Frag} {a D p : Addr} {fs : List (Str × V)} {as : List Addr} {H : Hp} {Q : VK} (hE : ErrAt H a D fs) (C : ExcC K D) (hp : H p = some (.tup (as.map V.ref))) (hk : ∀ c ∈ as, PySem.W.kitOne K (.ref D) (.ref c) = some false) (q : Q (.bl false) H) : rIsTT K [.ref a, .ref p] H Q :=
  ⟨a, D, p, fs, _, _, false, hE, C, rfl, hp, fun _ r => vals_refs r, kit_none hk, q⟩
/-- e.f, the written part named (in a suite that may raise the reading may not name the suite's own place) -/
theorem pe_fldK {X : Cx} {K : PySem.W.Frag} (h : X.K = K) {e : Expr} {f : Str} {pos : Pos} {ta : TE} (he : PE X e ta) (hb : attributeBase e f X.env (eval e X.env) = eval e X.env) : PE X (.Attribute e f pos) (tFld K ta f) := h ▸ pe_fld he hb
theorem go_DGet2 {td ty tx : TE} {σ : L2.St} {H : Hp} {Q : VK} (h : td σ H fun x H1 => ∃ a, x = .ref a ∧ IsD H1 a ∧ ty σ H1 fun y H2 => tx σ H2 fun z H3 => ∃ o, DGet H3 a y o ∧ Q (o.getD z) H3) : tDGet2 td ty tx σ H Q := h
/-- d.get(k, x) -/
theorem go_dget2 {d : Addr} {kvs : List (Key × V)} {k : Key} {z : V} {H : Hp} {Q : VK} (h : H d = some (.dK kvs)) (q : Q ((valV kvs k).getD z) H) : ∃ o, DGet H d (kV k) o ∧ Q (o.getD z) H := ⟨_, .k h, q⟩
/-! ### a def that makes lambdas -/
/-- the code object of the def at f is at c -/
def CodeOf (K : PySem.W.Frag) (f c : Addr) : Prop := ∀ (o : Obj) (fd : FuncData), K.lookup f = some o → o.data = .func fd → fd.code = .ref c
/-- the def at f makes lambdas of the name q, told in a table of T -/
structure LamAt (K : PySem.W.Frag) (mg : Str → Option Value) (base : Heap) (T : List (Addr × Str)) (f : Addr) (q : Str) (c P : Addr) : Prop where
  co : CodeOf K f c
  tb : LamX.TabB base mg c P
  me : (P, q) ∈ T
  un : ∀ p ∈ T, p.1 = P → p.2 = q
section
variable {P : Program} {w : World} {K : PySem.W.Frag} {mg : Str → Option Value} {base : Heap} {x qual : Str} {st : Stmt} {f c : Addr} {fd : FuncData} {N ps : List Str} {k : Nat} {sp : Sp}
theorem Fun.okGL (F : Fun K x qual st f fd) (hc : CodeOf K f c) (S : FnScope N ps (defScope st)) (len : ∀ vs H Q E, sp vs H Q E → vs.length = ps.length)
    (hbody : ∀ (A : Around) (outer : List Env) (s : Shared) (H : Hp) (vs : List V) (Q : VK) (E : XK), (A.deeper (envOfC qual (defScope st) s.heap.objs.size f (.ref c))).guards = some [] → Room k (A.deeper (envOfC qual (defScope st) s.heap.objs.size f (.ref c))) → sp vs H Q E →
      ∃ t, PSs (cxOf CX0 P w K mg base N qual (defScope st) f (.ref c) A outer s H E).nox (defBody st) t ∧ t { nx := fun _ H' => Q .non H', rt := Q } (L2.start N vs) H) : FnG P w K mg base CX0 (k + 1) f fd ps sp := by
  obtain ⟨oc, od, kV, doc, pm, an, cdv, ct, osl, rfl, lk, hcd⟩ := F.ex
  obtain rfl : cdv = .ref c := hc _ _ lk rfl
  refine ⟨len, fun A outer s H args us vs Q E hg hr e0 hb r hsp => ?_⟩
  refine LamX.run_ofS lk hcd S hr e0 hb r (len _ _ _ _ hsp) fun hr' => ?_
  obtain ⟨t, h, q⟩ := hbody A outer s H vs Q E hg hr' hsp
  exact ⟨t, h.nox, q⟩
theorem Fun.okL (F : Fun K x qual st f fd) (hc : CodeOf K f c) (S : FnScope N ps (defScope st)) (len : ∀ vs H Q E, sp vs H Q E → vs.length = ps.length)
    (hbody : ∀ (A : Around) (outer : List Env) (s : Shared) (H : Hp) (vs : List V) (Q : VK) (E : XK), Room k (A.deeper (envOfC qual (defScope st) s.heap.objs.size f (.ref c))) → sp vs H Q E →
      ∃ t, PSs (cxOf CX0 P w K mg base N qual (defScope st) f (.ref c) A outer s H E).nox (defBody st) t ∧ t { nx := fun _ H' => Q .non H', rt := Q } (L2.start N vs) H) : FnOk P w K mg base CX0 (k + 1) f fd ps sp := by
  obtain ⟨oc, od, kV, doc, pm, an, cdv, ct, osl, rfl, lk, hcd⟩ := F.ex
  obtain rfl : cdv = .ref c := hc _ _ lk rfl
  refine ⟨len, fun A outer s H args us vs Q E hr e0 hb r hsp => ?_⟩
  refine LamX.run_ofS lk hcd S hr e0 hb r (len _ _ _ _ hsp) fun hr' => ?_
  obtain ⟨t, h, q⟩ := hbody A outer s H vs Q E hr' hsp
  exact ⟨t, h.nox, q⟩
end
end Vc

/-! Xte: the end of a law whose def is an FnG and whose defs make lambdas: the tables of their code objects are known from the start (my own). -/
namespace Vc
open PySem PySem.Spec PyProof.Rows L2
/-- the def at f has its code at c, whose table is at P -/
def lamB (K : PySem.W.Frag) (f c P : Addr) : Bool :=
  (match K.lookup f with | some o => (match o.data with | .func fd => (match fd.code with | .ref c' => c' == c | _ => false) | _ => false) | none => false) && (PySem.W.codeHdIn K c P && (K.lookup P).isNone)
theorem lamB_ok {K : PySem.W.Frag} {f c P : Addr} (h : lamB K f c P = true) : (∃ (o : Obj) (fd : FuncData), K.lookup f = some o ∧ o.data = .func fd ∧ fd.code = .ref c) ∧ PySem.W.codeHdIn K c P = true ∧ K.lookup P = none := by
  unfold lamB at h
  rw [Bool.and_eq_true, Bool.and_eq_true] at h
  obtain ⟨h1, h2, h3⟩ := h
  refine ⟨?_, h2, Option.isNone_iff_eq_none.mp h3⟩
  cases e : K.lookup f with
  | none => rw [e] at h1; cases h1
  | some o =>
    rw [e] at h1
    cases d : o.data with
    | func fd =>
      simp only [d] at h1
      cases q : fd.code with
      | ref c' =>
        simp only [q] at h1
        exact ⟨o, fd, rfl, d, by rw [q, beq_iff_eq.mp h1]⟩
      | _ => simp only [q] at h1; cases h1
    | _ => simp only [d] at h1; cases h1
theorem lamB_co {K : PySem.W.Frag} {f c P : Addr} (h : lamB K f c P = true) : CodeOf K f c := fun o fd l d => by
  obtain ⟨o', fd', l', d', e⟩ := (lamB_ok h).1
  rw [l] at l'
  obtain rfl := Option.some.inj l'
  rw [d] at d'
  obtain rfl := Data.func.inj d'
  exact e
/-- an empty table -/
def Tab0 (h : Heap) (P : Addr) : Prop := h.get? P = some { cls := .none, data := .fields #[] }
/-- a maker's table is empty behind the start -/
theorem tab0_of {q : Program} {loose : List Str} {mean : ExcName → Option Value} {mg mb : Str → Option Value} {h : Heap} {K : PySem.W.Frag} {n : Str} {f c P : Addr} (T : Top q loose mean mg mb h) (X : K.In h) (hr : ((recsOf q).any fun e => e.name == n) = true) (hm : mg n = some (.ref f)) (hl : lamB K f c P = true) : Tab0 h P ∧ PySem.W.CodeHd h c P ∧ K.lookup P = none := by
  obtain ⟨⟨o, fd, l, d, e⟩, hc, nP⟩ := lamB_ok hl
  have C := PySem.W.codeHd_of_K X hc
  refine ⟨?_, C, nP⟩
  obtain ⟨r, hr1, hr2⟩ := List.any_eq_true.mp hr
  obtain ⟨a, o1, fd1, c1, P1, t1, t2, t3, t4, _, ⟨u, vs, u1, _, u3, u4⟩, t6⟩ := T.tab r hr1
  rw [beq_iff_eq.mp hr2, hm] at t1
  injection t1 with t1
  injection t1 with t1
  subst t1
  rw [X _ _ l] at t2
  obtain rfl := Option.some.inj t2
  rw [d] at t3
  obtain rfl := Data.func.inj t3
  rw [e] at t4
  injection t4 with t4
  subst t4
  obtain ⟨v, ws, _, _, _, _, _, _, _, v1, _, v3, v4, _⟩ := C
  rw [u1] at v1
  obtain rfl := Option.some.inj v1
  rw [u3] at v3
  obtain rfl := Data.fields.inj v3
  rw [u4] at v4
  injection v4 with v4
  injection v4 with v4
  rw [← v4]; exact t6
section
variable {P : Program} {w : World} {K : PySem.W.Frag} {mg mb : Str → Option Value} {k : Nat} {fa a : Addr} {fd : FuncData} {x : Str} {sp : Sp} {s₁ : Shared} {vs : List Value} {ns : List Int} {cs : List (Addr × Addr)}
/-- the script's object, locked, or an empty table -/
def Few (H : Hp) (a : Addr) (cs : List (Addr × Addr)) : Prop := ∀ b u, H b = some u → (b = a ∧ ∃ o ys, u = .frz o (.lst ys)) ∨ ((∃ p ∈ cs, p.2 = b) ∧ u = .tbl #[])
theorem few_call {H : Hp} (KX : K.In s₁.heap) (hns : s₁.heap.Ns mainGlobals mg) (hb : s₁.heap.Ns builtinsNs mb) (hbb : ∀ y : Str, y ≠ "__name__" → mb y = bootBuiltins y) (hlim : s₁.heap.NoLimit) (hg : s₁.gens = #[])
    (hbm : ∃ (bm : Addr) (ob : Obj), mg "__builtins__" = some (.ref bm) ∧ bm ≠ builtinsNs ∧ s₁.heap.get? bm = some ob ∧ ob.cls = .type "module" ∧ ob.dict = some builtinsNs ∧ ob.data = .plain)
    (hT : ∀ p ∈ cs, Tab0 s₁.heap p.2) (nT : ∀ p ∈ cs, K.lookup p.2 = none) (hC : ∀ p ∈ cs, PySem.W.CodeHd s₁.heap p.1 p.2)
    (ha : s₁.heap.get? a = some { cls := .type "list", data := .seq vs.toArray }) (hr : Room k callerA) (F : ∀ base : Heap, K.In base → base.Ns mainGlobals mg → (∀ p ∈ cs, LamX.TabB base mg p.1 p.2) → FnG P w K mg base CX0 k fa fd [x] sp) (hbind : ∀ (s : Shared) (u : Value), BindsTo s fd ⟨[u], []⟩ [(x, u)])
    (L : Few H a cs) (hok : HOk P w H s₁.heap) (nk : H a ≠ none → K.lookup a = none) (hsp : sp [.ref a] H (fun v _ => v = .bl true) E0) :
    codeAny (model P w) callerA (.call (.ref fa) ⟨[.ref a], []⟩) (fun r s' => r = .ok (.ret (.bool true)) ∧ OldK s₁.heap s'.heap ∧ s'.os = s₁.os ∧ AllBare s'.gens) s₁ := by
  -- an object that is neither the script's nor a table is not tracked
  have un : ∀ {b : Addr} {o : Obj}, s₁.heap.get? b = some o → (b = a → False) → o.data ≠ .fields #[] → H b = none := fun {b o} e n1 n2 => by
    cases q : H b with
    | none => rfl
    | some u =>
      rcases L b u q with ⟨z, _⟩ | ⟨⟨p, hp, z⟩, _⟩
      · exact (n1 z).elim
      · have := hT p hp
        rw [z] at this
        rw [show s₁.heap.get? b = some _ from this] at e
        rw [← Option.some.inj e] at n2
        exact (n2 rfl).elim
  have notA : ∀ {b : Addr} {o : Obj}, s₁.heap.get? b = some o → (∀ xs n, o.data ≠ .seq xs n) → b = a → False := fun {b o} e n z => by
    rw [z, ha] at e
    rw [← Option.some.inj e] at n
    exact n _ _ rfl
  have keep : ∀ {b : Addr} {o : Obj}, s₁.heap.get? b = some o → (∀ xs n, o.data ≠ .seq xs n) → o.data ≠ .fields #[] → (hidT s₁.heap H).get? b = some o := fun e n1 n2 => hidT_get e (un e (notA e n1) n2)
  have ns_keep : ∀ {b : Addr} {m : Str → Option Value}, s₁.heap.Ns b m → (hidT s₁.heap H).Ns b m := fun {b m} h => by
    obtain ⟨o, es, ep, e, d, r⟩ := h
    exact ⟨o, es, ep, keep e (fun _ _ z => by rw [d] at z; cases z) (fun z => by rw [d] at z; cases z), d, r⟩
  have k_in : K.In (hidT s₁.heap H) := fun b o e => hidT_get (KX b o e) <| by
    cases q : H b with
    | none => rfl
    | some u =>
      rcases L b u q with ⟨z, _⟩ | ⟨⟨p, hp, z⟩, _⟩
      · have := nk (by rw [← z, q]; exact Option.some_ne_none u)
        rw [← z, e] at this
        cases this
      · have := nT p hp
        rw [z, e] at this
        cases this
  have env : Env0 P w K mg (hidT s₁.heap H) callerA [] s₁ H := by
    obtain ⟨mc, c1, c2⟩ := hlim
    exact { frames := rfl, mod := ⟨k_in, ns_keep hns, ⟨mb, ns_keep hb, hbb⟩, mc, ns_keep c1, c2⟩, bs := fun _ _ e => of_hidT e, bsz := Nat.le_of_eq (hidT_size _ _), funs := trivial, frf := fun _ z => (nomatch (show _ ∈ ([] : List Addr) from z)), hok := hok, bare := .of_eq hg }
  have TB : ∀ p ∈ cs, LamX.TabB (hidT s₁.heap H) mg p.1 p.2 := fun p hp => by
    have t0 := hT p hp
    refine ⟨?_, ?_, ?_⟩
    · obtain ⟨o, us, c1, c2, c3, c4, c5, c6, c7, e1, r1, r2, r3, r⟩ := hC p hp
      refine ⟨o, us, c1, c2, c3, c4, c5, c6, c7, keep e1 (fun _ _ z => by rw [r2] at z; cases z) (fun z => ?_), r1, r2, r3, r⟩
      rw [r2] at z
      rw [Data.fields.inj z] at r3
      cases r3
    · obtain ⟨bm, ob, b1, b2, b3, b4, b5, b6⟩ := hbm
      refine ⟨bm, ob, b1, b2, fun z => ?_, fun z => ?_, keep b3 (fun _ _ z => by rw [b6] at z; cases z) (fun z => by rw [b6] at z; cases z), b4, b5, b6⟩
      · obtain ⟨o, es, ep, e, d, _⟩ := hns
        rw [← z, b3] at e
        rw [← Option.some.inj e, b6] at d
        cases d
      · rw [z, show s₁.heap.get? p.2 = some _ from t0] at b3
        rw [← Option.some.inj b3] at b6
        cases b6
    · intro z
      obtain ⟨o, es, ep, e, d, _⟩ := hns
      rw [z, show s₁.heap.get? p.2 = some _ from t0] at e
      rw [← Option.some.inj e] at d
      cases d
  have go := (F _ k_in (ns_keep hns) TB).run callerA [] s₁ H ⟨[.ref a], []⟩ [.ref a] [.ref a] (fun v _ => v = .bl true) E0 rfl hr env (hbind s₁ (.ref a)) (.cons rfl .nil) hsp
  refine codeAny_mono go fun r s' hq => ?_
  rcases r with e | fl
  · exact False.elim hq
  cases fl with
  | next => exact False.elim hq
  | brk => exact False.elim hq
  | cont => exact False.elim hq
  | ret u =>
    obtain ⟨v, H', os, bare, u2, hok', rv, ev⟩ := hq
    have ev : v = .bl true := ev
    rw [ev] at rv
    cases rv
    have old : ∀ b o, s₁.heap.get? b = some o → asItWas s₁.heap s'.heap b o ∧ ∃ o', s'.heap.get? b = some o' := fun b o e => by
      cases q : H b with
      | none =>
        have := u2.keep b o e q (fun z => nomatch (show b ∈ ([] : List Addr) from z)) (fun z => nomatch (show b ∈ ([] : List Addr) from z))
        exact ⟨.inl this, _, this⟩
      | some v2 =>
        rcases L b v2 q with ⟨_, ob, ys, ez⟩ | ⟨⟨p, hp, ez⟩, et⟩
        · rw [ez] at q
          have o1 := (hok b _ q).1
          have o2 := (hok' b _ (u2.frzs b ob _ q)).1
          rw [e] at o1
          rw [← Option.some.inj o1] at o2
          exact ⟨.inl o2, _, o2⟩
        · rw [et] at q
          obtain ⟨more, hm⟩ := u2.tbls b #[] q
          have g := hok' b _ hm
          have g : s'.heap.get? b = some { cls := .none, data := .fields (#[] ++ more) } := g
          have t0 := hT p hp
          have tc := ((hC p hp).tab t0).isCodeTable
          rw [ez] at t0 tc
          rw [show s₁.heap.get? b = some _ from t0] at e
          rw [← Option.some.inj e]
          exact ⟨.inr (.inl ⟨tc, rfl, #[], more, rfl, g⟩), _, g⟩
    exact ⟨rfl, ⟨fun b o e => (old b o e).1, fun b o e => (old b o e).2⟩, os, bare⟩
theorem law_callGT (KX : K.In s₁.heap) (hns : s₁.heap.Ns mainGlobals mg) (hb : s₁.heap.Ns builtinsNs mb) (hbb : ∀ y : Str, y ≠ "__name__" → mb y = bootBuiltins y) (hlim : s₁.heap.NoLimit) (hg : s₁.gens = #[])
    (hbm : ∃ (bm : Addr) (ob : Obj), mg "__builtins__" = some (.ref bm) ∧ bm ≠ builtinsNs ∧ s₁.heap.get? bm = some ob ∧ ob.cls = .type "module" ∧ ob.dict = some builtinsNs ∧ ob.data = .plain)
    (hT : ∀ p ∈ cs, Tab0 s₁.heap p.2) (nT : ∀ p ∈ cs, K.lookup p.2 = none) (hC : ∀ p ∈ cs, PySem.W.CodeHd s₁.heap p.1 p.2)
    (ha : s₁.heap.get? a = some { cls := .type "list", data := .seq vs.toArray }) (hi : IntsAre vs ns) (hl : ns.length ≤ sizeLine) (hr : Room k callerA) (F : ∀ base : Heap, K.In base → base.Ns mainGlobals mg → (∀ p ∈ cs, LamX.TabB base mg p.1 p.2) → FnG P w K mg base CX0 k fa fd [x] sp) (hbind : ∀ (s : Shared) (u : Value), BindsTo s fd ⟨[u], []⟩ [(x, u)])
    (hsp : ∀ H : Hp, (∀ p ∈ cs, H p.2 = some (.tbl #[])) → SqL K H a (ns.map V.int) → sp [.ref a] H (fun v _ => v = .bl true) E0) :
    codeAny (model P w) callerA (.call (.ref fa) ⟨[.ref a], []⟩) (fun r s' => r = .ok (.ret (.bool true)) ∧ OldK s₁.heap s'.heap ∧ s'.os = s₁.os ∧ AllBare s'.gens) s₁ := by
  have rv := vals_ints hi
  have len : vs.length = ns.length := hi.length
  have aT : ∀ p ∈ cs, p.2 ≠ a := fun p hp z => by
    have := hT p hp
    rw [z] at this
    rw [show s₁.heap.get? a = some _ from this] at ha
    cases ha
  -- the heap of the tables alone
  generalize hH0 : (fun b => if ∃ p ∈ cs, p.2 = b then some (.tbl #[]) else none : Hp) = H0
  have t0 : ∀ p ∈ cs, H0 p.2 = some (.tbl #[]) := fun p hp => by rw [← hH0]; exact if_pos ⟨p, hp, rfl⟩
  have only0 : ∀ b u, H0 b = some u → (∃ p ∈ cs, p.2 = b) ∧ u = .tbl #[] := fun b u e => by
    rw [← hH0] at e
    by_cases z : ∃ p ∈ cs, p.2 = b
    · have e : (if ∃ p ∈ cs, p.2 = b then some (HO.tbl #[]) else none) = some u := e
      rw [if_pos z] at e
      exact ⟨z, (Option.some.inj e).symm⟩
    · have e : (if ∃ p ∈ cs, p.2 = b then some (HO.tbl #[]) else none) = some u := e
      rw [if_neg z] at e
      cases e
  have a0 : H0 a = none := by
    cases q : H0 a with
    | none => rfl
    | some u =>
      obtain ⟨⟨p, hp, z⟩, _⟩ := only0 a u q
      exact (aT p hp z).elim
  have okT : ∀ b u, H0 b = some u → ObjOk P w H0 s₁.heap b u := fun b u e => by
    obtain ⟨⟨p, hp, z⟩, eu⟩ := only0 b u e
    rw [eu, ← z]
    exact hT p hp
  cases hk : K.lookup a with
  | some o =>
    have e := KX a o hk
    rw [ha] at e
    injection e with e
    subst e
    exact few_call (H := H0) KX hns hb hbb hlim hg hbm hT nT hC ha hr F hbind (fun b u e => .inr (only0 b u e)) okT (fun z => (z a0).elim) (hsp H0 t0 (.inr ⟨_, vs.toArray, _, hk, rfl, rfl, rfl, by rw [List.size_toArray, len]; exact hl, by simpa using rv⟩))
  | none =>
    generalize ho : ({ cls := .type "list", data := .seq vs.toArray } : Obj) = ob at ha
    generalize hH : upd H0 a (.frz ob (.lst (ns.map V.int))) = H
    have at_a : H a = some (.frz ob (.lst (ns.map V.int))) := by rw [← hH]; exact upd_same
    have off : ∀ b, b ≠ a → H b = H0 b := fun b n => by rw [← hH]; exact upd_ne n
    refine few_call (H := H) KX hns hb hbb hlim hg hbm hT nT hC (by rw [ha, ho]) hr F hbind (fun b u e => ?_) (fun b u e => ?_) (fun _ => hk) (hsp H (fun p hp => by rw [off _ (aT p hp)]; exact t0 p hp) (.inl (.inr ⟨ob, at_a⟩)))
    · by_cases z : b = a
      · rw [z, at_a] at e
        exact .inl ⟨z, ob, _, (Option.some.inj e).symm⟩
      · rw [off b z] at e
        exact .inr (only0 b u e)
    · by_cases z : b = a
      · rw [z, at_a] at e
        rw [z, ← Option.some.inj e]
        exact ⟨ha, by rw [List.length_map]; exact hl, vs, 0, rv, by rw [ha, ← ho]⟩
      · rw [off b z] at e
        obtain ⟨⟨p, hp, zp⟩, eu⟩ := only0 b u e
        rw [eu, ← zp]
        exact hT p hp
end
theorem walk_ofGT {l : PySem.W.OpenLaw} {n k : Nat} {q : Program} {loose : List Str} {XP : (Str → Option Value) → Heap → Prop} {YP : World → Heap → Prop} {d : DefRec} {K : Params → PySem.W.Frag} {sp : World → Sp} {x : Str} {cs : List (Addr × Addr)}
    (hn : l.most = some n) (hn2 : n ≤ sizeLine) (hdf : d.params.defaults = []) (hr : Room k callerA) (hY : ∀ (w : World) (h : Heap), YP w h → (K w.params).In h)
    (F : ∀ (w : World) (mg : Str → Option Value) (fa : Addr) (h : Heap), (K w.params).In h → h.Ns mainGlobals mg → mg d.name = some (.ref fa) →
      (∀ p ∈ cs, ∃ (y : Str) (f : Addr), ((recsOf q).any fun e => e.name == y) = true ∧ mg y = some (.ref f) ∧ lamB (K w.params) f p.1 p.2 = true) ∧
      ∃ fd : FuncData, (∀ (s : Shared) (u : Value), BindsTo s fd ⟨[u], []⟩ [(x, u)]) ∧ ∀ base : Heap, (K w.params).In base → base.Ns mainGlobals mg → (∀ p ∈ cs, LamX.TabB base mg p.1 p.2) → FnG l.prog w (K w.params) mg base CX0 k fa fd [x] (sp w))
    (hsp : ∀ (w : World) (H : Hp) (a : Addr) (ns : List Int), ns.length ≤ n → (∀ p ∈ cs, H p.2 = some (.tbl #[])) → SqL (K w.params) H a (ns.map V.int) → sp w [.ref a] H (fun v _ => v = .bl true) E0) :
    PySem.W.WalkO q loose XP YP l.row.toRowW d [] (fun f vs => PySem.call f vs) := by
  refine Att.attach_call hn hdf fun w s₀ s₁ mg mb fa o pm cd doc a vs ns G Y ho hd hcd hmg hobj hints hlen hg => ?_
  obtain ⟨hcs, fd, hb, hF⟩ := F w mg fa _ (hY w _ Y) G.T.g hmg
  have tb : ∀ p ∈ cs, Tab0 s₁.heap p.2 ∧ PySem.W.CodeHd s₁.heap p.1 p.2 ∧ (K w.params).lookup p.2 = none := fun p hp => by
    obtain ⟨y, f, h1, h2, h3⟩ := hcs p hp
    exact tab0_of G.T (hY w _ Y) h1 h2 h3
  exact law_callGT (hY w _ Y) G.T.g G.T.b G.T.builtins G.T.nolimit hg G.T.bmain (fun p hp => (tb p hp).1) (fun p hp => (tb p hp).2.2) (fun p hp => (tb p hp).2.1) hobj hints (Nat.le_trans hlen hn2) hr hF hb fun H hT hS => hsp w H a ns hlen hT hS
/-- the tables of the start -/
theorem tabs0 {cs : List (Addr × Addr)} {T : List (Addr × Str)} {H : Hp} (h : ∀ p ∈ cs, H p.2 = some (.tbl #[])) (hT : ∀ t ∈ T, ∃ p ∈ cs, p.2 = t.1) : LamX.Tabs T H := fun t ht => by
  obtain ⟨p, hp, e⟩ := hT t ht
  exact ⟨#[], by rw [← e]; exact h p hp, trivial, fun pos cv hc => (nomatch hc)⟩
/-- two makers' tables -/
theorem un2 {P1 P2 : Addr} {q1 q2 : Str} (ne : P1 ≠ P2) : (∀ p ∈ [(P1, q1), (P2, q2)], p.1 = P1 → p.2 = q1) ∧ ∀ p ∈ [(P1, q1), (P2, q2)], p.1 = P2 → p.2 = q2 := by
  refine ⟨fun p hp z => ?_, fun p hp z => ?_⟩
  · rcases List.mem_cons.mp hp with h | h
    · rw [h]
    · rw [List.mem_singleton.mp h] at z
      exact (ne z.symm).elim
  · rcases List.mem_cons.mp hp with h | h
    · rw [h] at z
      exact (ne z).elim
    · rw [List.mem_singleton.mp h]
/-- three makers' tables -/
theorem un3 {P1 P2 P3 : Addr} {q1 q2 q3 : Str} (n1 : P1 ≠ P2) (n2 : P1 ≠ P3) (n3 : P2 ≠ P3) : (∀ p ∈ [(P1, q1), (P2, q2), (P3, q3)], p.1 = P1 → p.2 = q1) ∧ (∀ p ∈ [(P1, q1), (P2, q2), (P3, q3)], p.1 = P2 → p.2 = q2) ∧ ∀ p ∈ [(P1, q1), (P2, q2), (P3, q3)], p.1 = P3 → p.2 = q3 := by
  refine ⟨fun p hp z => ?_, fun p hp z => ?_, fun p hp z => ?_⟩ <;> simp only [List.mem_cons, List.not_mem_nil, or_false] at hp <;> rcases hp with h | h | h <;> rw [h] at z ⊢
  · exact (n1 z.symm).elim
  · exact (n2 z.symm).elim
  · exact (n1 z).elim
  · exact (n3 z.symm).elim
  · exact (n2 z).elim
  · exact (n3 z).elim
end Vc

/-! Xad: x + y of two own classes, of a built-in and an own one by __radd__; what is raised passes (my own). -/
namespace Vc
open PySem PySem.Spec PyProof.Rows L2
open PySem.W in
/-- x + y, x of C, y of D: x's own method is asked first, for D is no subclass of C -/
theorem binop_two {prog : Program} {w : World} {A : Around} {E : Value → Shared → Prop} {s : Shared} {K : Frag} {x C D L f : Addr} {h₀ : Heap} {m : Str → Option Value} {ox : Obj} {od : Option Obj} {op : Operator} {b : Value} {rc rd : Option Value} {Q : Value → Shared → Prop}
    (F : Fr h₀ L s.heap m) (X₀ : K.In h₀) (I : InstAt s.heap x ox C od) (hb : Looks (model prog w) s.heap (typeOf b) (.ref D)) (hc : selfFirst K C = true)
    (hs : findIn K (.ref C) (PySem.dunder op.info.2) = some (some (.ref f))) (hf : isFn K (.ref f) = true) (hr : findIn K (.ref C) (dunderR op.info.2) = some rc) (hp : rc = none ∨ ∃ g : Addr, rc = some (.ref g))
    (hcd : selfFirst K D = true) (hds : ∃ g : Addr, findIn K (.ref D) (PySem.dunder op.info.2) = some (some (.ref g))) (hdr : findIn K (.ref D) (dunderR op.info.2) = some rd) (hdp : rd = none ∨ ∃ g : Addr, rd = some (.ref g)) (ne : C ≠ D) (hsub : subIn K (.ref D) (.ref C) = some false)
    (h : wpAny (model prog w) A (call (.ref f) [.ref x, b]) (PySem.W.CmpBack Q) E s) : wpAny (model prog w) A (binaryOp op (.ref x) b) Q E s := by
  have X := X₀.keeps F.keep
  obtain ⟨g, hds⟩ := hds
  obtain ⟨cd, rest, hcd1, hm⟩ := ksp_first hc
  obtain ⟨cd2, rest2, hcd2, hm2⟩ := ksp_first hcd
  rcases hi : op.info with ⟨sym, nm'⟩
  rw [hi] at hs hr hds hdr
  dsimp only at hs hr hds hdr
  have one := ksp_try X I hs hf h
  obtain ⟨hh, gg, dd, tt, os⟩ := s
  have L1 : Looks (model prog w) hh (typeOf (.ref x)) (.ref C) := I.type
  have L2 : Looks (model prog w) hh (typeOf b) (.ref D) := hb
  have L3 : Looks (model prog w) hh (fillsNumberSlot (.ref C) nm') true := fills_K X hcd1 hm hs
  have L4 : Looks (model prog w) hh (fillsNumberSlot (.ref D) nm') true := fills_K X hcd2 hm2 hds
  have L5 : Looks (model prog w) hh (isSubtype (.ref D) (.ref C)) false := looks_subIn X hsub
  have L6 : Looks (model prog w) hh (numberSlotInPython (.ref C) nm') true := ksp_inPy X hs hr hp
  have L7 : Looks (model prog w) hh (numberSlotInPython (.ref D) nm') true := ksp_inPy X hds hdr hdp
  have hne : (Value.ref C == Value.ref D) = false := Bool.eq_false_iff.mpr fun q => ne (by have := beq_iff_eq.mp q; cases this; rfl)
  simp only [binaryOp, hi]
  refine wpAny_holding (wpAny_bind ?_)
  unfold binaryOp1
  refine wpAny_bind (L1.at (wpAny_bind (L2.at (wpAny_bind (L3.at ?_)))))
  simp only [hne, Bool.false_eq_true, if_false]
  ksp_lk
  refine wpAny_mono one (fun r s' hr' => ?_) fun _ _ e => e
  obtain ⟨v, rfl, hq⟩ := hr'
  ksp_lk
  exact hq
open PySem.W in
/-- x + y, x of a built-in type without a number slot, y of D: y's reflected method -/
theorem binop_refl {prog : Program} {w : World} {A : Around} {E : Value → Shared → Prop} {s : Shared} {K : Frag} {y D L f : Addr} {T : String} {h₀ : Heap} {m : Str → Option Value} {oy : Obj} {od : Option Obj} {op : Operator} {a : Value} {fo ro : Option Value} {Q : Value → Shared → Prop}
    (F : Fr h₀ L s.heap m) (X₀ : K.In h₀) (I : InstAt s.heap y oy D od) (ha : Looks (model prog w) s.heap (typeOf a) (.type T))
    (h1 : findIn K (.type T) (PySem.dunder op.info.2) = some fo) (h2 : findIn K (.type T) (dunderR op.info.2) = some ro) (no : ((fo.isSome && !isSeqSlot fo) || (ro.isSome && !isSeqSlot ro)) = false)
    (hcd : selfFirst K D = true) (hds : ∃ g : Addr, findIn K (.ref D) (PySem.dunder op.info.2) = some (some (.ref g))) (hs : findIn K (.ref D) (dunderR op.info.2) = some (some (.ref f))) (hf : isFn K (.ref f) = true)
    (h : wpAny (model prog w) A (call (.ref f) [.ref y, a]) (PySem.W.CmpBack Q) E s) : wpAny (model prog w) A (binaryOp op a (.ref y)) Q E s := by
  have X := X₀.keeps F.keep
  obtain ⟨g, hds⟩ := hds
  obtain ⟨cd2, rest2, hcd2, hm2⟩ := ksp_first hcd
  rcases hi : op.info with ⟨sym, nm'⟩
  rw [hi] at hs hds h1 h2
  dsimp only at hs hds h1 h2
  have one := ksp_try X I hs hf h
  obtain ⟨hh, gg, dd, tt, os⟩ := s
  have L1 : Looks (model prog w) hh (typeOf a) (.type T) := ha
  have L2 : Looks (model prog w) hh (typeOf (.ref y)) (.ref D) := I.type
  have L3 : Looks (model prog w) hh (fillsNumberSlot (.type T) nm') false := no ▸ ksp_fillsT X h1 h2
  have L4 : Looks (model prog w) hh (fillsNumberSlot (.ref D) nm') true := fills_K X hcd2 hm2 hds
  have hne : (Value.type T == Value.ref D) = false := Bool.eq_false_iff.mpr fun q => by cases beq_iff_eq.mp q
  simp only [binaryOp, hi]
  refine wpAny_holding (wpAny_bind ?_)
  unfold binaryOp1
  refine wpAny_bind (L1.at (wpAny_bind (L2.at (wpAny_bind (L3.at ?_)))))
  simp only [hne, Bool.false_eq_true, if_false]
  ksp_lk
  refine wpAny_mono one (fun r s' hr' => ?_) fun _ _ e => e
  obtain ⟨v, rfl, hq⟩ := hr'
  ksp_lk
  exact hq
/-- none or a def -/
def fnN (v : Option (Option Value)) : Bool := match v with | some none => true | some (some (.ref _)) => true | _ => false
theorem fnN_ok {v : Option (Option Value)} (h : fnN v = true) : ∃ r : Option Value, v = some r ∧ (r = none ∨ ∃ g : Addr, r = some (.ref g)) := by
  match v, h with
  | some none, _ => exact ⟨_, rfl, .inl rfl⟩
  | some (some (.ref g)), _ => exact ⟨_, rfl, .inr ⟨g, rfl⟩⟩
def fnR (v : Option (Option Value)) : Bool := match v with | some (some (.ref _)) => true | _ => false
theorem fnR_ok {v : Option (Option Value)} (h : fnR v = true) : ∃ g : Addr, v = some (some (.ref g)) := by
  match v, h with
  | some (some (.ref g)), _ => exact ⟨g, rfl⟩
/-- C + D goes to C's own method -/
def twoB (K : PySem.W.Frag) (C D : Addr) : Bool := PySem.W.selfFirst K C && (fnN (PySem.W.findIn K (.ref C) "__radd__") && (PySem.W.selfFirst K D && (fnR (PySem.W.findIn K (.ref D) "__add__") && (fnN (PySem.W.findIn K (.ref D) "__radd__") && (C != D && PySem.W.subIn K (.ref D) (.ref C) == some false)))))
/-- list + D goes to D's reflected method -/
def reflB (K : PySem.W.Frag) (D : Addr) : Bool := (match PySem.W.findIn K (.type "list") "__add__", PySem.W.findIn K (.type "list") "__radd__" with | some fo, some ro => !((fo.isSome && !isSeqSlot fo) || (ro.isSome && !isSeqSlot ro)) | _, _ => false) && (PySem.W.selfFirst K D && fnR (PySem.W.findIn K (.ref D) "__add__"))
section
variable {X : Cx} {C D g : Addr} {fd : FuncData} {ps : List Str} {sp : Sp} {n : Nat} {CX : CXT} {E : L2.St → XK} {a b : Expr} {ta tb : TE} {pos : Pos}
def tAddS (K : PySem.W.Frag) (C D : Addr) (sp : Sp) (E : L2.St → XK) (ta tb : TE) : TE := fun σ H Q => ta σ H fun x H1 => tb σ H1 fun y H2 => ∃ (a dx : Addr) (fs : List (Str × V)), x = .ref a ∧ H2 a = some (.ins C dx fs) ∧ TyX K H2 y (.ref D) ∧ sp [.ref a, y] H2 (fun v H' => ∃ b, v = .ref b ∧ Q (.ref b) H') (E σ)
theorem ep_ref {pins : List (Addr × Obj)} {σ : L2.St} {Q : VK} {v : Value} {s : Shared} (h : EP X pins σ (fun v H' => ∃ b, v = .ref b ∧ Q (.ref b) H') v s) : PySem.W.CmpBack (EP X pins σ Q) v s := by
  obtain ⟨z, H', I', rz, b, rfl, q⟩ := h
  cases rz
  exact ⟨.ref b, H', I', rfl, q⟩
/-- x + y by x's own __add__, y of another own class -/
theorem pe_addS (B : twoB X.K C D = true) (m : SpM X.K C g "__add__") (F : FnOk X.prog X.w X.K X.mg X.base CX n g fd ps sp) (hr : Room n X.A) (hb : Binds X.K fd ps []) (hx : ∀ σ, PassesAt CX X σ (E σ)) (ha : PE X a ta) (hb0 : PE X b tb) :
    PE X (.BinOp a .Add b pos) (tAddS X.K C D sp E ta tb) := by
  unfold twoB at B
  simp only [Bool.and_eq_true] at B
  obtain ⟨b1, b2, b3, b4, b5, b6, b7⟩ := B
  obtain ⟨rc, e2, p2⟩ := fnN_ok b2
  obtain ⟨g4, e4⟩ := fnR_ok b4
  obtain ⟨rd, e5, p5⟩ := fnN_ok b5
  refine ⟨fun pins s σ H Q I h => ?_⟩
  refine wpAny_BinOp (binT (R := fun x y H2 => ∃ (a dx : Addr) (fs : List (Str × V)), x = .ref a ∧ H2 a = some (.ins C dx fs) ∧ TyX X.K H2 y (.ref D) ∧ sp [.ref a, y] H2 (fun v H' => ∃ b, v = .ref b ∧ Q (.ref b) H') (E σ)) ha hb0 I h fun v u s2 x y H2 I2 rx ry q => ?_)
  obtain ⟨p, dx, fs, rfl, hp, ty, q⟩ := q
  cases rx
  obtain ⟨mA, J, _⟩ := ins_get I2.hok hp
  obtain ⟨od, J, _⟩ := J.look
  obtain ⟨_, Z, pp, _⟩ := kit_of I2 ry ty
  obtain ⟨mm, hF⟩ := I2.fr
  exact binop_two (op := .Add) hF I2.ok.mod.kin J (Z.ty _ _ I2.kIn pp) b1 m.at_ m.fn e2 p2 b3 ⟨g4, e4⟩ e5 p5 (by simpa using b6) (beq_iff_eq.mp b7) (wpAny_mono (runOS (vs := [.ref p, y]) F hr hb (hx σ) I2 I2.env0 (.cons rfl (.cons ry .nil)) q) (fun w' s' hq => ep_ref hq) (fun _ _ e => e))
/-- x + y, x a list, by y's own __radd__ -/
def tRaddS (K : PySem.W.Frag) (D : Addr) (sp : Sp) (E : L2.St → XK) (ta tb : TE) : TE := fun σ H Q => ta σ H fun x H1 => tb σ H1 fun y H2 => ∃ (a dx : Addr) (fs : List (Str × V)), y = .ref a ∧ H2 a = some (.ins D dx fs) ∧ TyX K H2 x (.type "list") ∧ sp [.ref a, x] H2 (fun v H' => ∃ b, v = .ref b ∧ Q (.ref b) H') (E σ)
theorem pe_raddS (B : reflB X.K D = true) (m : SpM X.K D g "__radd__") (F : FnOk X.prog X.w X.K X.mg X.base CX n g fd ps sp) (hr : Room n X.A) (hb : Binds X.K fd ps []) (hx : ∀ σ, PassesAt CX X σ (E σ)) (ha : PE X a ta) (hb0 : PE X b tb) :
    PE X (.BinOp a .Add b pos) (tRaddS X.K D sp E ta tb) := by
  unfold reflB at B
  rw [Bool.and_eq_true, Bool.and_eq_true] at B
  obtain ⟨b1, b2, b3⟩ := B
  obtain ⟨g4, e4⟩ := fnR_ok b3
  obtain ⟨fo, ro, e1, e2, no⟩ : ∃ fo ro, PySem.W.findIn X.K (.type "list") "__add__" = some fo ∧ PySem.W.findIn X.K (.type "list") "__radd__" = some ro ∧ ((fo.isSome && !isSeqSlot fo) || (ro.isSome && !isSeqSlot ro)) = false := by
    cases h1 : PySem.W.findIn X.K (.type "list") "__add__" with
    | none => rw [h1] at b1; cases b1
    | some fo =>
      cases h2 : PySem.W.findIn X.K (.type "list") "__radd__" with
      | none => rw [h1, h2] at b1; cases b1
      | some ro =>
        rw [h1, h2] at b1
        exact ⟨fo, ro, rfl, rfl, by
          have b1 : (!((fo.isSome && !isSeqSlot fo) || (ro.isSome && !isSeqSlot ro))) = true := b1
          revert b1
          generalize ((fo.isSome && !isSeqSlot fo) || (ro.isSome && !isSeqSlot ro)) = z
          cases z <;> simp⟩
  refine ⟨fun pins s σ H Q I h => ?_⟩
  refine wpAny_BinOp (binT (R := fun x y H2 => ∃ (a dx : Addr) (fs : List (Str × V)), y = .ref a ∧ H2 a = some (.ins D dx fs) ∧ TyX X.K H2 x (.type "list") ∧ sp [.ref a, x] H2 (fun v H' => ∃ b, v = .ref b ∧ Q (.ref b) H') (E σ)) ha hb0 I h fun v u s2 x y H2 I2 rx ry q => ?_)
  obtain ⟨p, dx, fs, rfl, hp, ty, q⟩ := q
  cases ry
  obtain ⟨mA, J, _⟩ := ins_get I2.hok hp
  obtain ⟨od, J, _⟩ := J.look
  obtain ⟨_, Z, pp, _⟩ := kit_of I2 rx ty
  obtain ⟨mm, hF⟩ := I2.fr
  exact binop_refl (op := .Add) hF I2.ok.mod.kin J (Z.ty _ _ I2.kIn pp) e1 e2 no b2 ⟨g4, e4⟩ m.at_ m.fn (wpAny_mono (runOS (vs := [.ref p, x]) F hr hb (hx σ) I2 I2.env0 (.cons rfl (.cons rx .nil)) q) (fun w' s' hq => ep_ref hq) (fun _ _ e => e))
end
open PySem.W in
theorem fillsI_none {M : Model} {K : Frag} {C : Addr} {h : Heap} {cd : ClassData} (X : K.In h) (hc : clsIn K C = some cd) (hm : cd.mro = [.ref C, .type "object"]) (hs : findIn K (.ref C) "__iadd__" = some none) (ho : findIn K (.type "object") "__iadd__" = some none) : Looks M h (fillsInplaceSlot (.ref C) "add" true) false := by
  intro A Q E s k q
  have Lm : Looks M h (mroOf (.ref C)) cd.mro := (looks_clsIn X hc).andThen (f := fun cd => pure cd.mro) .now
  have Lm' := Lm.keeps k
  obtain ⟨hh, g, d, tt, os⟩ := s
  have X' : K.In hh := X.keeps k
  have L1 : Looks M hh (typeLookup (.ref C) "__iadd__") none := looks_findIn X' hs
  have L2 : Looks M hh (typeLookup (.type "object") "__iadd__") none := looks_findIn X' ho
  have L1' : Looks M hh (typeLookup (.ref C) (dunderI "add")) none := L1
  have L2' : Looks M hh (typeLookup (.type "object") (dunderI "add")) none := L2
  unfold fillsInplaceSlot
  refine wpAny_bind (Lm'.at ?_)
  rw [hm, List.anyM_cons]
  refine wpAny_bind ?_
  repeat lk
  exact q
open PySem.W in
/-- x += y where x's class has no __iadd__: x + y, y of the same class -/
theorem inplace_fall {prog : Program} {w : World} {A : Around} {E : Value → Shared → Prop} {s : Shared} {K : Frag} {x C L f : Addr} {h₀ : Heap} {m : Str → Option Value} {ox : Obj} {od : Option Obj} {b : Value} {cd : ClassData} {Q : Value → Shared → Prop}
    (F : Fr h₀ L s.heap m) (X₀ : K.In h₀) (I : InstAt s.heap x ox C od) (hb : Looks (model prog w) s.heap (typeOf b) (.ref C)) (hcd : clsIn K C = some cd) (hm : cd.mro = [.ref C, .type "object"])
    (hi : findIn K (.ref C) "__iadd__" = some none) (ho : findIn K (.type "object") "__iadd__" = some none) (hs : findIn K (.ref C) "__add__" = some (some (.ref f))) (hf : isFn K (.ref f) = true)
    (h : wpAny (model prog w) A (call (.ref f) [.ref x, b]) (PySem.W.CmpBack Q) E s) : wpAny (model prog w) A (inplaceOp .Add (.ref x) b) Q E s := by
  have X := X₀.keeps F.keep
  have one := ksp_try X I hs hf h
  obtain ⟨hh, gg, dd, tt, os⟩ := s
  have L1 : Looks (model prog w) hh (typeOf (.ref x)) (.ref C) := I.type
  have L2 : Looks (model prog w) hh (typeOf b) (.ref C) := hb
  have L3 : Looks (model prog w) hh (fillsInplaceSlot (.ref C) "add" true) false := fillsI_none X hcd hm hi ho
  have L4 : Looks (model prog w) hh (fillsNumberSlot (.ref C) "add") true := fills_K X hcd hm hs
  have one : wpAny (model prog w) A (tryMethod (.ref x) (PySem.dunder "add") b) (fun r s' => ∃ v, r = some v ∧ Q v s') E ⟨hh, gg, dd, tt, os⟩ := one
  unfold inplaceOp
  refine wpAny_holding ?_
  refine wpAny_bind (L1.at ?_)
  refine wpAny_bind (L3.at ?_)
  simp only [Bool.false_eq_true, if_false]
  refine wpAny_bind (m := binaryOp1 "add" (.ref x) b) ?_
  unfold binaryOp1
  refine wpAny_bind (L1.at (wpAny_bind (L2.at (wpAny_bind (L4.at ?_)))))
  simp only [beq_self_eq_true, if_true]
  ksp_lk
  refine wpAny_mono one (fun r s' hr' => ?_) fun _ _ e => e
  obtain ⟨v, rfl, hq⟩ := hr'
  ksp_lk
  exact hq
/-- x += y stays x + y: the class has no __iadd__ -/
def fallB (K : PySem.W.Frag) (C : Addr) : Bool := (match PySem.W.clsIn K C with | some cd => cd.mro == [.ref C, .type "object"] | none => false) && (PySem.W.findIn K (.ref C) "__iadd__" == some none && PySem.W.findIn K (.type "object") "__iadd__" == some none)
section
variable {X : Cx} {C g : Addr} {fd : FuncData} {ps : List Str} {sp : Sp} {n : Nat} {CX : CXT} {E : XK}
/-- x += y by x's own __iadd__ -/
def rIaddO (C : Addr) (sp : Sp) (E : XK) : TIp := fun x y H Q => ∃ (a dx : Addr) (fs : List (Str × V)), x = .ref a ∧ H a = some (.ins C dx fs) ∧ sp [.ref a, y] H (fun v H' => ∃ b, v = .ref b ∧ Q (.ref b) H') E
theorem pip_iaddO (sf : PySem.W.selfFirst X.K C = true) (m : SpM X.K C g "__iadd__") (F : FnOk X.prog X.w X.K X.mg X.base CX n g fd ps sp) (hr : Room n X.A) (hb : Binds X.K fd ps []) (hx : ∀ σ, PassesAt CX X σ E) : PIp X .Add (rIaddO C sp E) := by
  intro pins s σ H x y v u Q I rx ry h
  obtain ⟨p, dx, fs, rfl, hp, q⟩ := h
  cases rx
  obtain ⟨mA, J, _⟩ := ins_get I.hok hp
  obtain ⟨od, J, _⟩ := J.look
  obtain ⟨mm, hF⟩ := I.fr
  exact PySem.W.ksp_inplace (op := .Add) hF I.ok.mod.kin J sf m.at_ m.fn (wpAny_mono (runOS (vs := [.ref p, y]) F hr hb (hx σ) I I.env0 (.cons rfl (.cons ry .nil)) q) (fun w' s' hq => ep_ref hq) (fun _ _ e => e))
/-- x += y by x's own __add__ -/
def rIaddF (K : PySem.W.Frag) (C : Addr) (sp : Sp) (E : XK) : TIp := fun x y H Q => ∃ (a dx : Addr) (fs : List (Str × V)), x = .ref a ∧ H a = some (.ins C dx fs) ∧ TyX K H y (.ref C) ∧ sp [.ref a, y] H (fun v H' => ∃ b, v = .ref b ∧ Q (.ref b) H') E
theorem pip_iaddF (B : fallB X.K C = true) (m : SpM X.K C g "__add__") (F : FnOk X.prog X.w X.K X.mg X.base CX n g fd ps sp) (hr : Room n X.A) (hb : Binds X.K fd ps []) (hx : ∀ σ, PassesAt CX X σ E) : PIp X .Add (rIaddF X.K C sp E) := by
  unfold fallB at B
  simp only [Bool.and_eq_true] at B
  obtain ⟨b1, b2, b3⟩ := B
  obtain ⟨cd, hcd, hm⟩ : ∃ cd, PySem.W.clsIn X.K C = some cd ∧ cd.mro = [.ref C, .type "object"] := by
    cases h1 : PySem.W.clsIn X.K C with
    | none => rw [h1] at b1; cases b1
    | some cd => rw [h1] at b1; exact ⟨cd, rfl, beq_iff_eq.mp b1⟩
  intro pins s σ H x y v u Q I rx ry h
  obtain ⟨p, dx, fs, rfl, hp, ty, q⟩ := h
  cases rx
  obtain ⟨mA, J, _⟩ := ins_get I.hok hp
  obtain ⟨od, J, _⟩ := J.look
  obtain ⟨_, Z, pp, _⟩ := kit_of I ry ty
  obtain ⟨mm, hF⟩ := I.fr
  exact inplace_fall hF I.ok.mod.kin J (Z.ty _ _ I.kIn pp) hcd hm (beq_iff_eq.mp b2) (beq_iff_eq.mp b3) m.at_ m.fn (wpAny_mono (runOS (vs := [.ref p, y]) F hr hb (hx σ) I I.env0 (.cons rfl (.cons ry .nil)) q) (fun w' s' hq => ep_ref hq) (fun _ _ e => e))
/-- x[i] = v by x's own __setitem__ -/
def rSetO (C : Addr) (sp : Sp) (E : XK) : TSet := fun o i v H Q => ∃ (a dx : Addr) (fs : List (Str × V)), o = .ref a ∧ H a = some (.ins C dx fs) ∧ sp [.ref a, i, v] H (fun _ H' => Q H') E
theorem set_own (nq : PySem.W.noSeq X.K C = true) (m : SpM X.K C g "__setitem__") (F : FnOk X.prog X.w X.K X.mg X.base CX n g fd ps sp) (hr : Room n X.A) (hb : Binds X.K fd ps []) (hx : ∀ σ, PassesAt CX X σ E) : PSet X (rSetO C sp E) := by
  intro pins s σ H o i v ov iv u Q I ro ri rv h
  obtain ⟨p, dx, fs, rfl, hp, q⟩ := h
  cases ro
  obtain ⟨mA, J, _⟩ := ins_get I.hok hp
  obtain ⟨od, J, _⟩ := J.look
  obtain ⟨mm, hF⟩ := I.fr
  refine PySem.W.ksp_setItem hF I.ok.mod.kin J nq m.at_ m.fn (wpAny_mono (runOS (vs := [.ref p, i, v]) F hr hb (hx σ) I I.env0 (.cons rfl (.cons ri (.cons rv .nil))) q) (fun w' s' hq => ?_) (fun _ _ e => e))
  obtain ⟨z, H', I', _, qz⟩ := hq
  exact ⟨H', I', qz⟩
end
theorem passC0 {X : Cx} : ∀ σ, PassesAt CX0 X σ E0 := fun _ _ _ _ _ _ _ h => h.elim
theorem passCL {X : Cx} : ∀ σ, PassesAt (L2.CX X.prog X.w) X σ E0 := passSL
end Vc

/-! Xcm: x(..) where x is a local that holds a class; a classmethod called that may raise. -/
namespace Vc
open PySem PySem.Spec PyProof.Rows L2
section
variable {X : Cx} {CX : CXT} {k : Nat} {f g C p : Addr} {mc : Value} {fd : FuncData} {ps : List Str} {sp : Sp} {E : L2.St → XK} {x m : Str} {o e : Expr} {es : List Expr} {tf ta : TE} {t : TA} {np apos pos : Pos} {pl : Sem Bool} {pins : List (Addr × Obj)} {σ : L2.St} {H : Hp} {s : Shared}
/-- x(..), x holds the class at C -/
def tMakeC (C : Addr) (sp : Sp) (E : L2.St → XK) (tf : TE) (t : TA) : TE := fun σ H Q => tf σ H fun x H1 => x = .ref C ∧ tMakeS C sp E t σ H1 Q
theorem pe_makeC (M : Mk X.K C f) (F : FnOk X.prog X.w X.K X.mg X.base CX k f fd ps sp) (hr : Room (k + 1) X.A) (hb : Binds X.K fd ps []) (hx : ∀ σ, PassesAt CX X σ (E σ)) (hf : PE X (.Name x np) tf)
    (ha : PA X (e :: es) t) (he : starEach (e :: es) X.env = (false, eval e X.env) :: starEach es X.env := by rfl) (hpl : (backTo pos (starEach es X.env)).any (·.1) = false := by rfl) :
    PE X (.Call (.Name x np) (e :: es) [] pos) (tMakeC C sp E tf t) := by
  refine ⟨fun pins s σ H Q I h => ?_⟩
  refine wpAny_Call_Name_kw (thn (hf.run pins s σ H _ I h) fun u s1 ⟨y, H1, I1, ry, ey, q⟩ => ?_)
  subst ey
  obtain rfl : u = Value.ref C := ry
  refine PySem.W.callWith_K (h₀ := X.base) I1.ok.mod.kin M.kp (thn (ha.run pos pins s1 σ H1 _ I1 q) fun us s2 ⟨vs, H2, I2, r, q2⟩ => ⟨I2.kIn, ?_⟩) he hpl
  exact run_makeS M F hr hb (hx σ) I2 r q2
theorem run_fnRS {Q : VK} {E : XK} {us : List Value} {vs : List V} (F : FnR X.prog X.w X.K X.mg X.base CX k g sp) (hr : Room k X.A) (hx : PassesAt CX X σ E) (I : Inv X pins σ H s) (r : Vals vs us) (h : sp vs H Q E) :
    codeAny (model X.prog X.w) X.A (.call (.ref g) ⟨us, []⟩) (fun r s' => match r with | .ok (.ret v) => EP X pins σ Q v s' | .ok _ => False | .error e => X.xe e s') s := by
  refine codeAny_mono (F X.A X.stack s H us vs Q E hr I.env0 r h) fun r s' hq => ?_
  cases r with
  | error e => exact hx pins H s e s' I hq
  | ok fl =>
    cases fl with
    | ret u => exact I.after hq
    | next => exact False.elim hq
    | brk => exact False.elim hq
    | cont => exact False.elim hq
/-- the call of a class's bound method; what it raises passes at these slots -/
theorem run_cmS {q : Addr} {E : XK} {Q : VK} {us : List Value} {vs : List V} (F : FnR X.prog X.w X.K X.mg X.base CX k g sp) (hr : Room k X.A) (hx : PassesAt CX X σ E) (I : Inv X ((q, PySem.W.methodObj (.ref g) (.ref C)) :: pins) σ H s)
    (r : Vals vs us) (h : sp (.ref C :: vs) H Q E) : wpAny (model X.prog X.w) X.A (call (.ref q) us) (EP X pins σ Q) X.xe s := by
  have z : wpAny (model X.prog X.w) X.A (call (.ref q) us) (EP X ((q, PySem.W.methodObj (.ref g) (.ref C)) :: pins) σ Q) X.xe s :=
    wpAny_call (PySem.W.method_call (ClX.pin_at I) (run_fnRS (us := .ref C :: us) (vs := .ref C :: vs) F hr hx I (.cons rfl r) h))
  exact thn z fun _ _ y => ClX.unpinE y
/-- e.m(..), e the class at C, m a classmethod; what it raises is wished at the caller's slots -/
def tCMethS (C : Addr) (sp : Sp) (E : L2.St → XK) (ta : TE) (t : TA) : TE := fun σ H Q => ta σ H fun x H1 => x = .ref C ∧ t σ H1 fun vs H2 => sp (.ref C :: vs) H2 Q (E σ)
theorem pe_cmethS (he : PE X o ta) (r : ClX.CRead X.K C mc) (c : ClX.CMet X.K C mc m p g) (F : FnR X.prog X.w X.K X.mg X.base CX k g sp) (hr : Room k X.A) (hx : ∀ σ, PassesAt CX X σ (E σ)) (ha : PA X (e :: es) t)
    (hst : starEach (e :: es) X.env = (false, eval e X.env) :: starEach es X.env := by rfl) (hpl : (backTo pos (starEach es X.env)).any (·.1) = false := by rfl)
    (ht : eval (.Call (.Attribute o m apos) (e :: es) [] pos) X.env = (do
      let ov ← eval o X.env
      standAt apos.atName
      let (f, first) ← holding [ov] (getMethod ov m pl)
      callWith pos f first (backTo pos (starEach (e :: es) X.env)) (backToKw pos (keywordEach [] X.env))) := by rfl) :
    PE X (.Call (.Attribute o m apos) (e :: es) [] pos) (tCMethS C sp E ta t) := by
  refine ⟨fun pins s σ H Q I h => ?_⟩
  refine PySem.W.methodCall_KW (pl := pl) (thn (he.run pins s σ H _ I h) fun u s1 ⟨x, H1, I1, rx, ex, q⟩ => ?_) ht
  subst ex
  obtain rfl : u = Value.ref C := rx
  refine ClX.getmethcm_ok I1 r c fun s2 I2 => ?_
  refine ClX.callwith_cm I2 (ClX.base_none I1 (Nat.le_refl _)) c.fi (thn (ha.run pos _ s2 σ H1 _ I2 q) fun us s3 ⟨vs, H2, I3, rv, q2⟩ => ⟨⟨ClX.pin_at I3, I3.kIn⟩, ?_⟩) hst hpl
  exact run_cmS F hr (hx σ) I3 rv q2
theorem pe_cmethS0 (he : PE X o ta) (r : ClX.CRead X.K C mc) (c : ClX.CMet X.K C mc m p g) (F : FnR X.prog X.w X.K X.mg X.base CX k g sp) (hr : Room k X.A) (hx : ∀ σ, PassesAt CX X σ (E σ))
    (ht : eval (.Call (.Attribute o m apos) [] [] pos) X.env = (do
      let ov ← eval o X.env
      standAt apos.atName
      let (f, first) ← holding [ov] (getMethod ov m pl)
      callWith pos f first (backTo pos (starEach [] X.env)) (backToKw pos (keywordEach [] X.env))) := by rfl) :
    PE X (.Call (.Attribute o m apos) [] [] pos) (tCMethS C sp E ta tNil) := by
  refine ⟨fun pins s σ H Q I h => ?_⟩
  refine PySem.W.methodCall_KW (pl := pl) (thn (he.run pins s σ H _ I h) fun u s1 ⟨x, H1, I1, rx, ex, q⟩ => ?_) ht
  subst ex
  obtain rfl : u = Value.ref C := rx
  refine ClX.getmethcm_ok I1 r c fun s2 I2 => ?_
  exact PySem.W.callWith_M0 (first := []) ⟨ClX.pin_at I2, I2.kIn⟩ c.fi (run_cmS (us := []) F hr (hx σ) I2 .nil q)
end
/-- C.m(..), m a staticmethod; what it raises is wished at the caller's slots -/
def tSMethS (C : Addr) (sp : Sp) (E : L2.St → XK) (ta : TE) (t : TA) : TE := fun σ H Q => ta σ H fun x H1 => x = .ref C ∧ t σ H1 fun vs H2 => sp vs H2 Q (E σ)
section
variable {X : Cx} {CX : CXT} {k : Nat} {g C p : Addr} {mc : Value} {fd : FuncData} {ps : List Str} {sp : Sp} {E : L2.St → XK} {m : Str} {o e : Expr} {es : List Expr} {ta : TE} {t : TA} {apos pos : Pos} {pl : Sem Bool}
theorem pe_smethS (he : PE X o ta) (r : ClX.CRead X.K C mc) (c : SMet X.K C mc m p g) (F : FnOk X.prog X.w X.K X.mg X.base CX k g fd ps sp) (hr : Room k X.A) (hb : Binds X.K fd ps []) (hx : ∀ σ, PassesAt CX X σ (E σ)) (ha : PA X (e :: es) t)
    (hst : starEach (e :: es) X.env = (false, eval e X.env) :: starEach es X.env := by rfl) (hpl : (backTo pos (starEach es X.env)).any (·.1) = false := by rfl)
    (ht : eval (.Call (.Attribute o m apos) (e :: es) [] pos) X.env = (do
      let ov ← eval o X.env
      standAt apos.atName
      let (f, first) ← holding [ov] (getMethod ov m pl)
      callWith pos f first (backTo pos (starEach (e :: es) X.env)) (backToKw pos (keywordEach [] X.env))) := by rfl) :
    PE X (.Call (.Attribute o m apos) (e :: es) [] pos) (tSMethS C sp E ta t) := by
  refine ⟨fun pins s σ H Q I h => ?_⟩
  refine PySem.W.methodCall_KW (pl := pl) (thn (he.run pins s σ H _ I h) fun u s1 ⟨x, H1, I1, rx, ex, q⟩ => ?_) ht
  subst ex
  obtain rfl : u = Value.ref C := rx
  refine getsm_ok I1 r c fun s2 I2 => ?_
  refine PySem.W.callWith_K (first := []) (h₀ := X.base) I.ok.mod.kin c.kp (thn (ha.run pos pins s2 σ H1 _ I2 q) fun us s3 ⟨vs, H2, I3, r3, q2⟩ => ⟨I3.kIn, ?_⟩) hst hpl
  exact run_fnS F hr hb (hx σ) I3 r3 q2
end
section
variable {σ : L2.St} {H : Hp} {Q : VK} {tf ta : TE} {ts : TA} {C : Addr} {sp : Sp} {E : L2.St → XK}
theorem go_smethS (h : ta σ H fun x H1 => x = .ref C ∧ ts σ H1 fun vs H2 => sp vs H2 Q (E σ)) : tSMethS C sp E ta ts σ H Q := h
theorem go_makeC (h : tf σ H fun x H1 => x = .ref C ∧ tMakeS C sp E ts σ H1 Q) : tMakeC C sp E tf ts σ H Q := h
theorem go_cmethS (h : ta σ H fun x H1 => x = .ref C ∧ ts σ H1 fun vs H2 => sp (.ref C :: vs) H2 Q (E σ)) : tCMethS C sp E ta ts σ H Q := h
end
/-! ### dicts of ints compared: either answer -/
/-- a dict's items, ints to ints -/
def kvI (l : List (Int × Int)) : List (Key × V) := l.map fun q => (.inl q.1, .int q.2)
/-- as == tells of two dicts -/
def eqI (k l : List (Int × Int)) : Bool := k.length == l.length && k.all fun q => decide (valV (kvI l) (.inl q.1) = some (V.int q.2))
theorem kvI_int {l : List (Int × Int)} {k : Key} {u : V} (h : valV (kvI l) k = some u) : ∃ j, u = .int j := by
  unfold valV at h
  obtain ⟨p, hp, rfl⟩ := Option.map_eq_some_iff.mp h
  obtain ⟨q, _, rfl⟩ := List.mem_map.mp (List.mem_of_find?_eq_some hp)
  exact ⟨_, rfl⟩
theorem hits_int {X : Cx} {pins : List (Addr × Obj)} {σ : L2.St} {H : Hp} {s : Shared} (I : Inv X pins σ H s) {A : Around} (hu : A.in1.units + 64 < cLine) {l : List (Int × Int)} {vb : List (Key × Value)} (rb : KV (kvI l) vb) :
    ∀ {k : List (Int × Int)} {va : List (Key × Value)}, KV (kvI k) va → PySem.W.KeqHits A.in1 s vb va (k.all fun q => decide (valV (kvI l) (.inl q.1) = some (V.int q.2)))
  | [], va, h => by
    cases h
    exact .nil
  | q :: k, va, h => by
    unfold KV kvI at h
    rw [List.map_cons] at h
    cases h with
    | @cons _ z _ va h1 h2 =>
      obtain ⟨ek, rv⟩ := h1
      obtain ⟨key, v⟩ := z
      have ek : (Sum.inl q.1 : Key) = key := ek
      subst ek
      have rest := hits_int I (A := A) hu rb (k := k) (va := va) h2
      have rr := rb.val (Sum.inl q.1)
      rw [List.all_cons]
      cases e : valV (kvI l) (.inl q.1) with
      | none =>
        rw [e] at rr
        rw [show decide ((none : Option V) = some (V.int q.2)) = false from rfl, Bool.false_and]
        exact .miss rr.none_of
      | some u =>
        obtain ⟨j, rfl⟩ := kvI_int e
        rw [e] at rr
        obtain ⟨y, hy, ry⟩ := rr.some_of
        obtain ⟨as, r1⟩ := Dp.reads I (.int q.2) _ _ (.int q.2) rv
        obtain ⟨bs, r2⟩ := Dp.reads I (.int j) _ _ (.int j) ry
        have eq := PySem.W.keq_at (A := A) r1 r2 rfl rfl hu
        have ee : decide ((some (V.int j) : Option V) = some (V.int q.2)) = PyData.eqv (.int q.2) (.int j) := by
          show _ = (q.2 == j)
          by_cases z : j = q.2
          · subst z
            simp
          · have : ¬ (q.2 = j) := fun y => z y.symm
            simp [z, this]
        rw [ee]
        exact .hit hy eq rest
def rDI (neg : Bool) : R2 := fun x y H Q => ∃ a c ks ls, x = .ref a ∧ y = .ref c ∧ H a = some (.dK (kvI ks)) ∧ H c = some (.dK (kvI ls)) ∧ Q (.bl (if neg then !eqI ks ls else eqI ks ls)) H
theorem op_eqDI {X : Cx} (hu : X.A.units + 66 < cLine) : OpR X (compareOp .Eq) (rDI false) := by
  intro pins s σ H x y v u Q I rx ry h
  obtain ⟨a, b, ks, ls, rfl, rfl, ea, eb, q⟩ := h
  obtain rfl : v = Value.ref a := rx
  obtain rfl : u = Value.ref b := ry
  obtain ⟨_, ya, va, ra, da⟩ := (show ObjOk X.prog X.w H s.heap a (.dK (kvI ks)) from I.hok a _ ea)
  obtain ⟨_, yb, vb, rb, db⟩ := (show ObjOk X.prog X.w H s.heap b (.dK (kvI ls)) from I.hok b _ eb)
  have la : va.length = ks.length := by rw [← ra.length]; exact List.length_map _
  have lb : vb.length = ls.length := by rw [← rb.length]; exact List.length_map _
  exact PySem.W.keq_eq (knd := mixKind X.prog X.w) ya yb da db (by omega) (fun _ => hits_int I (by show X.A.units + 1 + 64 < cLine; omega) rb ra) (fin_bl I q (by rw [la, lb]; rfl))
theorem op_neDI {X : Cx} (hu : X.A.units + 66 < cLine) : OpR X (compareOp .NotEq) (rDI true) := by
  intro pins s σ H x y v u Q I rx ry h
  obtain ⟨a, b, ks, ls, rfl, rfl, ea, eb, q⟩ := h
  obtain rfl : v = Value.ref a := rx
  obtain rfl : u = Value.ref b := ry
  obtain ⟨_, ya, va, ra, da⟩ := (show ObjOk X.prog X.w H s.heap a (.dK (kvI ks)) from I.hok a _ ea)
  obtain ⟨_, yb, vb, rb, db⟩ := (show ObjOk X.prog X.w H s.heap b (.dK (kvI ls)) from I.hok b _ eb)
  have la : va.length = ks.length := by rw [← ra.length]; exact List.length_map _
  have lb : vb.length = ls.length := by rw [← rb.length]; exact List.length_map _
  exact PySem.W.keq_ne (knd := mixKind X.prog X.w) ya yb da db (by omega) (fun _ => hits_int I (by show X.A.units + 1 + 64 < cLine; omega) rb ra) (fin_bl I q (by rw [la, lb]; rfl))
/-! what eqI says -/
theorem kvI_mem {l : List (Int × Int)} {q : Int × Int} (nd : (l.map (·.1)).Nodup) (hq : q ∈ l) : valV (kvI l) (.inl q.1) = some (.int q.2) := by
  induction l with
  | nil => cases hq
  | cons x r ih =>
    rw [List.map_cons, List.nodup_cons] at nd
    unfold valV kvI
    rw [List.map_cons, List.find?_cons]
    by_cases e : x.1 = q.1
    · have : x = q := by
        rcases List.mem_cons.mp hq with h | h
        · exact h.symm
        · exact (nd.1 (e ▸ List.mem_map.mpr ⟨q, h, rfl⟩)).elim
      subst this
      simp
    · have h2 : q ∈ r := (List.mem_cons.mp hq).resolve_left fun z => e (by rw [z])
      have n : ¬ (decide ((Sum.inl x.1 : Key) = Sum.inl q.1) = true) := fun z => e (Sum.inl.inj (of_decide_eq_true z))
      rw [show decide ((Sum.inl x.1 : Key) = Sum.inl q.1) = false from Bool.eq_false_iff.mpr n]
      exact ih nd.2 h2
theorem eqI_refl {l : List (Int × Int)} (nd : (l.map (·.1)).Nodup) : eqI l l = true := by
  unfold eqI
  rw [beq_self_eq_true, Bool.true_and, List.all_eq_true]
  exact fun q hq => decide_eq_true (kvI_mem nd hq)

theorem eqI_sub {k l : List (Int × Int)} (h : eqI k l = true) : k.length = l.length ∧ ∀ q ∈ k, q ∈ l := by
  unfold eqI at h
  rw [Bool.and_eq_true, List.all_eq_true] at h
  refine ⟨of_decide_eq_true h.1, fun q hq => ?_⟩
  have z := of_decide_eq_true (h.2 q hq)
  unfold valV at z
  obtain ⟨p, hp, e⟩ := Option.map_eq_some_iff.mp z
  obtain ⟨y, hy, rfl⟩ := List.mem_map.mp (List.mem_of_find?_eq_some hp)
  have e1 := List.find?_some hp
  have e1 : y.1 = q.1 := Sum.inl.inj (of_decide_eq_true e1)
  have e2 : y.2 = q.2 := V.int.inj e
  rw [← show y = q from Prod.ext e1 e2]
  exact hy
end Vc

/-! Xet: == of two tuples whose items are compared by an own == that changes nothing (my own). -/
namespace Vc
open PySem PySem.Spec PyProof.Rows L2
open PySem.SeqAt AutoSeq1 MeetsSeq MeetsSeq2 MeetsSeq3 SeqRoads2
section
variable {prog : Program} {w : World} {A : Around} {R : Result → Shared → Prop}
theorem tuple_eqB (l b : Addr) (items items2 : Array Value) (n n2 : Nat) (dd dd2 : Option Addr) (sl sl2 : Array (Option Value)) (e : Nat → Bool) (J : Shared → Prop)
    (turn : ∀ i (h1 : i < items.size) (h2 : i < items2.size) s, J s → wpAny (model prog w) A.in1 (eqBool items[i] items2[i]) (fun r s' => r = e i ∧ J s') (fun e s' => R (.error e) s') s)
    (fin : ∀ s, J s → R (.ok (.ret (.bool (decide (items.size = items2.size) && (List.range items.size).all e)))) s) {s : Shared} (hl1 : s.heap.get? l = some { cls := .type "tuple", dict := dd, data := .seq items n, slots := sl }) (hb1 : s.heap.get? b = some { cls := .type "tuple", dict := dd2, data := .seq items2 n2, slots := sl2 }) (h : J s) :
    wpAny (model prog w) A.in1 (Builtin.«tuple.__eq__» ⟨[.ref l, .ref b], []⟩) (GQ.FinOf prog w A R) (fun e s' => R (.error e) s') s := by
  have f2 := AutoSeq1.sub_tuple_tuple
  have hZ : (items.toList.zip items2.toList).length = min items.size items2.size := by simp
  have h0 := h
  obtain ⟨hp, g, d, tk, os⟩ := s
  wp_walk using PySem.AutoSeq1.wpAny_loadPart' hl1, PySem.AutoSeq1.wpAny_loadPart' hb1, wpAny_forIn_list _ (fun rest b s' => b.1 = none ∧ ∃ i, rest = (items.toList.zip items2.toList).drop i ∧ i ≤ min items.size items2.size ∧ J s' ∧ ∀ j, j < i → e j = true) _
  case turn =>
    rintro ⟨y, x⟩ rest b s' ⟨hb', i, hz, hi, hI, al⟩
    have hlt : i < (items.toList.zip items2.toList).length := by
      rcases Nat.lt_or_ge i (items.toList.zip items2.toList).length with h' | h'
      · exact h'
      · rw [List.drop_of_length_le h'] at hz; cases hz
    have h1 : i < items.size := by rw [hZ] at hlt; omega
    have h2 : i < items2.size := by rw [hZ] at hlt; omega
    rw [List.drop_eq_getElem_cons hlt] at hz
    injection hz with hyx hrest
    have hy : y = items[i] := by have := congrArg Prod.fst hyx; simpa using this
    have hx : x = items2[i] := by have := congrArg Prod.snd hyx; simpa using this
    subst hy hx
    refine wpAny_bind (wpAny_mono (turn i h1 h2 s' hI) (fun r s2 q2 => ?_) fun _ _ x => x)
    obtain ⟨hr, q2⟩ := q2
    cases he : e i with
    | true =>
      rw [he] at hr
      subst hr
      wp_walk
      exact ⟨rfl, i + 1, hrest, by omega, q2, fun j hj => (by
        by_cases c : j = i
        · rw [c]; exact he
        · exact al j (by omega))⟩
    | false =>
      rw [he] at hr
      subst hr
      have hR := fin s2 q2
      have hf : (List.range items.size).all e = false := by
        rw [List.all_eq_false]
        exact ⟨i, List.mem_range.mpr h1, by rw [he]; decide⟩
      rw [hf, Bool.and_false] at hR
      wp_walk
      exact hR
  case fin =>
    rintro ⟨b1, b2⟩ s' ⟨hb', i, hz, hi, hI, al⟩
    simp only at hb'
    subst hb'
    have hge : min items.size items2.size ≤ i := by
      rcases Nat.lt_or_ge i (items.toList.zip items2.toList).length with h' | h'
      · rw [List.drop_eq_getElem_cons h'] at hz; cases hz
      · exact hZ ▸ h'
    have hR := fin s' hI
    have hr : (decide (items.size = items2.size) && (List.range items.size).all e) = (items.size == items2.size) := by
      by_cases c : items.size = items2.size
      · have ha : (List.range items.size).all e = true := List.all_eq_true.mpr fun j hj => al j (by have := List.mem_range.mp hj; omega)
        rw [ha]
        simp [c]
      · simp [c]
    rw [hr] at hR
    wp_walk
    simpa [Builtin.Tuple.tupleCompareSizes] using hR
  case h =>
    exact ⟨rfl, 0, rfl, Nat.zero_le _, h0, fun j z => absurd z (Nat.not_lt_zero j)⟩
end
section
variable {prog : Program} {w : World} {A : Around} {E : Value → Shared → Prop} {s : Shared}
theorem rc_tupB {l b : Addr} {items items2 : Array Value} {Q : Value → Shared → Prop} (hu : A.units < cLine) (e : Nat → Bool) (J : Shared → Prop)
    (hl : s.heap.IsTuple l items) (hb : s.heap.IsTuple b items2)
    (turn : ∀ i (h1 : i < items.size) (h2 : i < items2.size) s, J s → wpAny (model prog w) A.in1 (eqBool items[i] items2[i]) (fun r s' => r = e i ∧ J s') E s)
    (fin : ∀ s, J s → Q (.bool (decide (items.size = items2.size) && (List.range items.size).all e)) s) (h : J s) : wpAny (model prog w) A (richCompare .Eq (.ref l) (.ref b)) Q E s := by
  obtain ⟨⟨cls, dd, data, sl⟩, ho, hc, n, hd⟩ := id hl
  obtain ⟨⟨cls2, dd2, data2, sl2⟩, ho2, hc2, n2, hd2⟩ := id hb
  simp only at hc hd hc2 hd2
  subst hc hd hc2 hd2
  refine wpAny_richCompare_same_room (op := .Eq) ⟨_, ho, rfl⟩ ⟨_, ho2, rfl⟩ F.slot_tuple_eq (GQ.call_here F.slot_tuple_eq ⟨_, ho, rfl⟩ F.entry_tuple_eq (F.args_tuple_eq_2 _ _) ?_) hu
  exact tuple_eqB (R := wants (fun v s' => v ≠ .notImplemented ∧ Q v s') E) l b items items2 n n2 dd dd2 sl sl2 e J turn (fun s' q => ⟨(fun x => nomatch x), fin s' q⟩) ho ho2 h
end
/-- two items that are compared by an own ==, which says r and changes nothing -/
def EqI (K : PySem.W.Frag) (g : Addr) (sp : Sp) (H : Hp) (x y : V) (r : Bool) : Prop := ∃ (p q C dx : Addr) (fs : List (Str × V)) (t : Value), x = .ref p ∧ y = .ref q ∧ (p = q → r = true) ∧ EqM K C g ∧ H p = some (.ins C dx fs) ∧ TyX K H y t ∧ PySem.W.notFirst K C t = true ∧ sp [x, y] H (fun v H' => v = .bl r ∧ H' = H) E0
/-- the tuples of one length, all items alike -/
def allI (r : V → V → Bool) (xs ys : List V) : Bool := decide (xs.length = ys.length) && (List.range xs.length).all fun i => r (xs.getD i .non) (ys.getD i .non)
def rEqTO (K : PySem.W.Frag) (g : Addr) (sp : Sp) : R2 := fun x y H Q => ∃ (a b : Addr) (xs ys : List V) (r : V → V → Bool), x = .ref a ∧ y = .ref b ∧ SqT K H a xs ∧ SqT K H b ys ∧ (∀ x ∈ xs, ∀ y ∈ ys, EqI K g sp H x y (r x y)) ∧ Q (.bl (allI r xs ys)) H
theorem op_eqTO {X : Cx} {g : Addr} {fd : FuncData} {ps : List Str} {sp : Sp} {n : Nat} (F : FnOk X.prog X.w X.K X.mg X.base CX0 n g fd ps sp) (hr : Room (n + 1) X.A) (hb : Binds X.K fd ps []) : OpR X (compareOp .Eq) (rEqTO X.K g sp) := by
  intro pins s σ H x y v u Q I rx ry hq
  obtain ⟨a, b, xs, ys, r, rfl, rfl, ha, hb1, items, q⟩ := hq
  cases rx
  cases ry
  show wpAny (model X.prog X.w) X.A (richCompare .Eq (.ref a) (.ref b)) (EP X pins σ Q) X.xe s
  obtain ⟨its, r1, e1, z1⟩ := I.tuple ha
  obtain ⟨its2, r2, e2, z2⟩ := I.tuple hb1
  have l1 : xs.length = its.length := r1.length
  have l2 : ys.length = its2.length := r2.length
  refine rc_tupB hr.units0 (fun i => r (xs.getD i .non) (ys.getD i .non)) (fun s' => Inv X pins σ H s') e1 e2 (fun i h1 h2 s' I' => ?_) (fun s' I' => ?_) I
  · have g1 : its[i]? = some its.toArray[i] := by
      have h1' : i < its.length := by simpa using h1
      rw [List.getElem?_eq_getElem h1'] <;> simp
    have g2 : its2[i]? = some its2.toArray[i] := by
      have h2' : i < its2.length := by simpa using h2
      rw [List.getElem?_eq_getElem h2'] <;> simp
    have k1 : i < xs.length := by rw [l1]; simpa using h1
    have k2 : i < ys.length := by rw [l2]; simpa using h2
    obtain ⟨u1, hu1, ru1⟩ := r1.get (List.getElem?_eq_getElem k1)
    obtain ⟨u2, hu2, ru2⟩ := r2.get (List.getElem?_eq_getElem k2)
    rw [g1] at hu1
    rw [g2] at hu2
    rw [Option.some.inj hu1, Option.some.inj hu2]
    have d1 : xs.getD i .non = xs[i] := by rw [List.getD_eq_getElem?_getD, List.getElem?_eq_getElem k1]; rfl
    have d2 : ys.getD i .non = ys[i] := by rw [List.getD_eq_getElem?_getD, List.getElem?_eq_getElem k2]; rfl
    rw [d1, d2]
    obtain ⟨p, q', C, dx, fs, t, ex, ey, same, m, hp, ty, nf, k⟩ := items _ (List.getElem_mem k1) _ (List.getElem_mem k2)
    rw [ex] at ru1
    rw [ey] at ru2
    cases ru1
    cases ru2
    by_cases c : p = q'
    · rw [same c]
      subst c
      exact SeqAt.EqAt.same (A := X.A.in1) (s := s') (.ref p) X.prog X.w X.xe _ ⟨rfl, I'⟩
    · refine GQ.eqBool_refG c ?_
      obtain ⟨mA, J, _⟩ := ins_get I'.hok hp
      obtain ⟨od, J, _⟩ := J.look
      rw [ey] at ty
      obtain ⟨_, Z, pz, _⟩ := kit_of I' (show RelV (.ref q') (.ref q') from rfl) ty
      obtain ⟨mm, hF⟩ := I'.fr
      refine PySem.W.cmp_K (op := .Eq) (tb := t) hr.in1.units0 hF I'.ok.mod.kin J (Z.ty _ _ I'.kIn pz) nf m.at_ m.fn ?_
      rw [ex, ey] at k
      have hl := F.len _ _ _ _ k
      have r3 : Vals [V.ref p, V.ref q'] [Value.ref p, Value.ref q'] := .cons rfl (.cons rfl .nil)
      have hb' := hb s' [.ref p, .ref q'] I'.kIn (by simpa using hl)
      rw [List.append_nil] at hb'
      refine wpAny_call (codeAny_mono (F.run X.A.in1 X.stack s' H ⟨[.ref p, .ref q'], []⟩ [.ref p, .ref q'] [.ref p, .ref q'] _ E0 hr.in1 I'.env0.in1 hb' r3 k) fun rr s2 hq => ?_)
      cases rr with
      | error e => exact hq.elim
      | ok fl =>
        cases fl with
        | ret w =>
          obtain ⟨z, H', I2, rz, ez, qz⟩ := I'.after hq
          subst ez
          cases rz
          subst qz
          rw [ex, ey]
          exact ⟨_, rfl, rfl, I2⟩
        | next => exact False.elim hq
        | brk => exact False.elim hq
        | cont => exact False.elim hq
  · refine ⟨.bl (allI r xs ys), H, I', ?_, q⟩
    show _ = _
    unfold allI
    simp only [List.size_toArray, ← l1, ← l2]
/-! ### truth by an own __bool__ -/
section
variable {X : Cx} {C g : Addr} {fd : FuncData} {ps : List Str} {sp : Sp} {n : Nat} {a : Expr} {ta : TE} {pos : Pos}
theorem truthO (F : FnOk X.prog X.w X.K X.mg X.base CX0 n g fd ps sp) {A : Around} (hr : Room n A) (m : SpM X.K C g "__bool__") (hb : Binds X.K fd ps []) {pins : List (Addr × Obj)} {s : Shared} {σ : L2.St} {H : Hp} {p dx : Addr} {fs : List (Str × V)} {E : Value → Shared → Prop} {Q : Bool → Shared → Prop} {R : Bool → Hp → Prop} (I : Inv X pins σ H s) (e0 : Env0 X.prog X.w X.K X.mg X.base A X.stack s H)
    (hp : H p = some (.ins C dx fs)) (h : sp [.ref p] H (fun v H' => ∃ b, v = .bl b ∧ R b H') E0) (k : ∀ b H' s', R b H' → Inv X pins σ H' s' → Q b s') : wpAny (model X.prog X.w) A (truthy (.ref p)) Q E s := by
  obtain ⟨mA, J, _⟩ := ins_get I.hok hp
  obtain ⟨od, J, _⟩ := J.look
  obtain ⟨mm, hF⟩ := I.fr
  refine PySem.W.truthy_K hF I.ok.mod.kin J m.at_ m.fn ?_
  refine wpAny_mono (runO (vs := [.ref p]) F hr hb I e0 (.cons rfl .nil) h) (fun u s' hq => ?_) (fun _ _ e => e)
  obtain ⟨z, H', I', rz, b, rfl, q⟩ := hq
  cases rz
  exact k b H' s' q I'
def rBoolO (C : Addr) (sp : Sp) : List V → Hp → VK → Prop := fun xs H Q => ∃ (a dx : Addr) (fs : List (Str × V)), xs = [.ref a] ∧ H a = some (.ins C dx fs) ∧ sp [.ref a] H (fun v H' => ∃ b, v = .bl b ∧ Q (.bl b) H') E0
theorem bool_own {prog : Program} {w : World} {A : Around} {E : Value → Shared → Prop} {s : Shared} {x : Addr} {Q : Value → Shared → Prop}
    (h : wpAny (model prog w) A.in1.in1 (truthy (.ref x)) (fun b s' => Q (.bool b) s') E s) : wpAny (model prog w) A (call (.type "bool") [.ref x]) Q E s :=
  callType_newIn F.called_bool F.newNe_bool (F.typeCall_bool_1 _) (F.newCall_bool_1 _) (fun obj => F.args_object_init_2 obj _) F.entry_bool_new
    (S := fun A' R s' => wpAny (model prog w) A'.in1 (truthy (.ref x)) (fun b s1 => R (.ok (.ret (.bool b))) s1) (fun e s1 => R (.error e) s1) s')
    (.of_wp fun A' R s' hq => by
      have f1 := F.conv_sub_bool
      obtain ⟨hp, g, d, tk, os⟩ := s'
      repeat (any_goals (first | assumption | (with_reducible refine wpAny_mono hq (fun b s1 h1 => ?_) (fun _ _ e => e)) | wp_step))
      all_goals first | exact ⟨_, rfl, h1⟩ | skip)
    (wpAny_mono h (fun b s1 h1 => ⟨rfl, h1⟩) fun _ _ e => e)
theorem call_boolO (F : FnOk X.prog X.w X.K X.mg X.base CX0 n g fd ps sp) (hr : Room (n + 2) X.A) (m : SpM X.K C g "__bool__") (hb : Binds X.K fd ps []) : CallR X (.type "bool") (rBoolO C sp) := by
  intro pins s σ H xs us Q I r h
  obtain ⟨a, dx, fs, rfl, ha, q⟩ := h
  rw [Vals.ref1 r]
  exact bool_own (truthO F hr.in1.in1 m hb I I.env0.in1.in1 ha q fun b H' s' q' I' => ⟨.bl b, H', I', rfl, q'⟩)
def tNotO (C : Addr) (sp : Sp) (ta : TE) : TE := fun σ H Q => ta σ H fun x H1 => ∃ (a dx : Addr) (fs : List (Str × V)), x = .ref a ∧ H1 a = some (.ins C dx fs) ∧ sp [.ref a] H1 (fun v H' => ∃ b, v = .bl b ∧ Q (.bl (!b)) H') E0
theorem pe_notO (F : FnOk X.prog X.w X.K X.mg X.base CX0 n g fd ps sp) (hr : Room n X.A) (m : SpM X.K C g "__bool__") (hb : Binds X.K fd ps []) (ha : PE X a ta) : PE X (.UnaryOp .Not a pos) (tNotO C sp ta) := by
  refine ⟨fun pins s σ H Q I h => ?_⟩
  refine UnaryOp_ (thn (ha.run pins s σ H _ I h) fun v s1 ⟨x, H1, I1, r1, p, dx, fs, ex, hp, q1⟩ => ?_)
  subst ex
  cases r1
  exact not_of (truthO F hr m hb I1 I1.env0 hp q1 fun b H' s' q I' => ⟨.bl (!b), H', I', rfl, q⟩)
end
/-! ### x + y where one class has no + at all -/
def noneB (v : Option (Option Value)) : Bool := match v with | some none => true | _ => false
theorem noneB_ok {v : Option (Option Value)} (h : noneB v = true) : v = some none := by
  match v, h with
  | some none, _ => rfl
/-- no class of the line has __add__ or __radd__ -/
def lackB (K : PySem.W.Frag) (D : Addr) : Bool := match PySem.W.clsIn K D with
  | some cd => cd.mro.all fun c => (match c with | .ref _ => true | .type _ => true | _ => false) && (noneB (PySem.W.findIn K c "__add__") && noneB (PySem.W.findIn K c "__radd__"))
  | none => false
open PySem.W in
theorem fills_none {M : Model} {K : Frag} {D : Addr} {h : Heap} (X : K.In h) (B : lackB K D = true) : Looks M h (fillsNumberSlot (.ref D) "add") false := by
  intro A Q E s k q
  unfold lackB at B
  cases hc : clsIn K D with
  | none => rw [hc] at B; cases B
  | some cd =>
    rw [hc] at B
    have Lm : Looks M h (mroOf (.ref D)) cd.mro := (looks_clsIn X hc).andThen (f := fun cd => pure cd.mro) .now
    have Lm' := Lm.keeps k
    obtain ⟨hh, g, d, tt, os⟩ := s
    have X' : K.In hh := X.keeps k
    unfold fillsNumberSlot
    refine wpAny_bind (Lm'.at ?_)
    have B : cd.mro.all (fun c => (match c with | .ref _ => true | .type _ => true | _ => false) && (noneB (findIn K c "__add__") && noneB (findIn K c "__radd__"))) = true := B
    revert B
    generalize cd.mro = l
    intro B
    induction l with
    | nil => rw [List.anyM_nil]; exact wpAny_pure q
    | cons c l ih =>
      rw [List.all_cons] at B
      obtain ⟨b1, b2⟩ := Bool.and_eq_true_iff.mp B
      obtain ⟨b0, b1⟩ := Bool.and_eq_true_iff.mp b1
      obtain ⟨b3, b4⟩ := Bool.and_eq_true_iff.mp b1
      have h1 := noneB_ok b3
      have h2 := noneB_ok b4
      have L1 : Looks M hh (typeLookup c (PySem.dunder "add")) none := looks_findIn X' h1
      have L2 : Looks M hh (typeLookup c (dunderR "add")) none := looks_findIn X' h2
      rw [List.anyM_cons]
      refine wpAny_bind ?_
      have fin := ih b2
      match c, b0, L1, L2 with
      | .ref a, _, L1, L2 =>
        show wpAny M A (List.anyM _ [PySem.dunder "add", dunderR "add"]) _ _ _
        rw [List.anyM_cons]
        refine wpAny_bind (wpAny_bind (L1.at ?_))
        refine wpAny_pure ?_
        simp only [Bool.false_eq_true, if_false]
        rw [List.anyM_cons]
        refine wpAny_bind (wpAny_bind (L2.at ?_))
        refine wpAny_pure ?_
        simp only [Bool.false_eq_true, if_false]
        rw [List.anyM_nil]
        refine wpAny_pure ?_
        simp only [Bool.false_eq_true, if_false]
        exact fin
      | .type T, _, L1, L2 =>
        refine wpAny_bind (L1.at (wpAny_bind (L2.at (wpAny_pure ?_))))
        simp only [Option.isSome, Bool.false_and, Bool.or_self, Bool.false_eq_true, if_false]
        exact fin
section
variable {prog : Program} {w : World} {A : Around} {E : Value → Shared → Prop} {s : Shared} {K : PySem.W.Frag} {x C D L f : Addr} {h₀ : Heap} {m : Str → Option Value} {ox : Obj} {od : Option Obj} {b : Value} {Q : Value → Shared → Prop}
open PySem.W in
theorem bin1_lackR (F : Fr h₀ L s.heap m) (X₀ : K.In h₀) (I : InstAt s.heap x ox C od) (hb : Looks (model prog w) s.heap (typeOf b) (.ref D)) (hc : selfFirst K C = true)
    (hs : findIn K (.ref C) "__add__" = some (some (.ref f))) (hf : isFn K (.ref f) = true) (B : lackB K D = true) (ne : C ≠ D)
    (h : wpAny (model prog w) A (call (.ref f) [.ref x, b]) (PySem.W.CmpBack Q) E s) : wpAny (model prog w) A (binaryOp1 "add" (.ref x) b) (fun r s' => ∃ v, r = some v ∧ Q v s') E s := by
  have X := X₀.keeps F.keep
  obtain ⟨cd, rest, hcd1, hm⟩ := ksp_first hc
  have one := ksp_try X I hs hf h
  obtain ⟨hh, gg, dd, tt, os⟩ := s
  have L1 : Looks (model prog w) hh (typeOf (.ref x)) (.ref C) := I.type
  have L2 : Looks (model prog w) hh (typeOf b) (.ref D) := hb
  have L3 : Looks (model prog w) hh (fillsNumberSlot (.ref C) "add") true := fills_K X hcd1 hm hs
  have L4 : Looks (model prog w) hh (fillsNumberSlot (.ref D) "add") false := fills_none X B
  have hne : (Value.ref C == Value.ref D) = false := Bool.eq_false_iff.mpr fun q => ne (by have := beq_iff_eq.mp q; cases this; rfl)
  have one : wpAny (model prog w) A (tryMethod (.ref x) (PySem.dunder "add") b) (fun r s' => ∃ v, r = some v ∧ Q v s') E ⟨hh, gg, dd, tt, os⟩ := one
  unfold binaryOp1
  refine wpAny_bind (L1.at (wpAny_bind (L2.at (wpAny_bind (L3.at ?_)))))
  simp only [hne, Bool.false_eq_true, if_false]
  ksp_lk
  refine wpAny_mono one (fun r s' hr' => ?_) fun _ _ e => e
  obtain ⟨v, rfl, hq⟩ := hr'
  ksp_lk
  exact ⟨v, rfl, hq⟩
open PySem.W in
theorem bin1_same (F : Fr h₀ L s.heap m) (X₀ : K.In h₀) (I : InstAt s.heap x ox C od) (hb : Looks (model prog w) s.heap (typeOf b) (.ref C)) (hc : selfFirst K C = true)
    (hs : findIn K (.ref C) "__add__" = some (some (.ref f))) (hf : isFn K (.ref f) = true)
    (h : wpAny (model prog w) A (call (.ref f) [.ref x, b]) (PySem.W.CmpBack Q) E s) : wpAny (model prog w) A (binaryOp1 "add" (.ref x) b) (fun r s' => ∃ v, r = some v ∧ Q v s') E s := by
  have X := X₀.keeps F.keep
  obtain ⟨cd, rest, hcd1, hm⟩ := ksp_first hc
  have one := ksp_try X I hs hf h
  obtain ⟨hh, gg, dd, tt, os⟩ := s
  have L1 : Looks (model prog w) hh (typeOf (.ref x)) (.ref C) := I.type
  have L2 : Looks (model prog w) hh (typeOf b) (.ref C) := hb
  have L3 : Looks (model prog w) hh (fillsNumberSlot (.ref C) "add") true := fills_K X hcd1 hm hs
  have one : wpAny (model prog w) A (tryMethod (.ref x) (PySem.dunder "add") b) (fun r s' => ∃ v, r = some v ∧ Q v s') E ⟨hh, gg, dd, tt, os⟩ := one
  unfold binaryOp1
  refine wpAny_bind (L1.at (wpAny_bind (L2.at (wpAny_bind (L3.at ?_)))))
  simp only [beq_self_eq_true, if_true]
  ksp_lk
  refine wpAny_mono one (fun r s' hr' => ?_) fun _ _ e => e
  obtain ⟨v, rfl, hq⟩ := hr'
  ksp_lk
  exact ⟨v, rfl, hq⟩
open PySem.W in
/-- a + y, a's class has no +, by y's __radd__ -/
theorem bin1_lackL {y : Addr} {oy : Obj} {a : Value} (F : Fr h₀ L s.heap m) (X₀ : K.In h₀) (I : InstAt s.heap y oy D od) (ha : Looks (model prog w) s.heap (typeOf a) (.ref C)) (B : lackB K C = true) (ne : C ≠ D)
    (hcd : selfFirst K D = true) (hds : ∃ g : Addr, findIn K (.ref D) "__add__" = some (some (.ref g))) (hs : findIn K (.ref D) "__radd__" = some (some (.ref f))) (hf : isFn K (.ref f) = true)
    (h : wpAny (model prog w) A (call (.ref f) [.ref y, a]) (PySem.W.CmpBack Q) E s) : wpAny (model prog w) A (binaryOp1 "add" a (.ref y)) (fun r s' => ∃ v, r = some v ∧ Q v s') E s := by
  have X := X₀.keeps F.keep
  obtain ⟨g, hds⟩ := hds
  obtain ⟨cd2, rest2, hcd2, hm2⟩ := ksp_first hcd
  have one := ksp_try X I hs hf h
  obtain ⟨hh, gg, dd, tt, os⟩ := s
  have L1 : Looks (model prog w) hh (typeOf a) (.ref C) := ha
  have L2 : Looks (model prog w) hh (typeOf (.ref y)) (.ref D) := I.type
  have L3 : Looks (model prog w) hh (fillsNumberSlot (.ref C) "add") false := fills_none X B
  have L4 : Looks (model prog w) hh (fillsNumberSlot (.ref D) "add") true := fills_K X hcd2 hm2 hds
  have hne : (Value.ref C == Value.ref D) = false := Bool.eq_false_iff.mpr fun q => ne (by have := beq_iff_eq.mp q; cases this; rfl)
  have one : wpAny (model prog w) A (tryMethod (.ref y) (dunderR "add") a) (fun r s' => ∃ v, r = some v ∧ Q v s') E ⟨hh, gg, dd, tt, os⟩ := one
  unfold binaryOp1
  refine wpAny_bind (L1.at (wpAny_bind (L2.at (wpAny_bind (L3.at ?_)))))
  simp only [hne, Bool.false_eq_true, if_false]
  ksp_lk
  refine wpAny_mono one (fun r s' hr' => ?_) fun _ _ e => e
  obtain ⟨v, rfl, hq⟩ := hr'
  ksp_lk
  exact ⟨v, rfl, hq⟩
open PySem.W in
theorem bin_of1 {a b : Value} (h : wpAny (model prog w) A (binaryOp1 "add" a b) (fun r s' => ∃ v, r = some v ∧ Q v s') E s) : wpAny (model prog w) A (binaryOp .Add a b) Q E s := by
  unfold binaryOp
  refine wpAny_holding (wpAny_bind (wpAny_mono h (fun r s' hr' => ?_) fun _ _ e => e))
  obtain ⟨v, rfl, hq⟩ := hr'
  exact wpAny_pure hq
open PySem.W in
theorem inp_of1 {cd : ClassData} (F : Fr h₀ L s.heap m) (X₀ : K.In h₀) (I : InstAt s.heap x ox C od) (hcd : clsIn K C = some cd) (hm : cd.mro = [.ref C, .type "object"])
    (hi : findIn K (.ref C) "__iadd__" = some none) (ho : findIn K (.type "object") "__iadd__" = some none)
    (h : wpAny (model prog w) A (binaryOp1 "add" (.ref x) b) (fun r s' => ∃ v, r = some v ∧ Q v s') E s) : wpAny (model prog w) A (inplaceOp .Add (.ref x) b) Q E s := by
  have X := X₀.keeps F.keep
  obtain ⟨hh, gg, dd, tt, os⟩ := s
  have L1 : Looks (model prog w) hh (typeOf (.ref x)) (.ref C) := I.type
  have L3 : Looks (model prog w) hh (fillsInplaceSlot (.ref C) "add" true) false := fillsI_none X hcd hm hi ho
  unfold inplaceOp
  refine wpAny_holding ?_
  refine wpAny_bind (L1.at ?_)
  refine wpAny_bind (L3.at ?_)
  simp only [Bool.false_eq_true, if_false]
  refine wpAny_bind (m := binaryOp1 "add" (.ref x) b) (wpAny_mono h (fun r s' hr' => ?_) fun _ _ e => e)
  obtain ⟨v, rfl, hq⟩ := hr'
  exact wpAny_pure hq
end
section
variable {X : Cx} {C g : Addr} {fd : FuncData} {ps : List Str} {sp : Sp} {n : Nat}
/-- y is of C, or of a class without + -/
def AddTy (K : PySem.W.Frag) (H : Hp) (C : Addr) (y : V) : Prop := TyX K H y (.ref C) ∨ ∃ D, TyX K H y (.ref D) ∧ lackB K D = true ∧ C ≠ D
def rAddP (K : PySem.W.Frag) (C : Addr) (sp : Sp) : R2 := fun x y H Q => ∃ (a dx : Addr) (fs : List (Str × V)), x = .ref a ∧ H a = some (.ins C dx fs) ∧ AddTy K H C y ∧ sp [.ref a, y] H (fun v H' => ∃ b, v = .ref b ∧ Q (.ref b) H') E0
theorem add1 (F : FnOk X.prog X.w X.K X.mg X.base CX0 n g fd ps sp) (hr : Room n X.A) (m : SpM X.K C g "__add__") (sf : PySem.W.selfFirst X.K C = true) (hb : Binds X.K fd ps []) {pins : List (Addr × Obj)} {s : Shared} {σ : L2.St} {H : Hp} {p dx : Addr} {fs : List (Str × V)} {y : V} {u : Value} {Q : VK} {E : Value → Shared → Prop} (I : Inv X pins σ H s) (ry : RelV y u) (hp : H p = some (.ins C dx fs)) (ty : AddTy X.K H C y) (q : sp [.ref p, y] H (fun v H' => ∃ b, v = .ref b ∧ Q (.ref b) H') E0) :
    wpAny (model X.prog X.w) X.A (binaryOp1 "add" (.ref p) u) (fun r s' => ∃ v, r = some v ∧ EP X pins σ Q v s') E s := by
  obtain ⟨mA, J, _⟩ := ins_get I.hok hp
  obtain ⟨od, J, _⟩ := J.look
  obtain ⟨mm, hF⟩ := I.fr
  have k : wpAny (model X.prog X.w) X.A (call (.ref g) [.ref p, u]) (PySem.W.CmpBack (EP X pins σ Q)) E s := wpAny_mono (runO (vs := [.ref p, y]) F hr hb I I.env0 (.cons rfl (.cons ry .nil)) q) (fun w' s' hq => ep_ref hq) (fun _ _ e => e)
  rcases ty with ty | ⟨D, ty, B, ne⟩
  · obtain ⟨_, Z, pp, _⟩ := kit_of I ry ty
    exact bin1_same hF I.ok.mod.kin J (Z.ty _ _ I.kIn pp) sf m.at_ m.fn k
  · obtain ⟨_, Z, pp, _⟩ := kit_of I ry ty
    exact bin1_lackR hF I.ok.mod.kin J (Z.ty _ _ I.kIn pp) sf m.at_ m.fn B ne k
theorem op_addP (F : FnOk X.prog X.w X.K X.mg X.base CX0 n g fd ps sp) (hr : Room n X.A) (m : SpM X.K C g "__add__") (sf : PySem.W.selfFirst X.K C = true) (hb : Binds X.K fd ps []) : OpR X (binaryOp .Add) (rAddP X.K C sp) := by
  intro pins s σ H x y v u Q I rx ry h
  obtain ⟨a, dx, fs, rfl, ha, ty, q⟩ := h
  cases rx
  exact bin_of1 (add1 F hr m sf hb I ry ha ty q)
/-- x + y, x of a class without +, by y's __radd__ -/
def rRaddP (K : PySem.W.Frag) (C : Addr) (sp : Sp) : R2 := fun x y H Q => ∃ (a dx D : Addr) (fs : List (Str × V)), y = .ref a ∧ H a = some (.ins C dx fs) ∧ TyX K H x (.ref D) ∧ lackB K D = true ∧ D ≠ C ∧ sp [.ref a, x] H (fun v H' => ∃ b, v = .ref b ∧ Q (.ref b) H') E0
theorem op_raddP (F : FnOk X.prog X.w X.K X.mg X.base CX0 n g fd ps sp) (hr : Room n X.A) (m : SpM X.K C g "__radd__") {g2 : Addr} (m2 : SpM X.K C g2 "__add__") (sf : PySem.W.selfFirst X.K C = true) (hb : Binds X.K fd ps []) : OpR X (binaryOp .Add) (rRaddP X.K C sp) := by
  intro pins s σ H x y v u Q I rx ry h
  obtain ⟨a, dx, D, fs, rfl, ha, ty, B, ne, q⟩ := h
  cases ry
  obtain ⟨mA, J, _⟩ := ins_get I.hok ha
  obtain ⟨od, J, _⟩ := J.look
  obtain ⟨mm, hF⟩ := I.fr
  obtain ⟨_, Z, pp, _⟩ := kit_of I rx ty
  exact bin_of1 (bin1_lackL hF I.ok.mod.kin J (Z.ty _ _ I.kIn pp) B ne sf ⟨g2, m2.at_⟩ m.at_ m.fn (wpAny_mono (runO (vs := [.ref a, x]) F hr hb I I.env0 (.cons rfl (.cons rx .nil)) q) (fun w' s' hq => ep_ref hq) (fun _ _ e => e)))
def rIaddP (K : PySem.W.Frag) (C : Addr) (sp : Sp) : TIp := fun x y H Q => rAddP K C sp x y H Q
theorem pip_iaddP (B : fallB X.K C = true) (sf : PySem.W.selfFirst X.K C = true) (m : SpM X.K C g "__add__") (F : FnOk X.prog X.w X.K X.mg X.base CX0 n g fd ps sp) (hr : Room n X.A) (hb : Binds X.K fd ps []) : PIp X .Add (rIaddP X.K C sp) := by
  unfold fallB at B
  simp only [Bool.and_eq_true] at B
  obtain ⟨b1, b2, b3⟩ := B
  obtain ⟨cd, hcd, hm⟩ : ∃ cd, PySem.W.clsIn X.K C = some cd ∧ cd.mro = [.ref C, .type "object"] := by
    cases h1 : PySem.W.clsIn X.K C with
    | none => rw [h1] at b1; cases b1
    | some cd => rw [h1] at b1; exact ⟨cd, rfl, beq_iff_eq.mp b1⟩
  intro pins s σ H x y v u Q I rx ry h
  obtain ⟨p, dx, fs, rfl, hp, ty, q⟩ := h
  cases rx
  obtain ⟨mA, J, _⟩ := ins_get I.hok hp
  obtain ⟨od, J, _⟩ := J.look
  obtain ⟨mm, hF⟩ := I.fr
  exact inp_of1 hF I.ok.mod.kin J hcd hm (beq_iff_eq.mp b2) (beq_iff_eq.mp b3) (add1 F hr m sf hb I ry hp ty q)
end
end Vc

/-! Xmt: match of a text with texts, and a last case _ (my own). -/
namespace Vc
open PySem PySem.Spec PyProof.Rows L2
section
variable {M : Model} {A : Around} {E : Value → Shared → Prop} {s : Shared} {env : Env}
theorem exec_Match (e cs pos) : exec (.Match e cs pos) env = (do standAt pos; let v ← eval e env; matchCases cs env v true) := rfl
theorem matchCases_nil (v b) : matchCases [] env v b = pure .next := rfl
theorem matchPattern_value (e p u) : matchPattern (.MatchValue e p) env u = (do
    let v ← eval e env
    standAt p
    if ← truthy (← compareOp .Eq u v) then pure (some []) else pure none) := rfl
theorem matchPattern_wild (p u) : matchPattern (.MatchAs none none p) env u = pure (some []) := rfl
theorem wpAny_Match {e : Expr} {cs : List MatchCase} {pos : Pos} {Q : Flow → Shared → Prop} (h : wpAny M A (eval e env) (fun v s1 => wpAny M A (matchCases cs env v true) Q E s1) E s) : wpAny M A (exec (.Match e cs pos) env) Q E s := fun Γ p hΓ => by
  simp only [exec_Match, Sem.wp_bind', Sem.wp_cmd_standAt]
  exact Sem.wp_mono M Γ _ (fun v p₂ s₂ h₂ => h₂ Γ p₂ hΓ) (fun _ _ _ h' => h') _ _ (h Γ _ hΓ)
theorem wpAny_mvalue {e : Expr} {p : Pos} {u : Value} {Q : Option (List (Str × Value)) → Shared → Prop}
    (h : wpAny M A (eval e env) (fun v s1 => wpAny M A (compareOp .Eq u v) (fun c s2 => wpAny M A (truthy c) (fun b s3 => Q (if b = true then some [] else none) s3) E s2) E s1) E s) : wpAny M A (matchPattern (.MatchValue e p) env u) Q E s := fun Γ q hΓ => by
  simp only [matchPattern_value, Sem.wp_bind', Sem.wp_cmd_standAt]
  refine Sem.wp_mono M Γ _ (fun v p₁ s₁ h₁ => Sem.wp_mono M Γ _ (fun c p₂ s₂ h₂ => Sem.wp_mono M Γ _ (fun b p₃ s₃ h₃ => ?_) (fun _ _ _ h' => h') _ _ (h₂ Γ _ hΓ)) (fun _ _ _ h' => h') _ _ (h₁ Γ _ hΓ)) (fun _ _ _ h' => h') _ _ (h Γ q hΓ)
  cases b with
  | true => exact h₃
  | false => exact h₃
theorem matchCases_cons {pt : Pattern} {body : List Stmt} {rest : List MatchCase} {u : Value} {first : Bool} {Q : Flow → Shared → Prop}
    (h : wpAny M A (matchPattern pt env u) (fun o s1 => match o with
      | none => wpAny M A (matchCases rest env u false) Q E s1
      | some bs => bs = [] ∧ wpAny M A (execs body env) Q E s1) E s) : wpAny M A (matchCases (⟨pt, none, body⟩ :: rest) env u first) Q E s := by
  unfold matchCases
  refine wpAny_bind (wpAny_holding (wpAny_mono h (fun o s1 q => ?_) fun _ _ x => x))
  match o, q with
  | none, q => exact q
  | some bs, ⟨e, q⟩ =>
    subst e
    refine wpAny_bind (wpAny_holding ?_)
    refine wpAny_pure ?_
    refine wpAny_bind (wpAny_pure ?_)
    exact q
end
section
variable {X : Cx}
structure PMs (X : Cx) (cs : List MatchCase) (t : Str → TS) : Prop where
  run : ∀ (pins : List (Addr × Obj)) (s : Shared) (σ : L2.St) (H : Hp) (D : Ends) (z : Str) (u : Value) (first : Bool), Inv X pins σ H s → RelV (.str z) u → t z D σ H → wpAny (model X.prog X.w) X.A (matchCases cs X.env u first) (SP X pins D) X.xe s
def tCaseS (c : Str) (t : TS) (r : Str → TS) : Str → TS := fun z D σ H => (z = c → t D σ H) ∧ (z ≠ c → r z D σ H)
def tElse (t : TS) : Str → TS := fun _ => t
def tMatch (te : TE) (t : Str → TS) : TS := fun D σ H => te σ H fun x H1 => ∃ z, x = .str z ∧ t z D σ H1
theorem pm_else {body : List Stmt} {p : Pos} {t : TS} (hb : PSs X body t) : PMs X [⟨.MatchAs none none p, none, body⟩] (tElse t) := by
  refine ⟨fun pins s σ H D z u first I r h => matchCases_cons ?_⟩
  rw [matchPattern_wild]
  exact wpAny_pure ⟨rfl, hb.run pins s σ H D I h⟩
theorem pm_case {c : Str} {k : Nat} {p1 p2 : Pos} {body : List Stmt} {rest : List MatchCase} {t : TS} {r : Str → TS} (hb : PSs X body t) (hr : PMs X rest r) : PMs X (⟨.MatchValue (.Constant (.str c) k p1) p2, none, body⟩ :: rest) (tCaseS c t r) := by
  refine ⟨fun pins s σ H D z u first I ru h => matchCases_cons (wpAny_mvalue ?_)⟩
  refine thn ((pe_str (x := c) (j := k) (pos := p1)).run pins s σ H (fun v H1 => v = .str c ∧ H1 = H) I ⟨rfl, rfl⟩) fun v s1 ⟨x, H1, I1, r1, e1, e2⟩ => ?_
  subst e1 e2
  refine thn (op_eq pins s1 σ H1 (.str z) (.str c) u v (fun w H' => w = .bl (decide (z = c)) ∧ H' = H1) I1 ru r1 (go_eqS ⟨rfl, rfl⟩)) fun w s2 ⟨y, H2, I2, r2, e1, e2⟩ => ?_
  subst e1 e2
  cases r2
  refine wpAny_truthy_bool ?_
  by_cases hz : z = c
  · rw [decide_eq_true hz, if_pos rfl]
    exact ⟨rfl, hb.run pins s2 σ H2 D I2 (h.1 hz)⟩
  · rw [decide_eq_false hz, if_neg (by decide)]
    exact hr.run pins s2 σ H2 D z u false I2 ru (h.2 hz)
theorem ps_match {e : Expr} {cs : List MatchCase} {pos : Pos} {te : TE} {t : Str → TS} (he : PE X e te) (hc : PMs X cs t) : PS X (.Match e cs pos) (tMatch te t) := by
  refine ⟨fun pins s σ H D I h => wpAny_Match (thn (he.run pins s σ H _ I h) fun u s1 ⟨x, H1, I1, r1, z, ez, q⟩ => ?_)⟩
  subst ez
  exact hc.run pins s1 σ H1 D z u true I1 r1 q
theorem go_match {te : TE} {t : Str → TS} {D : Ends} {σ : L2.St} {H : Hp} (h : te σ H fun x H1 => ∃ z, x = .str z ∧ t z D σ H1) : tMatch te t D σ H := h
theorem go_caseT {c : Str} {t : TS} {r : Str → TS} {D : Ends} {σ : L2.St} {H : Hp} (h : t D σ H) : tCaseS c t r c D σ H := ⟨fun _ => h, fun z => (z rfl).elim⟩
theorem go_caseF {c z : Str} {t : TS} {r : Str → TS} {D : Ends} {σ : L2.St} {H : Hp} (n : z ≠ c) (h : r z D σ H) : tCaseS c t r z D σ H := ⟨fun e => (n e).elim, fun _ => h⟩
end
end Vc

/-! Xks: o.m(k = v, ..) that may raise, wished for at the caller's slots (my own; pe_methK0 with pe_methS's wish). -/
namespace Vc
open PySem PySem.Spec PyProof.Rows L2
section
variable {X : Cx} {CX : CXT} {k : Nat} {f C : Addr} {fd : FuncData} {ps ks : List Str} {sp : Sp} {E : L2.St → XK} {m : Str} {pos apos : Pos} {o : Expr} {kws : List Keyword} {ta : TE} {tk : TA} {g : List Value → List Value → List Value} {gV : List V → List V → List V}
theorem run_fnkS {pins : List (Addr × Obj)} {σ : L2.St} {H : Hp} {s : Shared} {Q : VK} {E : XK} {us ws : List Value} {vs zs : List V} (F : FnOk X.prog X.w X.K X.mg X.base CX k f fd ps sp) (hr : Room k X.A) (hb : KBinds X.K fd ps ks g gV) (hx : PassesAt CX X σ E) (I : Inv X pins σ H s) (r : Vals vs us) (rz : Vals zs ws) (q : sp (gV vs zs) H Q E) :
    wpAny (model X.prog X.w) X.A (call (Value.ref f) us (ks.zip ws)) (EP X pins σ Q) X.xe s := by
  have r2 := hb.rel r rz
  have hl : (g us ws).length = ps.length := by rw [← r2.length]; exact F.len _ _ _ _ q
  refine wpAny_call (codeAny_mono (F.run X.A X.stack s H ⟨us, ks.zip ws⟩ (g us ws) (gV vs zs) Q E hr I.env0 (hb.to s us ws I.kIn hl) r2 q) fun r s' hq => ?_)
  cases r with
  | error e => exact hx pins H s e s' I hq
  | ok fl =>
    cases fl with
    | ret u => exact I.after hq
    | next => exact False.elim hq
    | brk => exact False.elim hq
    | cont => exact False.elim hq
def tMethKS (C : Addr) (m : Str) (sp : Sp) (gV : List V → List V → List V) (E : L2.St → XK) (ta : TE) (tk : TA) : TE := fun σ H Q => ta σ H fun x H1 => ∃ a dx fs, x = .ref a ∧ H1 a = some (.ins C dx fs) ∧ fs.lookup m = none ∧ tk σ H1 fun zs H2 => sp (gV [x] zs) H2 Q (E σ)
/-- o.m(k = v, ..), which may raise -/
theorem pe_methKS0 {pl : Sem Bool} (he : PE X o ta) (c : Cls X.K C) (hm : Meth X.K C m f) (F : FnOk X.prog X.w X.K X.mg X.base CX k f fd ps sp) (hr : Room k X.A) (hb : KBinds X.K fd ps ks g gV) (hx : ∀ σ, PassesAt CX X σ (E σ)) (hkw : PK X kws tk)
    (hall : (backToKw pos (keywordEach kws X.env)).all (·.1.isSome) = true := by rfl) (hks : (backToKw pos (keywordEach kws X.env)).filterMap (·.1) = ks := by rfl)
    (hpl : ((backTo pos (starEach [] X.env)).any (·.1) || (backToKw pos (keywordEach kws X.env)).any (·.1.isNone)) = false := by rfl)
    (ht : eval (.Call (.Attribute o m apos) [] kws pos) X.env = (do
      let ov ← eval o X.env
      standAt apos.atName
      let (f, first) ← holding [ov] (getMethod ov m pl)
      callWith pos f first (backTo pos (starEach [] X.env)) (backToKw pos (keywordEach kws X.env))) := by rfl) :
    PE X (.Call (.Attribute o m apos) [] kws pos) (tMethKS C m sp gV E ta tk) := by
  refine ⟨fun pins s σ H Q I h => ?_⟩
  refine PySem.W.methodCall_KW (pl := pl) (thn (he.run pins s σ H _ I h) fun u s1 ⟨x, H1, I1, rx, a, dx, fs, ex, ea, l, q⟩ => ?_) ht
  subst ex
  obtain rfl : u = Value.ref a := rx
  refine getmeth_ok I1 ea c hm l ?_
  refine PySem.W.callWith_KW0 (first := [.ref a]) (h₀ := X.base) I.ok.mod.kin hm.kp hall (thn (hkw.run pos pins s1 σ H1 _ I1 q) fun ws s2 ⟨zs, H2, I2, rz, q2⟩ => ⟨I2.kIn, ?_⟩) hpl
  rw [hks]
  exact run_fnkS (us := [.ref a]) (vs := [.ref a]) F hr hb (hx σ) I2 (.cons rfl .nil) rz q2
variable {σ : L2.St} {H : Hp} {Q : VK}
theorem go_methKS (h : ta σ H fun x H1 => ∃ a dx fs, x = .ref a ∧ H1 a = some (.ins C dx fs) ∧ fs.lookup m = none ∧ tk σ H1 fun zs H2 => sp (gV [x] zs) H2 Q (E σ)) : tMethKS C m sp gV E ta tk σ H Q := h
end
/-- xs[i], the written part named -/
theorem ix_lK {X : Cx} {K : PySem.W.Frag} (h : X.K = K) : IxR X (rIxL K) := h ▸ ix_list
end Vc

/-! Xpm: a method by keywords that may raise; a method that is one of two, as the class tells (my own). -/
namespace Vc
open PySem PySem.Spec PyProof.Rows L2
section
variable {X : Cx} {CX CX1 CX2 : CXT} {k k1 k2 : Nat} {C f f1 f2 : Addr} {fd fd1 fd2 : FuncData} {ps ps1 ps2 ks : List Str} {sp sp1 sp2 : Sp} {E : L2.St → XK} {x m : Str} {p pos apos : Pos} {e o : Expr} {es : List Expr} {ta : TE} {t tk : TA} {kws : List Keyword} {g g1 g2 : List Value → List Value → List Value} {gV gV1 gV2 : List V → List V → List V}
/-- o.m(..), m one of two -/
def tMeth2 (K : PySem.W.Frag) (m : Str) (f1 : Addr) (sp1 : Sp) (f2 : Addr) (sp2 : Sp) (E : L2.St → XK) (ta : TE) (t : TA) : TE := fun σ H Q => ta σ H fun x H1 => ∃ a C dx fs, x = .ref a ∧ H1 a = some (.ins C dx fs) ∧ fs.lookup m = none ∧ Cls K C ∧
  ((Meth K C m f1 ∧ t σ H1 fun vs H2 => sp1 (.ref a :: vs) H2 Q (E σ)) ∨ (Meth K C m f2 ∧ t σ H1 fun vs H2 => sp2 (.ref a :: vs) H2 Q (E σ)))
theorem pe_meth2 {pl : Sem Bool} (he : PE X o ta) (F1 : FnOk X.prog X.w X.K X.mg X.base CX1 k1 f1 fd1 ps1 sp1) (hr1 : Room k1 X.A) (hb1 : Binds X.K fd1 ps1 []) (hx1 : ∀ σ, PassesAt CX1 X σ (E σ))
    (F2 : FnOk X.prog X.w X.K X.mg X.base CX2 k2 f2 fd2 ps2 sp2) (hr2 : Room k2 X.A) (hb2 : Binds X.K fd2 ps2 []) (hx2 : ∀ σ, PassesAt CX2 X σ (E σ)) (ha : PA X (e :: es) t)
    (hst : starEach (e :: es) X.env = (false, eval e X.env) :: starEach es X.env := by rfl) (hpl : (backTo pos (starEach es X.env)).any (·.1) = false := by rfl)
    (ht : eval (.Call (.Attribute o m apos) (e :: es) [] pos) X.env = (do
      let ov ← eval o X.env
      standAt apos.atName
      let (f, first) ← holding [ov] (getMethod ov m pl)
      callWith pos f first (backTo pos (starEach (e :: es) X.env)) (backToKw pos (keywordEach [] X.env))) := by rfl) :
    PE X (.Call (.Attribute o m apos) (e :: es) [] pos) (tMeth2 X.K m f1 sp1 f2 sp2 E ta t) := by
  refine ⟨fun pins s σ H Q I h => ?_⟩
  refine PySem.W.methodCall_KW (pl := pl) (thn (he.run pins s σ H _ I h) fun u s1 ⟨x, H1, I1, rx, a, C, dx, fs, ex, ea, l, c, q⟩ => ?_) ht
  subst ex
  obtain rfl : u = Value.ref a := rx
  rcases q with ⟨hm, q⟩ | ⟨hm, q⟩
  · refine getmeth_ok I1 ea c hm l ?_
    refine PySem.W.callWith_K (first := [.ref a]) (h₀ := X.base) I.ok.mod.kin hm.kp (thn (ha.run pos pins s1 σ H1 _ I1 q) fun us s2 ⟨vs, H2, I2, r, q2⟩ => ⟨I2.kIn, ?_⟩) hst hpl
    exact run_fnS (us := .ref a :: us) (vs := .ref a :: vs) F1 hr1 hb1 (hx1 σ) I2 (.cons rfl r) q2
  · refine getmeth_ok I1 ea c hm l ?_
    refine PySem.W.callWith_K (first := [.ref a]) (h₀ := X.base) I.ok.mod.kin hm.kp (thn (ha.run pos pins s1 σ H1 _ I1 q) fun us s2 ⟨vs, H2, I2, r, q2⟩ => ⟨I2.kIn, ?_⟩) hst hpl
    exact run_fnS (us := .ref a :: us) (vs := .ref a :: vs) F2 hr2 hb2 (hx2 σ) I2 (.cons rfl r) q2
/-- .. by keywords -/
def tMeth2K (K : PySem.W.Frag) (m : Str) (f1 : Addr) (sp1 : Sp) (f2 : Addr) (sp2 : Sp) (gV1 gV2 : List V → List V → List V) (E : L2.St → XK) (ta : TE) (tk : TA) : TE := fun σ H Q => ta σ H fun x H1 => ∃ a C dx fs, x = .ref a ∧ H1 a = some (.ins C dx fs) ∧ fs.lookup m = none ∧ Cls K C ∧
  ((Meth K C m f1 ∧ tk σ H1 fun zs H2 => sp1 (gV1 [.ref a] zs) H2 Q (E σ)) ∨ (Meth K C m f2 ∧ tk σ H1 fun zs H2 => sp2 (gV2 [.ref a] zs) H2 Q (E σ)))
theorem pe_meth2K {pl : Sem Bool} (he : PE X o ta) (F1 : FnOk X.prog X.w X.K X.mg X.base CX1 k1 f1 fd1 ps1 sp1) (hr1 : Room k1 X.A) (hb1 : KBinds X.K fd1 ps1 ks g1 gV1) (hx1 : ∀ σ, PassesAt CX1 X σ (E σ))
    (F2 : FnOk X.prog X.w X.K X.mg X.base CX2 k2 f2 fd2 ps2 sp2) (hr2 : Room k2 X.A) (hb2 : KBinds X.K fd2 ps2 ks g2 gV2) (hx2 : ∀ σ, PassesAt CX2 X σ (E σ)) (hkw : PK X kws tk)
    (hall : (backToKw pos (keywordEach kws X.env)).all (·.1.isSome) = true := by rfl) (hks : (backToKw pos (keywordEach kws X.env)).filterMap (·.1) = ks := by rfl)
    (hpl : ((backTo pos (starEach [] X.env)).any (·.1) || (backToKw pos (keywordEach kws X.env)).any (·.1.isNone)) = false := by rfl)
    (ht : eval (.Call (.Attribute o m apos) [] kws pos) X.env = (do
      let ov ← eval o X.env
      standAt apos.atName
      let (f, first) ← holding [ov] (getMethod ov m pl)
      callWith pos f first (backTo pos (starEach [] X.env)) (backToKw pos (keywordEach kws X.env))) := by rfl) :
    PE X (.Call (.Attribute o m apos) [] kws pos) (tMeth2K X.K m f1 sp1 f2 sp2 gV1 gV2 E ta tk) := by
  refine ⟨fun pins s σ H Q I h => ?_⟩
  refine PySem.W.methodCall_KW (pl := pl) (thn (he.run pins s σ H _ I h) fun u s1 ⟨x, H1, I1, rx, a, C, dx, fs, ex, ea, l, c, q⟩ => ?_) ht
  subst ex
  obtain rfl : u = Value.ref a := rx
  rcases q with ⟨hm, q⟩ | ⟨hm, q⟩
  · refine getmeth_ok I1 ea c hm l ?_
    refine PySem.W.callWith_KW0 (first := [.ref a]) (h₀ := X.base) I.ok.mod.kin hm.kp hall (thn (hkw.run pos pins s1 σ H1 _ I1 q) fun ws s2 ⟨zs, H2, I2, rz, q2⟩ => ⟨I2.kIn, ?_⟩) hpl
    rw [hks]
    exact run_fnkS (us := [.ref a]) (vs := [.ref a]) F1 hr1 hb1 (hx1 σ) I2 (.cons rfl .nil) rz q2
  · refine getmeth_ok I1 ea c hm l ?_
    refine PySem.W.callWith_KW0 (first := [.ref a]) (h₀ := X.base) I.ok.mod.kin hm.kp hall (thn (hkw.run pos pins s1 σ H1 _ I1 q) fun ws s2 ⟨zs, H2, I2, rz, q2⟩ => ⟨I2.kIn, ?_⟩) hpl
    rw [hks]
    exact run_fnkS (us := [.ref a]) (vs := [.ref a]) F2 hr2 hb2 (hx2 σ) I2 (.cons rfl .nil) rz q2
theorem go_meth2 {K : PySem.W.Frag} {σ : L2.St} {H : Hp} {Q : VK} (h : ta σ H fun x H1 => ∃ a C dx fs, x = .ref a ∧ H1 a = some (.ins C dx fs) ∧ fs.lookup m = none ∧ Cls K C ∧
  ((Meth K C m f1 ∧ t σ H1 fun vs H2 => sp1 (.ref a :: vs) H2 Q (E σ)) ∨ (Meth K C m f2 ∧ t σ H1 fun vs H2 => sp2 (.ref a :: vs) H2 Q (E σ)))) : tMeth2 K m f1 sp1 f2 sp2 E ta t σ H Q := h
theorem go_meth2K {K : PySem.W.Frag} {σ : L2.St} {H : Hp} {Q : VK} (h : ta σ H fun x H1 => ∃ a C dx fs, x = .ref a ∧ H1 a = some (.ins C dx fs) ∧ fs.lookup m = none ∧ Cls K C ∧
  ((Meth K C m f1 ∧ tk σ H1 fun zs H2 => sp1 (gV1 [.ref a] zs) H2 Q (E σ)) ∨ (Meth K C m f2 ∧ tk σ H1 fun zs H2 => sp2 (gV2 [.ref a] zs) H2 Q (E σ)))) : tMeth2K K m f1 sp1 f2 sp2 gV1 gV2 E ta tk σ H Q := h
end
/-! ### C( *y) -/
section
variable {X : Cx} {CX : CXT} {k : Nat} {f C : Addr} {sp : Sp} {E : L2.St → XK} {x : Str} {e : Expr} {te : TE} {p sp_ pos : Pos}
theorem pe_makeV1 (M : Mk X.K C f) (F : FnR X.prog X.w X.K X.mg X.base CX k f sp) (hr : Room (k + 1) X.A) (hg : Gl X x) (hm : X.mg x = some (.ref C)) (hx : ∀ σ, PassesAt CX X σ (E σ))
    (he : PE X e te) (hdb : (x == ("__debug__" : Str)) = false := by decide) (hst : starEach [.Starred e sp_] X.env = [(true, eval e X.env)] := by rfl) :
    PE X (.Call (.Name x p) [.Starred e sp_] [] pos) (tMakeS C sp E (StX.tStar X.K te tNil)) := by
  refine ⟨fun pins s σ H Q I h => ?_⟩
  refine wpAny_Call_Name_kw (ld_glob I hg hm ?_ hdb)
  refine PySem.W.callWith_S (h₀ := X.base) I.ok.mod.kin M.kp (thn (he.run pins s σ H _ I h) fun v s1 ⟨y, H1, I1, ry, a, xs, ey, hxs, q⟩ => ?_) hst
  subst ey
  obtain rfl : v = Value.ref a := ry
  have q : ∀ x dx, H1 x = none → H1 dx = none → dx ≠ x → sp (.ref x :: (xs ++ [])) (upd (upd H1 dx (.own x)) x (.ins C dx [])) (fun v H2 => v = .non ∧ Q (.ref x) H2) (E σ) := q
  rw [List.append_nil] at q
  exact StX.star_any I1 hxs fun us s2 I2 rv => ⟨I2.kIn, run_makeV M F hr (hx σ) I2 rv q⟩
end
/-- two readings of an expression -/
def tOrR (t t' : TE) : TE := fun σ H Q => t σ H Q ∨ t' σ H Q
theorem go_orL {t t' : TE} {σ : L2.St} {H : Hp} {Q : VK} (h : t σ H Q) : tOrR t t' σ H Q := .inl h
theorem go_orG {t t' : TE} {σ : L2.St} {H : Hp} {Q : VK} (h : t' σ H Q) : tOrR t t' σ H Q := .inr h
theorem pe_orR {X : Cx} {e : Expr} {t t' : TE} (h : PE X e t) (h' : PE X e t') : PE X e (tOrR t t') :=
  ⟨fun pins s σ H Q I q => q.elim (h.run pins s σ H Q I) (h'.run pins s σ H Q I)⟩
end Vc

/-! Xh: the end of a law over a head by one kernel run: what stands behind the top is told by Bools over a part of the heap and by the parts of each def (my own). -/
namespace Hx
open PySem PySem.Spec PyProof.Rows L2
/-! ### Bools over the part -/
def chk (l : List (PySem.W.Frag → Bool)) (K : PySem.W.Frag) : Bool := l.all fun f => f K
theorem fact {l : List (PySem.W.Frag → Bool)} {K : PySem.W.Frag} (h : chk l K = true) (i : Nat) {f : PySem.W.Frag → Bool} (e : l[i]? = some f) : f K = true := List.all_eq_true.mp h f (List.mem_of_getElem? e)
theorem chk_app {a b : List (PySem.W.Frag → Bool)} {K : PySem.W.Frag} (h : chk (a ++ b) K = true) : chk a K = true ∧ chk b K = true := by
  have h1 : (a ++ b).all (fun f => f K) = true := h
  rw [List.all_append] at h1
  exact Bool.and_eq_true_iff.mp h1
theorem app_chk {a b : List (PySem.W.Frag → Bool)} {K : PySem.W.Frag} (h1 : chk a K = true) (h2 : chk b K = true) : chk (a ++ b) K = true := by
  show (a ++ b).all (fun f => f K) = true
  rw [List.all_append]
  exact Bool.and_eq_true_iff.mpr ⟨h1, h2⟩
/-! ### defs -/
structure Dq where
  a : Addr
  name : Str
  qual : Str
  params : Arguments
  body : List Stmt
  scope : Scope
  clo : List (Str × Addr)
abbrev FnQ : Type := Option (Str × Str × Arguments × FuncBody × Scope × Addr × List (Str × Addr) × Addr)
def fnQ (K : PySem.W.Frag) (d : Dq) : FnQ := match K.lookup d.a with
  | some ⟨_, _, .func fd, _⟩ => some (fd.name, fd.qualname, fd.params, fd.body, fd.scope, fd.globals, fd.closure, fd.builtins)
  | _ => none
def Dq.val (d : Dq) : FnQ := some (d.name, d.qual, d.params, .stmts d.body, d.scope, mainGlobals, d.clo, builtinsNs)
def fdB (K : PySem.W.Frag) (a : Addr) (p : FuncData → Bool) : Bool := match K.lookup a with
  | some ⟨_, _, .func fd, _⟩ => p fd
  | _ => false
def nonV : Value → Bool
  | .none => true
  | _ => false
def refB (n : Addr) : Value → Bool
  | .ref a => a == n
  | _ => false
theorem nonV_ok {v : Value} (h : nonV v = true) : v = .none := by cases v <;> first | rfl | cases h
theorem refB_ok {n : Addr} {v : Value} (h : refB n v = true) : v = .ref n := by
  cases v with
  | ref a => rw [beq_iff_eq.mp (show (a == n) = true from h)]
  | _ => cases h
theorem ba {a b : Bool} (h : (a && b) = true) : a = true ∧ b = true := Bool.and_eq_true_iff.mp h
theorem at_map {fn : List Dq} {K : PySem.W.Frag} (e : fn.map (fnQ K) = fn.map Dq.val) (i : Nat) {d : Dq} (h : fn[i]? = some d) : fnQ K d = d.val := by
  have e2 : (fn.map (fnQ K))[i]? = (fn.map Dq.val)[i]? := by rw [e]
  rw [List.getElem?_map, List.getElem?_map, h] at e2
  exact Option.some.inj e2
theorem fq {K : PySem.W.Frag} {d : Dq} {p : FuncData → Bool} (e : fnQ K d = d.val) (c : fdB K d.a p = true) :
    ∃ fd oc od sl, K.lookup d.a = some ⟨oc, od, .func fd, sl⟩ ∧ p fd = true ∧ fd.name = d.name ∧ fd.qualname = d.qual ∧ fd.params = d.params ∧ fd.body = .stmts d.body ∧ fd.scope = d.scope ∧ fd.globals = mainGlobals ∧ fd.closure = d.clo ∧ fd.builtins = builtinsNs := by
  unfold fdB at c
  unfold fnQ at e
  cases q : K.lookup d.a with
  | none =>
    rw [q] at c
    cases c
  | some o =>
    obtain ⟨oc, od, dt, osl⟩ := o
    rw [q] at c e
    cases dt with
    | func fd =>
      have e2 : (some (fd.name, fd.qualname, fd.params, fd.body, fd.scope, fd.globals, fd.closure, fd.builtins) : FnQ) = some (d.name, d.qual, d.params, .stmts d.body, d.scope, mainGlobals, d.clo, builtinsNs) := e
      simp only [Option.some.injEq, Prod.mk.injEq] at e2
      obtain ⟨h1, h2, h3, h4, h5, h6, h7, h8⟩ := e2
      exact ⟨fd, oc, od, osl, rfl, c, h1, h2, h3, h4, h5, h6, h7, h8⟩
    | _ => cases c
def pPlain (K : PySem.W.Frag) (q : Str) (fd : FuncData) : Bool := nonV fd.defaults && PySem.W.codeIn K fd.code q
def pDfl (K : PySem.W.Frag) (q : Str) (t : Addr) (fd : FuncData) : Bool := refB t fd.defaults && PySem.W.codeIn K fd.code q
def pKwd (K : PySem.W.Frag) (q : Str) (t : Addr) (fd : FuncData) : Bool := nonV fd.defaults && (refB t fd.kwdefaults && PySem.W.codeIn K fd.code q)
def pSup (K : PySem.W.Frag) (q : Str) (c : Addr) (fd : FuncData) : Bool := nonV fd.defaults && (refB c fd.code && PySem.W.codeIn K (.ref c) q)
section
variable {K : PySem.W.Frag} {a : Addr} {x q : Str} {ps : Arguments} {bd : List Stmt} {sc : Scope}
theorem plain_ok (e : fnQ K ⟨a, x, q, ps, bd, sc, []⟩ = (Dq.mk a x q ps bd sc []).val) (c : fdB K a (pPlain K q) = true) :
    ∃ (oc kV dc pm cd ct : Value) (od an : Option Addr) (sl : Array (Option Value)), K.lookup a = some ⟨oc, od, .func (PySem.W.fnOf x q ps bd sc .none kV dc pm an cd ct), sl⟩ ∧ PySem.W.codeIn K cd q = true := by
  obtain ⟨fd, oc, od, sl, lk, h, e1, e2, e3, e4, e5, e6, e7, e8⟩ := fq (d := ⟨a, x, q, ps, bd, sc, []⟩) e c
  obtain ⟨n1, n2, n3, n4, n5, n6, n7, n8, n9, n10, n11, n12, n13, n14, n15⟩ := fd
  dsimp only at e1 e2 e3 e4 e5 e6 e7 e8
  subst e1 e2 e3 e4 e5 e6 e7 e8
  obtain ⟨h1, h2⟩ := ba h
  obtain rfl : n8 = .none := nonV_ok h1
  exact ⟨oc, n9, n10, n11, n13, n14, od, n12, sl, lk, h2⟩
theorem dfl_ok {t : Addr} (e : fnQ K ⟨a, x, q, ps, bd, sc, []⟩ = (Dq.mk a x q ps bd sc []).val) (c : fdB K a (pDfl K q t) = true) :
    ∃ (oc kV dc pm cd ct : Value) (od an : Option Addr) (sl : Array (Option Value)), K.lookup a = some ⟨oc, od, .func (PySem.W.fnOf x q ps bd sc (.ref t) kV dc pm an cd ct), sl⟩ ∧ PySem.W.codeIn K cd q = true := by
  obtain ⟨fd, oc, od, sl, lk, h, e1, e2, e3, e4, e5, e6, e7, e8⟩ := fq (d := ⟨a, x, q, ps, bd, sc, []⟩) e c
  obtain ⟨n1, n2, n3, n4, n5, n6, n7, n8, n9, n10, n11, n12, n13, n14, n15⟩ := fd
  dsimp only at e1 e2 e3 e4 e5 e6 e7 e8
  subst e1 e2 e3 e4 e5 e6 e7 e8
  obtain ⟨h1, h2⟩ := ba h
  obtain rfl : n8 = .ref t := refB_ok h1
  exact ⟨oc, n9, n10, n11, n13, n14, od, n12, sl, lk, h2⟩
theorem kwd_ok {t : Addr} (e : fnQ K ⟨a, x, q, ps, bd, sc, []⟩ = (Dq.mk a x q ps bd sc []).val) (c : fdB K a (pKwd K q t) = true) :
    ∃ (oc dc pm cd ct : Value) (od an : Option Addr) (sl : Array (Option Value)), K.lookup a = some ⟨oc, od, .func (PySem.W.fnOf x q ps bd sc .none (.ref t) dc pm an cd ct), sl⟩ ∧ PySem.W.codeIn K cd q = true := by
  obtain ⟨fd, oc, od, sl, lk, h, e1, e2, e3, e4, e5, e6, e7, e8⟩ := fq (d := ⟨a, x, q, ps, bd, sc, []⟩) e c
  obtain ⟨n1, n2, n3, n4, n5, n6, n7, n8, n9, n10, n11, n12, n13, n14, n15⟩ := fd
  dsimp only at e1 e2 e3 e4 e5 e6 e7 e8
  subst e1 e2 e3 e4 e5 e6 e7 e8
  obtain ⟨h1, h2⟩ := ba h
  obtain ⟨h2, h3⟩ := ba h2
  obtain rfl : n8 = .none := nonV_ok h1
  obtain rfl : n9 = .ref t := refB_ok h2
  exact ⟨oc, n10, n11, n13, n14, od, n12, sl, lk, h3⟩
theorem sup_ok {cda cc : Addr} (e : fnQ K ⟨a, x, q, ps, bd, sc, [("__class__", cc)]⟩ = (Dq.mk a x q ps bd sc [("__class__", cc)]).val) (c : fdB K a (pSup K q cda) = true) :
    ∃ (oc kV dc pm ct : Value) (od an : Option Addr) (sl : Array (Option Value)), K.lookup a = some ⟨oc, od, .func (PySem.W.ksFn x q ps bd sc .none kV dc pm an (.ref cda) ct cc), sl⟩ ∧ PySem.W.codeIn K (.ref cda) q = true := by
  obtain ⟨fd, oc, od, sl, lk, h, e1, e2, e3, e4, e5, e6, e7, e8⟩ := fq (d := ⟨a, x, q, ps, bd, sc, [("__class__", cc)]⟩) e c
  obtain ⟨n1, n2, n3, n4, n5, n6, n7, n8, n9, n10, n11, n12, n13, n14, n15⟩ := fd
  dsimp only at e1 e2 e3 e4 e5 e6 e7 e8
  subst e1 e2 e3 e4 e5 e6 e7 e8
  obtain ⟨h1, h2⟩ := ba h
  obtain ⟨h2, h3⟩ := ba h2
  obtain rfl : n8 = .none := nonV_ok h1
  obtain rfl : n13 = .ref cda := refB_ok h2
  exact ⟨oc, n9, n10, n11, n14, od, n12, sl, lk, h3⟩
end
/-! ### other facts -/
section
variable {K : PySem.W.Frag}
def recB1 (K : PySem.W.Frag) (p : Addr) (T : String) (f : Addr) : Bool := match PySem.W.recIn K p T with
  | some (v :: _) => refB f v
  | _ => false
theorem rec1_ok {p f : Addr} {T : String} (h : recB1 K p T f = true) : ∃ r, PySem.W.recIn K p T = some (.ref f :: r) := by
  unfold recB1 at h
  split at h
  · rename_i v r e
    rw [refB_ok h] at e
    exact ⟨r, e⟩
  · cases h
def recB2 (K : PySem.W.Frag) (p : Addr) (T : String) (f : Addr) : Bool := match PySem.W.recIn K p T with
  | some (_ :: v :: _) => refB f v
  | _ => false
theorem rec2_ok {p f : Addr} {T : String} (h : recB2 K p T f = true) : ∃ g r, PySem.W.recIn K p T = some (g :: .ref f :: r) := by
  unfold recB2 at h
  split at h
  · rename_i u v r e
    rw [refB_ok h] at e
    exact ⟨u, r, e⟩
  · cases h
def strB (K : PySem.W.Frag) (d : Addr) (x z : Str) : Bool := match PySem.W.nsIn K d x with
  | some (some (.str y _)) => decide (y = z)
  | _ => false
theorem str_ok {d : Addr} {x z : Str} (h : strB K d x z = true) : ∃ t, PySem.W.nsIn K d x = some (some (.str z t)) := by
  unfold strB at h
  split at h
  · rename_i y t e
    rw [of_decide_eq_true h] at e
    exact ⟨t, e⟩
  · cases h
def intB (K : PySem.W.Frag) (d : Addr) (x : Str) (i : Int) : Bool := match PySem.W.nsIn K d x with
  | some (some (.int j _)) => decide (j = i)
  | _ => false
theorem int_ok {d : Addr} {x : Str} {i : Int} (h : intB K d x i = true) : ∃ t, PySem.W.nsIn K d x = some (some (.int i t)) := by
  unfold intB at h
  split at h
  · rename_i y t e
    rw [of_decide_eq_true h] at e
    exact ⟨t, e⟩
  · cases h
def fcR (K : PySem.W.Frag) (C : Addr) (x : Str) (a : Addr) : Bool := match PySem.W.findCls K (.ref C) (.type "type") x with
  | some (.val v) => refB a v
  | _ => false
theorem fcR_ok {C a : Addr} {x : Str} (h : fcR K C x a = true) : PySem.W.findCls K (.ref C) (.type "type") x = some (.val (.ref a)) := by
  unfold fcR at h
  split at h
  · rename_i v e
    rw [refB_ok h] at e
    exact e
  · cases h
def fcI (K : PySem.W.Frag) (C : Addr) (x : Str) (i : Int) : Bool := match PySem.W.findCls K (.ref C) (.type "type") x with
  | some (.val (.int j _)) => decide (j = i)
  | _ => false
theorem fcI_ok {C : Addr} {x : Str} {i : Int} (h : fcI K C x i = true) : ∃ t, PySem.W.findCls K (.ref C) (.type "type") x = some (.val (.int i t)) := by
  unfold fcI at h
  split at h
  · rename_i v t e
    rw [of_decide_eq_true h] at e
    exact ⟨t, e⟩
  · cases h
def fiI (K : PySem.W.Frag) (C : Addr) (x : Str) (i : Int) : Bool := match PySem.W.findIn K (.ref C) x with
  | some (some (.int j _)) => decide (j = i)
  | _ => false
theorem fiI_ok {K : PySem.W.Frag} {C : Addr} {x : Str} {i : Int} (h : fiI K C x i = true) : ∃ t, PySem.W.findIn K (.ref C) x = some (some (.int i t)) := by
  unfold fiI at h
  split at h
  · rename_i v t e
    rw [of_decide_eq_true h] at e
    exact ⟨t, e⟩
  · cases h
theorem spI_ok {K : PySem.W.Frag} {i : Int} {t : Tok} : PySem.W.specialIn K (.int i t) "__get__" = some none := by
  have e1 : PySem.W.typeIn K (.int i t) = some (.type "int") := rfl
  have e2 : PySem.W.findIn K (.type "int") "__get__" = some none := (by decide +kernel : PySem.fastLookup ("int" : String) ("__get__" : Str) = some none)
  unfold PySem.W.specialIn
  rw [e1]
  exact e2
def fcS (K : PySem.W.Frag) (C : Addr) (x : Str) (s : Addr) : Bool := match PySem.W.findCls K (.ref C) (.type "type") x with
  | some (.get g v u z) => decide (g = .builtin "staticmethod.__get__") && (refB s v && (nonV u && refB C z))
  | _ => false
theorem fcS_ok {C s : Addr} {x : Str} (h : fcS K C x s = true) : PySem.W.findCls K (.ref C) (.type "type") x = some (.get (.builtin "staticmethod.__get__") (.ref s) .none (.ref C)) := by
  unfold fcS at h
  split at h
  · rename_i g v u z e
    obtain ⟨h1, h⟩ := ba h
    obtain ⟨h2, h⟩ := ba h
    obtain ⟨h3, h4⟩ := ba h
    rw [of_decide_eq_true h1, refB_ok h2, nonV_ok h3, refB_ok h4] at e
    exact e
  · cases h
def fcC (K : PySem.W.Frag) (C : Addr) (x : Str) (s : Addr) : Bool := match PySem.W.findCls K (.ref C) (.type "type") x with
  | some (.get g v u z) => decide (g = .builtin "classmethod.__get__") && (refB s v && (nonV u && refB C z))
  | _ => false
theorem fcC_ok {C s : Addr} {x : Str} (h : fcC K C x s = true) : PySem.W.findCls K (.ref C) (.type "type") x = some (.get (.builtin "classmethod.__get__") (.ref s) .none (.ref C)) := by
  unfold fcC at h
  split at h
  · rename_i g v u z e
    obtain ⟨h1, h⟩ := ba h
    obtain ⟨h2, h⟩ := ba h
    obtain ⟨h3, h4⟩ := ba h
    rw [of_decide_eq_true h1, refB_ok h2, nonV_ok h3, refB_ok h4] at e
    exact e
  · cases h
def seqB (K : PySem.W.Frag) (a : Addr) (vs : List V) : Bool := match K.lookup a with
  | some ⟨.type ty, _, .seq its _, _⟩ => decide (ty = "tuple") && He.relAll vs its.toList
  | _ => false
theorem seq_ok {a : Addr} {vs : List V} (h : seqB K a vs = true) : ∃ (od : Option Addr) (l : List Value) (n : Nat) (sl : Array (Option Value)), K.lookup a = some ⟨.type "tuple", od, .seq ⟨l⟩ n, sl⟩ ∧ Vals vs l := by
  unfold seqB at h
  split at h
  · rename_i ty od its n sl e
    obtain ⟨h1, h2⟩ := ba h
    rw [of_decide_eq_true h1] at e
    obtain ⟨l⟩ := its
    exact ⟨od, l, n, sl, e, He.relAll_ok h2⟩
  · cases h
def excB (K : PySem.W.Frag) (C : Addr) : Bool := match K.lookup C with
  | some ⟨.type ty, _, .cls cd, sl⟩ => decide (ty = "type") && (cd.hasDict && (!cd.hasDel && ((match cd.mro with
    | v :: bm => refB C v && PySem.HandSPX.refsVE bm
    | _ => false) && (match sl.toList with
    | [_, _, _, _, some (.builtin z), _] => decide (z = "ValueError.__new__")
    | _ => false))))
  | _ => false
theorem exc_ok {C : Addr} (h : excB K C = true) : ∃ (nm q : Str) (N : Addr) (bs bm : List Value) (sn : List Str) (sub : List Value) (ab : Bool) (col : Option Bool) (dd : Option Addr) (k0 k1 k2 k3 k5 : Option Value),
    K.lookup C = some (excClassObj nm q C N bs bm true sn sub ab col dd k0 k1 k2 k3 k5 "ValueError.__new__") ∧ PySem.HandSPX.refsVE bm = true := by
  unfold excB at h
  split at h
  · rename_i ty dd cd sl e
    obtain ⟨h1, h⟩ := ba h
    obtain ⟨h2, h⟩ := ba h
    obtain ⟨h3, h⟩ := ba h
    obtain ⟨h4, h5⟩ := ba h
    obtain ⟨l⟩ := sl
    obtain ⟨c1, c2, c3, c4, c5, c6, c7, c8, c9, c10, c11⟩ := cd
    dsimp only at h2 h3 h4 h5
    subst h2
    obtain rfl : c11 = false := by cases c11 <;> first | rfl | cases h3
    rw [of_decide_eq_true h1] at e
    clear h1 h3
    cases c3 with
    | nil => cases h4
    | cons v bm =>
      obtain ⟨g1, g2⟩ := ba h4
      rw [refB_ok g1] at e
      match l, h5, e with
      | [k0, k1, k2, k3, some (.builtin z), k5], h5, e =>
        rw [of_decide_eq_true (show decide (z = "ValueError.__new__") = true from h5)] at e
        exact ⟨_, _, _, _, bm, _, _, _, _, _, _, _, _, _, _, e, g2⟩
  · cases h
def filB (K : PySem.W.Frag) (c : Addr) (mf : Str) : Bool := match K.lookup c with
  | some ⟨_, _, .fields vs, _⟩ => (match (vs[2]? : Option Value) with
    | some (.str f _) => mf == f
    | _ => false)
  | _ => false
theorem fil_ok {c : Addr} {mf : Str} (h : filB K c mf = true) : ∃ (cc : Value) (cd : Option Addr) (vs : Array Value) (cs : Array (Option Value)) (f : Str) (t : Tok), K.lookup c = some ⟨cc, cd, .fields vs, cs⟩ ∧ vs[2]? = some (.str f t) ∧ (mf == f) = true := by
  unfold filB at h
  split at h
  · rename_i cc cd vs cs e
    split at h
    · rename_i f t e2
      exact ⟨cc, cd, vs, cs, f, t, e, e2, h⟩
    · cases h
  · cases h
def celB (K : PySem.W.Frag) (c C : Addr) : Bool := match K.lookup c with
  | some ⟨_, _, .cell (some v), _⟩ => refB C v
  | _ => false
theorem cel_ok {c C : Addr} (h : celB K c C = true) : ∃ (oc : Value) (od : Option Addr) (sl : Array (Option Value)), K.lookup c = some ⟨oc, od, .cell (some (.ref C)), sl⟩ := by
  unfold celB at h
  split at h
  · rename_i oc od v sl e
    rw [refB_ok h] at e
    exact ⟨oc, od, sl, e⟩
  · cases h
end
/-! ### the Hook -/
abbrev Al : Type := Bool × List FnQ
def obsG (as : List Addr) (fa : List (PySem.W.Frag → Bool)) (fn : List Dq) (g : Addr → Option Obj) : Al := (chk fa (He.frG g as), fn.map (fnQ (He.frG g as)))
def hook (as : List Addr) (fa : List (PySem.W.Frag → Bool)) (fn : List Dq) : PySem.W.Hook where
  α := Al
  obs := fun s => obsG as fa fn s.heap.get?
  val := fun _ => (true, fn.map Dq.val)
  says := fun _ h => ∃ K : PySem.W.Frag, K.In h ∧ chk fa K = true ∧ fn.map (fnQ K) = fn.map Dq.val
  of := fun _ _ e => ⟨_, He.frG_in, congrArg (fun z : Al => z.1) e, congrArg (fun z : Al => z.2) e⟩
  keeps := fun _ _ _ ⟨K, hK, c⟩ k => ⟨K, PySem.W.Frag.In.keeps hK k, c⟩
def obT (as : List Addr) (fa : List (PySem.W.Frag → Bool)) (fn : List Dq) (s : PySem.W.SharedT) : Al := obsG as fa fn (HandSHeadRun.getT s)
theorem obT_eq (as : List Addr) (fa : List (PySem.W.Frag → Bool)) (fn : List Dq) (s : PySem.W.SharedT) : obT as fa fn s = (hook as fa fn).obs s.abs := by
  have e : HandSHeadRun.getT s = s.abs.heap.get? := funext (HandSHeadRun.getT_eq s)
  unfold obT
  rw [e] <;> rfl
/-- parts of the run, put together -/
theorem join {α : Type} {x : Option PySem.W.SharedT} {f : PySem.W.SharedT → Bool} {g : PySem.W.SharedT → α} {b : α} {as : List Addr} {fa : List (PySem.W.Frag → Bool)} {fn : List Dq}
    (h1 : x.map f = some true) (h2 : x.map g = some b) (h3 : ∀ s, x = some s → chk fa (He.frG (HandSHeadRun.getT s) as) = true) (h4 : x.map (fun s => fn.map (fnQ (He.frG (HandSHeadRun.getT s) as))) = some (fn.map Dq.val)) :
    x.map (fun s => (f s, g s, obT as fa fn s)) = some (true, b, (true, fn.map Dq.val)) := by
  obtain ⟨s, rfl, e1⟩ := Option.map_eq_some_iff.mp h1
  have e2 : g s = b := Option.some.inj h2
  have e3 := h3 s rfl
  have e4 : fn.map (fnQ (He.frG (HandSHeadRun.getT s) as)) = fn.map Dq.val := Option.some.inj h4
  show some (f s, g s, (chk fa (He.frG (HandSHeadRun.getT s) as), fn.map (fnQ (He.frG (HandSHeadRun.getT s) as)))) = _
  rw [e1, e2, e3, e4]
theorem part {x : Option PySem.W.SharedT} {as : List Addr} {fa : List (PySem.W.Frag → Bool)} (h : x.map (fun s => chk fa (He.frG (HandSHeadRun.getT s) as)) = some true) : ∀ s, x = some s → chk fa (He.frG (HandSHeadRun.getT s) as) = true := fun s e => by
  rw [e] at h
  exact Option.some.inj h
end Hx

/-! how a walk goes on: each way by itself -/
local macro_rules | `(tactic| walk_at "goo1") => `(tactic| first | ((with_reducible refine' Vc.go_iteF' ?h ?_); (case h => decide)) | fail)
local macro_rules | `(tactic| walk_at "goo1") => `(tactic| first | ((with_reducible refine' Vc.go_iteT' ?h ?_); (case h => decide)) | fail)
local macro_rules | `(tactic| walk_at "goo1") => `(tactic| first | ((with_reducible refine' Vc.go_itenF' ?h ?_); (case h => omega)) | fail)
local macro_rules | `(tactic| walk_at "goo1") => `(tactic| first | ((with_reducible refine' Vc.go_itenT' ?h ?_); (case h => omega)) | fail)
local macro_rules | `(tactic| walk_at "goo1") => `(tactic| first | ((with_reducible refine' Vc.go_iteF' ?h ?_); (case h => omega)) | fail)
local macro_rules | `(tactic| walk_at "goo1") => `(tactic| first | ((with_reducible refine' Vc.go_iteT' ?h ?_); (case h => omega)) | fail)
local macro_rules | `(tactic| walk_at "goo1") => `(tactic| walk_at "go1")
local macro_rules | `(tactic| walk_at "go1") => `(tactic| first | ((with_reducible refine' Vc.go_ixS ?he ?hv ?_); (case he => walk_at "ln"); (case hv => walk_at "ix")) | fail)
local macro_rules | `(tactic| walk_at "go1") => `(tactic| first | ((with_reducible refine' Vc.go_ixT ?he ?hv ?_); (case he => walk_at "hs"); (case hv => walk_at "ix")) | fail)
local macro_rules | `(tactic| walk_at "go1") => `(tactic| first | ((with_reducible refine' Vc.go_ixL ?he ?hv ?_); (case he => walk_at "hs"); (case hv => walk_at "ix")) | fail)
local macro_rules | `(tactic| walk_at "go1") => `(tactic| first | ((with_reducible refine' Vc.go_append ?he ?hl ?_); (case he => walk_at "hs"); (case hl => walk_at "ln")) | fail)
local macro_rules | `(tactic| walk_at "go1") => `(tactic| first | ((with_reducible refine' Vc.go_len ?hl ?_); (case hl => walk_at "ln")) | fail)
local macro_rules | `(tactic| walk_at "go1") => `(tactic| first | ((with_reducible refine' Vc.go_tyL ?he ?_); (case he => walk_at "hs")) | fail)
local macro_rules | `(tactic| walk_at "go1") => `(tactic| first | ((with_reducible refine' Vc.go_slL ?he ?_); (case he => walk_at "hs")) | fail)
local macro_rules | `(tactic| walk_at "go1") => `(tactic| first | ((with_reducible refine' Vc.go_slS ?hz ?_); (case hz => walk_at "ln")) | fail)
local macro_rules | `(tactic| walk_at "go1") => `(tactic| first | ((with_reducible refine' Vc.go_lenT ?he ?_); (case he => walk_at "hs")) | fail)
local macro_rules | `(tactic| walk_at "go1") => `(tactic| first | ((with_reducible refine' Vc.go_lenL ?he ?_); (case he => walk_at "hs")) | fail)
local macro_rules | `(tactic| walk_at "go1") => `(tactic| with_reducible refine Vc.go_callK ?_)
local macro_rules | `(tactic| walk_at "go1") => `(tactic| with_reducible refine Vc.go_methK ?_)
local macro_rules | `(tactic| walk_at "go1") => `(tactic| first | ((with_reducible refine' Vc.go_dinI ?he ?_); (case he => walk_at "hs")) | fail)
local macro_rules | `(tactic| walk_at "go1") => `(tactic| first | ((with_reducible refine' Vc.go_dputI ?he ?hl ?_); (case he => walk_at "hs"); (case hl => walk_at "ln")) | fail)
local macro_rules | `(tactic| walk_at "go1") => `(tactic| first | ((with_reducible refine' Vc.go_dputS ?he ?hl ?_); (case he => walk_at "hs"); (case hl => walk_at "ln")) | fail)
local macro_rules | `(tactic| walk_at "go1") => `(tactic| first | ((with_reducible refine' Vc.go_dgetI ?he ?hv ?_); (case he => walk_at "hs"); (case hv => walk_at "dv")) | fail)
local macro_rules | `(tactic| walk_at "go1") => `(tactic| first | ((with_reducible refine' Vc.go_dgetS ?he ?hv ?_); (case he => walk_at "hs"); (case hv => walk_at "dv")) | fail)
local macro_rules | `(tactic| walk_at "go1") => `(tactic| with_reducible refine Vc.go_int1b ?_)
local macro_rules | `(tactic| walk_at "go1") => `(tactic| with_reducible refine Vc.go_int1 ?_)
local macro_rules | `(tactic| walk_at "go1") => `(tactic| with_reducible refine Vc.go_abs ?_)
local macro_rules | `(tactic| walk_at "go1") => `(tactic| with_reducible refine Vc.go_bm0 ?_)
local macro_rules | `(tactic| walk_at "go1") => `(tactic| with_reducible refine Vc.go_bm ?_)
local macro_rules | `(tactic| walk_at "go1") => `(tactic| with_reducible refine Vc.go_partI ?_)
local macro_rules | `(tactic| walk_at "go1") => `(tactic| with_reducible refine Vc.go_part ?_)
local macro_rules | `(tactic| walk_at "go1") => `(tactic| with_reducible refine Vc.go_nopart ?_)
local macro_rules | `(tactic| walk_at "go1") => `(tactic| with_reducible refine Vc.go_sl ?_)
local macro_rules | `(tactic| walk_at "go1") => `(tactic| with_reducible refine Vc.go_dput ?_)
local macro_rules | `(tactic| walk_at "go1") => `(tactic| with_reducible refine Vc.go_dnotin ?_)
local macro_rules | `(tactic| walk_at "go1") => `(tactic| with_reducible refine Vc.go_din ?_)
local macro_rules | `(tactic| walk_at "go1") => `(tactic| with_reducible refine Vc.go_dnew ?_)
local macro_rules | `(tactic| walk_at "go1") => `(tactic| with_reducible refine Vc.go_lst ?_)
local macro_rules | `(tactic| walk_at "go1") => `(tactic| with_reducible refine Vc.go_tup ?_)
local macro_rules | `(tactic| walk_at "go1") => `(tactic| with_reducible refine Vc.go_tryOnly ?_)
local macro_rules | `(tactic| walk_at "go1") => `(tactic| with_reducible refine Vc.go_tryAs ?_)
local macro_rules | `(tactic| walk_at "go1") => `(tactic| first | ((with_reducible refine' Vc.go_isTT ?E ?C ?k ?_); (case E => walk_at "bd"); (case C => assumption); (case k => assumption)) | fail)
local macro_rules | `(tactic| walk_at "go1") => `(tactic| first | ((with_reducible refine' Vc.go_isTC ?E ?C ?k ?_); (case E => walk_at "bd"); (case C => assumption); (case k => assumption)) | fail)
local macro_rules | `(tactic| walk_at "go1") => `(tactic| first | ((with_reducible refine' Vc.go_xfTV ?E ?T ?n ?l ?_); (case E => walk_at "bd"); (case T => assumption); (case n => assumption); (case l => walk_at "fl")) | fail)
local macro_rules | `(tactic| walk_at "go1") => `(tactic| with_reducible refine Vc.go_xfT ?_)
local macro_rules | `(tactic| walk_at "go1") => `(tactic| with_reducible refine Vc.go_make0 ?_)
local macro_rules | `(tactic| walk_at "go1") => `(tactic| with_reducible refine Vc.go_makeK ?_)
local macro_rules | `(tactic| walk_at "go1") => `(tactic| with_reducible refine Vc.go_prop ?_)
local macro_rules | `(tactic| walk_at "go1") => `(tactic| first | ((with_reducible refine' Vc.go_setPV ?e ?_); (case e => walk_at "hs")) | fail)
local macro_rules | `(tactic| walk_at "go1") => `(tactic| with_reducible refine Vc.go_setP ?_)
local macro_rules | `(tactic| walk_at "go1") => `(tactic| with_reducible refine Vc.go_tryX ?_)
local macro_rules | `(tactic| walk_at "go1") => `(tactic| with_reducible refine Vc.go_lstRgV ?_)
local macro_rules | `(tactic| walk_at "go1") => `(tactic| with_reducible refine Vc.go_lstRg ?_)
local macro_rules | `(tactic| walk_at "go1") => `(tactic| with_reducible refine Vc.go_iRngLV ?_)
local macro_rules | `(tactic| walk_at "go1") => `(tactic| with_reducible refine Vc.go_iRngL ?_)
local macro_rules | `(tactic| walk_at "go1") => `(tactic| first | ((with_reducible refine' Vc.go_inO ?e ?_); (case e => walk_at "hs")) | fail)
local macro_rules | `(tactic| walk_at "go1") => `(tactic| first | ((with_reducible refine' Vc.go_strI ?l ?_); (case l => assumption)) | fail)
local macro_rules | `(tactic| walk_at "go1") => `(tactic| first | ((with_reducible refine' Vc.go_fmtI ?l ?_); (case l => assumption)) | fail)
local macro_rules | `(tactic| walk_at "go1") => `(tactic| first | ((with_reducible refine' Vc.go_fmtS ?l ?_); (case l => walk_at "ln")) | fail)
local macro_rules | `(tactic| walk_at "go1") => `(tactic| with_reducible refine Vc.go_fmt ?_)
local macro_rules | `(tactic| walk_at "go1") => `(tactic| first | ((with_reducible refine' Vc.go_szS ?l ?_); (case l => walk_at "ln")) | fail)
local macro_rules | `(tactic| walk_at "go1") => `(tactic| first | ((with_reducible refine' Vc.go_jsV ?l ?_); (case l => walk_at "ln")) | fail)
local macro_rules | `(tactic| walk_at "go1") => `(tactic| with_reducible refine Vc.go_js ?_)
local macro_rules | `(tactic| walk_at "go1") => `(tactic| with_reducible refine Vc.go_js0 ?_)
local macro_rules | `(tactic| walk_at "go1") => `(tactic| first | ((with_reducible refine' Vc.go_revLV ?e ?_); (case e => walk_at "hs")) | fail)
local macro_rules | `(tactic| walk_at "go1") => `(tactic| with_reducible refine Vc.go_revL ?_)
local macro_rules | `(tactic| walk_at "go1") => `(tactic| first | ((with_reducible refine' Vc.go_dpopI ?e ?v ?_); (case e => walk_at "hs"); (case v => walk_at "dv")) | fail)
local macro_rules | `(tactic| walk_at "go1") => `(tactic| first | ((with_reducible refine' Vc.go_lclear ?e ?_); (case e => walk_at "hs")) | fail)
local macro_rules | `(tactic| walk_at "go1") => `(tactic| first | ((with_reducible refine' Vc.go_dclear ?e ?_); (case e => walk_at "hs")) | fail)
local macro_rules | `(tactic| walk_at "go1") => `(tactic| first | ((with_reducible refine' Vc.go_tyD ?e ?_); (case e => walk_at "hs")) | fail)
local macro_rules | `(tactic| walk_at "go1") => `(tactic| with_reducible refine Vc.go_refC ?_)
local macro_rules | `(tactic| walk_at "go1") => `(tactic| with_reducible refine Vc.go_smeth ?_)
local macro_rules | `(tactic| walk_at "go1") => `(tactic| first | ((with_reducible refine' Vc.go_strO ?e ?_); (case e => walk_at "hs")) | fail)
local macro_rules | `(tactic| walk_at "go1") => `(tactic| first | ((with_reducible refine' Vc.go_lenO ?e ?_); (case e => walk_at "hs")) | fail)
local macro_rules | `(tactic| walk_at "go1") => `(tactic| first | ((with_reducible refine' Vc.go_insF ?e ?_); (case e => walk_at "hs")) | fail)
local macro_rules | `(tactic| walk_at "go1") => `(tactic| first | ((with_reducible refine' Vc.go_cntS ?e ?_); (case e => walk_at "hs")) | fail)
local macro_rules | `(tactic| walk_at "go1") => `(tactic| with_reducible refine Vc.go_ixO ?_)
local macro_rules | `(tactic| walk_at "go1") => `(tactic| first | ((with_reducible refine' Vc.go_isXT ?C ?d ?k ?_); (case C => assumption); (case d => ((with_reducible refine' Vc.xdAt ?e); (case e => walk_at "hs"))); (case k => assumption)) | fail)
local macro_rules | `(tactic| walk_at "go1") => `(tactic| first | ((with_reducible refine' Vc.go_isXC ?C ?d ?k ?_); (case C => assumption); (case d => ((with_reducible refine' Vc.xdAt ?e); (case e => walk_at "hs"))); (case k => assumption)) | fail)
local macro_rules | `(tactic| walk_at "go1") => `(tactic| first | ((with_reducible refine' Vc.go_xfXV ?T ?n ?e ?l ?_); (case T => assumption); (case n => assumption); (case e => walk_at "hs"); (case l => walk_at "fl")) | fail)
local macro_rules | `(tactic| walk_at "go1") => `(tactic| with_reducible refine Vc.go_xfX ?_)
local macro_rules | `(tactic| walk_at "go1") => `(tactic| first | ((with_reducible refine' Vc.go_insD ?e ?_); (case e => walk_at "hs")) | fail)
local macro_rules | `(tactic| walk_at "go1") => `(tactic| with_reducible refine Vc.go_refE ?_)
local macro_rules | `(tactic| walk_at "go1") => `(tactic| with_reducible refine Vc.go_callIK ?_)
local macro_rules | `(tactic| walk_at "go1") => `(tactic| with_reducible refine Vc.go_smethS ?_)
local macro_rules | `(tactic| walk_at "go1") => `(tactic| with_reducible refine Vc.go_cmethS ?_)
local macro_rules | `(tactic| walk_at "go1") => `(tactic| with_reducible refine Vc.go_makeC ?_)
local macro_rules | `(tactic| walk_at "go1") => `(tactic| with_reducible refine Vc.go_makeS ?_)
local macro_rules | `(tactic| walk_at "go1") => `(tactic| with_reducible refine Vc.go_methS ?_)
local macro_rules | `(tactic| walk_at "go1") => `(tactic| with_reducible refine Vc.go_callI ?_)
local macro_rules | `(tactic| walk_at "go1") => `(tactic| with_reducible refine Vc.go_callS ?_)
local macro_rules | `(tactic| walk_at "go1") => `(tactic| with_reducible refine Vc.go_err2 ?_)
local macro_rules | `(tactic| walk_at "go1") => `(tactic| with_reducible refine Vc.go_err1 ?_)
local macro_rules | `(tactic| walk_at "go1") => `(tactic| with_reducible refine Vc.go_mkO ?_)
local macro_rules | `(tactic| walk_at "go1") => `(tactic| with_reducible refine Vc.go_raiseT ?_)
local macro_rules | `(tactic| walk_at "go1") => `(tactic| with_reducible refine Vc.go_call ?_)
local macro_rules | `(tactic| walk_at "go1") => `(tactic| first | ((with_reducible refine' Vc.go_niT ?e ?hx ?hf ?_); (case e => walk_at "hs"); (case hx => rfl); (case hf => walk_at "flat")) | fail)
local macro_rules | `(tactic| walk_at "go1") => `(tactic| first | ((with_reducible refine' Vc.go_niL ?e ?hx ?hf ?_); (case e => walk_at "hs"); (case hx => rfl); (case hf => walk_at "flat")) | fail)
local macro_rules | `(tactic| walk_at "go1") => `(tactic| first | ((with_reducible refine' Vc.go_inT ?e ?hx ?hf ?_); (case e => walk_at "hs"); (case hx => rfl); (case hf => walk_at "flat")) | fail)
local macro_rules | `(tactic| walk_at "go1") => `(tactic| first | ((with_reducible refine' Vc.go_inL ?e ?hx ?hf ?_); (case e => walk_at "hs"); (case hx => rfl); (case hf => walk_at "flat")) | fail)
local macro_rules | `(tactic| walk_at "go1") => `(tactic| first | ((with_reducible refine' Vc.go_dgetIF ?he ?hv ?_); (case he => walk_at "fz"); (case hv => walk_at "dv")) | fail)
local macro_rules | `(tactic| walk_at "go1") => `(tactic| first | ((with_reducible refine' Vc.go_lenS ?l ?_); (case l => walk_at "ln")) | fail)
local macro_rules | `(tactic| walk_at "go1") => `(tactic| first | ((with_reducible refine' Vc.go_listD ?e ?_); (case e => walk_at "hs")) | fail)
local macro_rules | `(tactic| walk_at "go1") => `(tactic| first | ((with_reducible refine' Vc.go_lenD ?e ?_); (case e => walk_at "hs")) | fail)
local macro_rules | `(tactic| walk_at "go1") => `(tactic| first | ((with_reducible refine' Vc.go_methV ?e ?l ?_); (case e => walk_at "hs"); (case l => walk_at "fl")) | fail)
local macro_rules | `(tactic| walk_at "go1") => `(tactic| first | ((with_reducible refine' Vc.go_sfldV ?e ?l ?c ?n ?_); (case e => walk_at "hs"); (case l => walk_at "fn"); (case c => assumption); (case n => assumption)) | fail)
local macro_rules | `(tactic| walk_at "go1") => `(tactic| first | ((with_reducible refine' Vc.go_fldV ?e ?hl ?c ?n ?_); (case e => walk_at "hs"); (case hl => walk_at "fl"); (case c => assumption); (case n => assumption)) | fail)
local macro_rules | `(tactic| walk_at "go1") => `(tactic| first | ((with_reducible refine' Vc.go_cval ?hr ?hv ?_); (case hr => assumption); (case hv => assumption)) | fail)
local macro_rules | `(tactic| walk_at "go1") => `(tactic| first | ((with_reducible refine' Vc.go_iteN ?h ?_); (case h => (intro z; cases z))) | fail)
local macro_rules | `(tactic| walk_at "go1") => `(tactic| with_reducible refine' Vc.go_iteNT ?_)
local macro_rules | `(tactic| walk_at "go1") => `(tactic| with_reducible refine Vc.go_isN ?_)
local macro_rules | `(tactic| walk_at "go1") => `(tactic| first | ((with_reducible refine' Vc.go_isiT2 ?ht ?e ?hk ?hk2 ?hc ?_); (case ht => walk_at "ty"); (case e => walk_at "hs"); (case hk => walk_at "kit"); (case hk2 => walk_at "kit"); (case hc => first | exact Vc.or_t | exact Vc.or_f)) | fail)
local macro_rules | `(tactic| walk_at "go1") => `(tactic| first | ((with_reducible refine' Vc.go_isi ?ht ?hk ?_); (case ht => walk_at "ty"); (case hk => walk_at "kit")) | fail)
local macro_rules | `(tactic| walk_at "go1") => `(tactic| with_reducible refine Vc.go_neB ?_)
local macro_rules | `(tactic| walk_at "go1") => `(tactic| with_reducible refine Vc.go_eqB ?_)
local macro_rules | `(tactic| walk_at "go1") => `(tactic| with_reducible refine Vc.go_neS ?_)
local macro_rules | `(tactic| walk_at "go1") => `(tactic| with_reducible refine Vc.go_eqS ?_)
local macro_rules | `(tactic| walk_at "go1") => `(tactic| with_reducible refine Vc.go_neI ?_)
local macro_rules | `(tactic| walk_at "go1") => `(tactic| with_reducible refine Vc.go_eqI ?_)
local macro_rules | `(tactic| walk_at "go1") => `(tactic| first | ((with_reducible refine' Vc.go_I ?hc ?_); (case hc => walk_at "side")) | fail)
local macro_rules | `(tactic| walk_at "go1") => `(tactic| with_reducible refine Vc.go_U ?_)
local macro_rules | `(tactic| walk_at "go1") => `(tactic| with_reducible refine Vc.go_I0 ?_)
local macro_rules | `(tactic| walk_at "go1") => `(tactic| with_reducible refine Vc.go_if ?_)
local macro_rules | `(tactic| walk_at "go1") => `(tactic| with_reducible refine Vc.go_notV ?_)
local macro_rules | `(tactic| walk_at "go1") => `(tactic| with_reducible refine Vc.go_orV ?_)
local macro_rules | `(tactic| walk_at "go1") => `(tactic| with_reducible refine Vc.go_andV ?_)
local macro_rules | `(tactic| walk_at "go1") => `(tactic| with_reducible refine Vc.go_yes ?_)
local macro_rules | `(tactic| walk_at "go1") => `(tactic| with_reducible refine Vc.go_orT ?_)
local macro_rules | `(tactic| walk_at "go1") => `(tactic| with_reducible refine Vc.go_andT ?_)
local macro_rules | `(tactic| walk_at "go1") => `(tactic| with_reducible refine Vc.go_notT ?_)
local macro_rules | `(tactic| walk_at "go1") => `(tactic| with_reducible refine Vc.go_blP ?_)
local macro_rules | `(tactic| walk_at "go1") => `(tactic| with_reducible refine Vc.go_bl ?_)
local macro_rules | `(tactic| walk_at "go1") => `(tactic| with_reducible refine Vc.go_B ?_)
local macro_rules | `(tactic| walk_at "go1") => `(tactic| with_reducible refine Vc.go_test ?_)
local macro_rules | `(tactic| walk_at "go1") => `(tactic| with_reducible refine Vc.go_ifS ?_)
local macro_rules | `(tactic| walk_at "go1") => `(tactic| with_reducible refine Vc.go_next ?_)
local macro_rules | `(tactic| walk_at "go1") => `(tactic| with_reducible refine Vc.go_retN ?_)
local macro_rules | `(tactic| walk_at "go1") => `(tactic| with_reducible refine Vc.go_ret ?_)
local macro_rules | `(tactic| walk_at "go1") => `(tactic| with_reducible refine' Vc.go_nF ?_)
local macro_rules | `(tactic| walk_at "go1") => `(tactic| with_reducible refine' Vc.go_nT ?_)
local macro_rules | `(tactic| walk_at "go1") => `(tactic| with_reducible refine' Vc.go_eqL ?_)
local macro_rules | `(tactic| walk_at "go1") => `(tactic| with_reducible refine' Vc.go_Some ?_)
local macro_rules | `(tactic| walk_at "go1") => `(tactic| with_reducible refine' Vc.go_None ?_)
local macro_rules | `(tactic| walk_at "go1") => `(tactic| with_reducible refine' Vc.go_nSome ?_)
local macro_rules | `(tactic| walk_at "go1") => `(tactic| with_reducible refine' Vc.go_nNone ?_)
local macro_rules | `(tactic| walk_at "go1") => `(tactic| with_reducible refine' Vc.go_neL ?_)
local macro_rules | `(tactic| walk_at "go1") => `(tactic| with_reducible refine' L2.iteF ?_)
local macro_rules | `(tactic| walk_at "go1") => `(tactic| with_reducible refine' L2.iteT ?_)
local macro_rules | `(tactic| walk_at "go1") => `(tactic| with_reducible refine Vc.go_pairs0 ?_)
local macro_rules | `(tactic| walk_at "go1") => `(tactic| with_reducible refine Vc.go_pairs ?_)
local macro_rules | `(tactic| walk_at "go1") => `(tactic| with_reducible refine Vc.go_disp ?_)
local macro_rules | `(tactic| walk_at "go1") => `(tactic| with_reducible refine Vc.go_lc ?_)
local macro_rules | `(tactic| walk_at "go1") => `(tactic| with_reducible refine Vc.go_iStr ?_)
local macro_rules | `(tactic| walk_at "go1") => `(tactic| with_reducible refine Vc.go_iRng2 ?_)
local macro_rules | `(tactic| walk_at "go1") => `(tactic| with_reducible refine Vc.go_iRng1 ?_)
local macro_rules | `(tactic| walk_at "go1") => `(tactic| with_reducible refine Vc.go_iTup ?_)
local macro_rules | `(tactic| walk_at "go1") => `(tactic| with_reducible refine Vc.go_iList ?_)
local macro_rules | `(tactic| walk_at "go1") => `(tactic| with_reducible refine Vc.go_for ?_)
local macro_rules | `(tactic| walk_at "go1") => `(tactic| with_reducible refine Vc.go_sign ?_)
local macro_rules | `(tactic| walk_at "go1") => `(tactic| with_reducible refine Vc.go_strE ?_)
local macro_rules | `(tactic| walk_at "go1") => `(tactic| first | ((with_reducible refine' Vc.go_lstDT ?e ?_); (case e => walk_at "hs")) | fail)
local macro_rules | `(tactic| walk_at "go1") => `(tactic| first | ((with_reducible refine' Vc.go_lstD ?e ?_); (case e => walk_at "hs")) | fail)
local macro_rules | `(tactic| walk_at "go1") => `(tactic| first | ((with_reducible refine' Vc.go_lstDO ?e ?_); (case e => assumption)) | fail)
local macro_rules | `(tactic| walk_at "go1") => `(tactic| first | ((with_reducible refine' Vc.go_tupDT ?e ?_); (case e => walk_at "hs")) | fail)
local macro_rules | `(tactic| walk_at "go1") => `(tactic| first | ((with_reducible refine' Vc.go_tupD ?e ?_); (case e => walk_at "hs")) | fail)
local macro_rules | `(tactic| walk_at "go1") => `(tactic| with_reducible refine Vc.go_sub ?_)
local macro_rules | `(tactic| walk_at "go1") => `(tactic| with_reducible refine Vc.go_isS ?_)
local macro_rules | `(tactic| walk_at "go1") => `(tactic| with_reducible refine Vc.go_M0 ?_)
local macro_rules | `(tactic| walk_at "go1") => `(tactic| with_reducible refine Vc.go_M1 ?_)
local macro_rules | `(tactic| walk_at "go1") => `(tactic| first | ((with_reducible refine' Vc.go_addS ?l ?_); (case l => walk_at "ln")) | fail)
local macro_rules | `(tactic| walk_at "go1") => `(tactic| with_reducible refine Vc.go_ipI ?_)
local macro_rules | `(tactic| walk_at "go1") => `(tactic| first | ((with_reducible refine' Vc.go_aug ?hv ?_); (case hv => rfl)) | fail)
local macro_rules | `(tactic| walk_at "go1") => `(tactic| with_reducible refine Vc.go_lenSet ?_)
local macro_rules | `(tactic| walk_at "go1") => `(tactic| with_reducible refine Vc.go_dc ?_)
local macro_rules | `(tactic| walk_at "go1") => `(tactic| with_reducible refine Vc.go_meth ?_)
local macro_rules | `(tactic| walk_at "go1") => `(tactic| with_reducible refine Vc.go_make ?_)
local macro_rules | `(tactic| walk_at "go1") => `(tactic| with_reducible refine Vc.go_sfld ?_)
local macro_rules | `(tactic| walk_at "go1") => `(tactic| with_reducible refine Vc.go_fld ?_)
local macro_rules | `(tactic| walk_at "go1") => `(tactic| with_reducible refine Vc.go_cvalR ?_)
local macro_rules | `(tactic| walk_at "go1") => `(tactic| with_reducible refine Vc.go_chain ?_)
local macro_rules | `(tactic| walk_at "go1") => `(tactic| with_reducible refine Vc.go_drop ?_)
local macro_rules | `(tactic| walk_at "go1") => `(tactic| with_reducible refine Vc.go_dget ?_)
local macro_rules | `(tactic| walk_at "go1") => `(tactic| with_reducible refine Vc.go_nil ?_)
local macro_rules | `(tactic| walk_at "go1") => `(tactic| with_reducible refine Vc.go_cons ?_)
local macro_rules | `(tactic| walk_at "go1") => `(tactic| with_reducible refine Vc.go_cb ?_)
local macro_rules | `(tactic| walk_at "go1") => `(tactic| with_reducible refine Vc.go_un ?_)
local macro_rules | `(tactic| walk_at "go1") => `(tactic| with_reducible refine Vc.go_op ?_)
local macro_rules | `(tactic| walk_at "go1") => `(tactic| with_reducible refine Vc.go_c ?_)
local macro_rules | `(tactic| walk_at "go1") => `(tactic| first | ((with_reducible refine' Vc.go_var ?hv ?_); (case hv => rfl)) | fail)
local macro_rules | `(tactic| walk_at "go1") => `(tactic| with_reducible refine Vc.go_name ?_)
local macro_rules | `(tactic| walk_at "go1") => `(tactic| with_reducible refine Vc.go_asg ?_)
local macro_rules | `(tactic| walk_at "go1") => `(tactic| with_reducible refine Vc.go_seq ?_)
local macro_rules | `(tactic| walk_at "kit") => `(tactic| with_reducible exact Vc.kit_dict_dict)
local macro_rules | `(tactic| walk_at "kit") => `(tactic| with_reducible exact Vc.kit_dict_list)
local macro_rules | `(tactic| walk_at "kit") => `(tactic| with_reducible exact Vc.kit_dict_tuple)
local macro_rules | `(tactic| walk_at "kit") => `(tactic| with_reducible exact Vc.kit_dict_str)
local macro_rules | `(tactic| walk_at "kit") => `(tactic| with_reducible exact Vc.kit_dict_bool)
local macro_rules | `(tactic| walk_at "kit") => `(tactic| with_reducible exact Vc.kit_dict_int)
local macro_rules | `(tactic| walk_at "kit") => `(tactic| with_reducible exact Vc.kit_tuple_dict)
local macro_rules | `(tactic| walk_at "kit") => `(tactic| with_reducible exact Vc.kit_tuple_list)
local macro_rules | `(tactic| walk_at "kit") => `(tactic| with_reducible exact Vc.kit_tuple_tuple)
local macro_rules | `(tactic| walk_at "kit") => `(tactic| with_reducible exact Vc.kit_tuple_str)
local macro_rules | `(tactic| walk_at "kit") => `(tactic| with_reducible exact Vc.kit_tuple_bool)
local macro_rules | `(tactic| walk_at "kit") => `(tactic| with_reducible exact Vc.kit_tuple_int)
local macro_rules | `(tactic| walk_at "kit") => `(tactic| with_reducible exact Vc.kit_list_dict)
local macro_rules | `(tactic| walk_at "kit") => `(tactic| with_reducible exact Vc.kit_list_list)
local macro_rules | `(tactic| walk_at "kit") => `(tactic| with_reducible exact Vc.kit_list_tuple)
local macro_rules | `(tactic| walk_at "kit") => `(tactic| with_reducible exact Vc.kit_list_str)
local macro_rules | `(tactic| walk_at "kit") => `(tactic| with_reducible exact Vc.kit_list_bool)
local macro_rules | `(tactic| walk_at "kit") => `(tactic| with_reducible exact Vc.kit_list_int)
local macro_rules | `(tactic| walk_at "kit") => `(tactic| with_reducible exact Vc.kit_NoneType_dict)
local macro_rules | `(tactic| walk_at "kit") => `(tactic| with_reducible exact Vc.kit_NoneType_list)
local macro_rules | `(tactic| walk_at "kit") => `(tactic| with_reducible exact Vc.kit_NoneType_tuple)
local macro_rules | `(tactic| walk_at "kit") => `(tactic| with_reducible exact Vc.kit_NoneType_str)
local macro_rules | `(tactic| walk_at "kit") => `(tactic| with_reducible exact Vc.kit_NoneType_bool)
local macro_rules | `(tactic| walk_at "kit") => `(tactic| with_reducible exact Vc.kit_NoneType_int)
local macro_rules | `(tactic| walk_at "kit") => `(tactic| with_reducible exact Vc.kit_str_dict)
local macro_rules | `(tactic| walk_at "kit") => `(tactic| with_reducible exact Vc.kit_str_list)
local macro_rules | `(tactic| walk_at "kit") => `(tactic| with_reducible exact Vc.kit_str_tuple)
local macro_rules | `(tactic| walk_at "kit") => `(tactic| with_reducible exact Vc.kit_str_str)
local macro_rules | `(tactic| walk_at "kit") => `(tactic| with_reducible exact Vc.kit_str_bool)
local macro_rules | `(tactic| walk_at "kit") => `(tactic| with_reducible exact Vc.kit_str_int)
local macro_rules | `(tactic| walk_at "kit") => `(tactic| with_reducible exact Vc.kit_bool_dict)
local macro_rules | `(tactic| walk_at "kit") => `(tactic| with_reducible exact Vc.kit_bool_list)
local macro_rules | `(tactic| walk_at "kit") => `(tactic| with_reducible exact Vc.kit_bool_tuple)
local macro_rules | `(tactic| walk_at "kit") => `(tactic| with_reducible exact Vc.kit_bool_str)
local macro_rules | `(tactic| walk_at "kit") => `(tactic| with_reducible exact Vc.kit_bool_bool)
local macro_rules | `(tactic| walk_at "kit") => `(tactic| with_reducible exact Vc.kit_bool_int)
local macro_rules | `(tactic| walk_at "kit") => `(tactic| with_reducible exact Vc.kit_int_dict)
local macro_rules | `(tactic| walk_at "kit") => `(tactic| with_reducible exact Vc.kit_int_list)
local macro_rules | `(tactic| walk_at "kit") => `(tactic| with_reducible exact Vc.kit_int_tuple)
local macro_rules | `(tactic| walk_at "kit") => `(tactic| with_reducible exact Vc.kit_int_str)
local macro_rules | `(tactic| walk_at "kit") => `(tactic| with_reducible exact Vc.kit_int_bool)
local macro_rules | `(tactic| walk_at "kit") => `(tactic| with_reducible exact Vc.kit_int_int)
local macro_rules | `(tactic| walk_at "ty") => `(tactic| first | ((with_reducible refine' Vc.tyT ?h); (case h => walk_at "hs")) | fail)
local macro_rules | `(tactic| walk_at "ty") => `(tactic| first | ((with_reducible refine' Vc.tyL ?h); (case h => walk_at "hs")) | fail)
local macro_rules | `(tactic| walk_at "ty") => `(tactic| with_reducible exact .base .non)
local macro_rules | `(tactic| walk_at "ty") => `(tactic| with_reducible exact .base (.str _))
local macro_rules | `(tactic| walk_at "ty") => `(tactic| with_reducible exact .base (.bl _))
local macro_rules | `(tactic| walk_at "ty") => `(tactic| with_reducible exact .base (.int _))
local macro_rules | `(tactic| walk_at "bd") => `(tactic| first | ((with_reducible refine' Vc.ErrAt.ed0 ?e ?h); (case e => assumption); (case h => walk_at "bd")) | fail)
local macro_rules | `(tactic| walk_at "bd") => `(tactic| assumption)
local macro_rules | `(tactic| walk_at "fz") => `(tactic| first | ((with_reducible refine' Vc.frz' ?e ?h); (case e => assumption); (case h => walk_at "fz")) | fail)
local macro_rules | `(tactic| walk_at "fz") => `(tactic| assumption)
local macro_rules | `(tactic| walk_at "free") => `(tactic| first | ((with_reducible refine' Vc.Ed.back ?e ?h); (case e => assumption); (case h => walk_at "free")) | fail)
local macro_rules | `(tactic| walk_at "free") => `(tactic| assumption)
local macro_rules | `(tactic| walk_at "in") => `(tactic| first | ((with_reducible refine' Or.inr ?h); (case h => walk_at "free")) | fail)
local macro_rules | `(tactic| walk_at "in") => `(tactic| first | ((with_reducible refine' Or.inl ?h); (case h => (simp only [List.mem_cons, List.not_mem_nil, or_false, true_or, or_true]; done))) | fail)
local macro_rules | `(tactic| walk_at "ed") => `(tactic| first | ((with_reducible refine' Vc.Ed.two' ?b ?a ?h ?g); (case b => assumption); (case a => walk_at "ed"); (case h => walk_at "in"); (case g => walk_at "in")) | fail)
local macro_rules | `(tactic| walk_at "ed") => `(tactic| first | ((with_reducible refine' Vc.Ed.one' ?b ?a ?h); (case b => assumption); (case a => walk_at "ed"); (case h => walk_at "in")) | fail)
local macro_rules | `(tactic| walk_at "ed") => `(tactic| first | ((with_reducible refine' Vc.Ed.ex' ?b ?a); (case b => assumption); (case a => walk_at "ed")) | fail)
local macro_rules | `(tactic| walk_at "ed") => `(tactic| with_reducible exact Vc.Ed.refl)
local macro_rules | `(tactic| walk_at "ed") => `(tactic| assumption)
local macro_rules | `(tactic| walk_at "ne") => `(tactic| first | ((with_reducible refine' Vc.nek ?e ?h ?d); (case e => assumption); (case h => assumption); (case d => intro z; cases z)) | fail)
local macro_rules | `(tactic| walk_at "ne") => `(tactic| first | ((with_reducible refine' Vc.ne2 ?e ?h); (case e => assumption); (case h => walk_at "hs")) | fail)
local macro_rules | `(tactic| walk_at "ne") => `(tactic| first | ((with_reducible refine' Vc.ne1 ?e ?h); (case e => assumption); (case h => walk_at "hs")) | fail)
local macro_rules | `(tactic| walk_at "ne") => `(tactic| first | ((with_reducible refine' Ne.symm ?h); (case h => assumption)) | fail)
local macro_rules | `(tactic| walk_at "ne") => `(tactic| assumption)
local macro_rules | `(tactic| walk_at "hs") => `(tactic| first | ((with_reducible refine' Vc.Ed.sql1 ?e ?n ?h); (case e => assumption); (case n => walk_at "ne"); (case h => walk_at "hs")) | fail)
local macro_rules | `(tactic| walk_at "hs") => `(tactic| first | ((with_reducible refine' Vc.Ed.sql0 ?e ?h); (case e => assumption); (case h => walk_at "hs")) | fail)
local macro_rules | `(tactic| walk_at "hs") => `(tactic| first | ((with_reducible refine' Vc.Ed.sqt ?e ?h); (case e => assumption); (case h => walk_at "hs")) | fail)
local macro_rules | `(tactic| walk_at "hs") => `(tactic| first | ((with_reducible refine' Vc.sqt_of ?h); (case h => walk_at "hs")) | fail)
local macro_rules | `(tactic| walk_at "hs") => `(tactic| first | ((with_reducible refine' Vc.all_sqt ?h _); (case h => assumption)) | fail)
local macro_rules | `(tactic| walk_at "hs") => `(tactic| first | ((with_reducible refine' L2.SqL.of ?h); (case h => walk_at "hs")) | fail)
local macro_rules | `(tactic| walk_at "hs") => `(tactic| first | ((with_reducible refine' Vc.frz' ?e ?h); (case e => assumption); (case h => walk_at "hs")) | fail)
local macro_rules | `(tactic| walk_at "hs") => `(tactic| first | ((with_reducible refine' Vc.Ed.at2 ?e ?n ?m ?h); (case e => assumption); (case n => walk_at "ne"); (case m => walk_at "ne"); (case h => walk_at "hs")) | fail)
local macro_rules | `(tactic| walk_at "hs") => `(tactic| first | ((with_reducible refine' Vc.Ed.at1 ?e ?n ?h); (case e => assumption); (case n => walk_at "ne"); (case h => walk_at "hs")) | fail)
local macro_rules | `(tactic| walk_at "hs") => `(tactic| first | ((with_reducible refine' Vc.Ed.at0 ?e ?h); (case e => assumption); (case h => walk_at "hs")) | fail)
local macro_rules | `(tactic| walk_at "hs") => `(tactic| assumption)
local macro_rules | `(tactic| walk_at "fl") => `(tactic| first | assumption | rfl)
local macro_rules | `(tactic| walk_at "fn") => `(tactic| first | assumption | exact (show 0 < 1000 by decide) | exact (show 1 < 1000 by decide) | exact (show 2 < 1000 by decide) | exact (show 3 < 1000 by decide) | exact (show 4 < 1000 by decide) | exact (show 5 < 1000 by decide) | exact (show 6 < 1000 by decide))
local macro_rules | `(tactic| walk_at "flat") => `(tactic| first | assumption | rfl)
local macro_rules | `(tactic| walk_at "ix") => `(tactic| first | assumption | rfl)
local macro_rules | `(tactic| walk_at "dv") => `(tactic| first | assumption | rfl)
local macro_rules | `(tactic| walk_at "ln") => `(tactic| first | assumption | (simp only [List.length_cons, List.length_nil, List.length_append, List.length_map]; omega) | decide)
local macro_rules | `(tactic| walk_at "go") => `(tactic| repeat walk_at "go1")
local macro_rules | `(tactic| walk_at "side") => `(tactic| first
  | omega
  | (dsimp only; omega)
  | exact ⟨by omega, by omega, by omega⟩
  | exact Vc.mulw (by omega) (by omega)
  | exact Vc.divw (by omega) (by omega))
local macro_rules | `(tactic| walk_at "goo") => `(tactic| repeat walk_at "goo1")

namespace My
open PySem PySem.Spec PyProof.Rows L2
abbrev PG : Program := PySem.Challenge.pw_codestitch_k24_bytes_behind_steps
def topS (i : Nat) : Stmt := PySem.Challenge.pw_codestitch_k24_bytes_behind_steps.main.body.getD i (.Pass ⟨0, 0, 0, 0⟩)
abbrev s_is_byte : Stmt := topS 10
theorem sc_is_byte : FnScope ["value"] ["value"] (defScope s_is_byte) := ⟨rfl, rfl, rfl, by decide +kernel, rfl, by decide +kernel, by decide +kernel⟩
abbrev s_check_bytes : Stmt := topS 32
theorem sc_check_bytes : FnScope ["values", "at", "value"] ["values"] (defScope s_check_bytes) := ⟨rfl, rfl, rfl, by decide +kernel, rfl, by decide +kernel, by decide +kernel⟩
abbrev s_span_of : Stmt := topS 33
theorem sc_span_of : FnScope ["at", "size", "low", "high"] ["at", "size"] (defScope s_span_of) := ⟨rfl, rfl, rfl, by decide +kernel, rfl, by decide +kernel, by decide +kernel⟩
abbrev s_is_number : Stmt := topS 22
theorem sc_is_number : FnScope ["word", "sign"] ["word"] (defScope s_is_number) := ⟨rfl, rfl, rfl, by decide +kernel, rfl, by decide +kernel, by decide +kernel⟩
abbrev s_split_lines : Stmt := topS 23
theorem sc_split_lines : FnScope ["text", "line"] ["text"] (defScope s_split_lines) := ⟨rfl, rfl, rfl, by decide +kernel, rfl, by decide +kernel, by decide +kernel⟩
abbrev s_stands : Stmt := topS 24
theorem sc_stands : FnScope ["word", "kind"] ["word", "kind"] (defScope s_stands) := ⟨rfl, rfl, rfl, by decide +kernel, rfl, by decide +kernel, by decide +kernel⟩
abbrev s_check_line : Stmt := topS 25
theorem sc_check_line : FnScope ["line", "words", "kinds", "at", "kind"] ["line", "words", "kinds"] (defScope s_check_line) := ⟨rfl, rfl, rfl, by decide +kernel, rfl, by decide +kernel, by decide +kernel⟩
abbrev s_read_numbers : Stmt := topS 26
theorem sc_read_numbers : FnScope ["line", "words", "low", "least", "ascending", "found", "at", "number"] ["line", "words", "low", "least", "ascending"] (defScope s_read_numbers) := ⟨rfl, rfl, rfl, by decide +kernel, rfl, by decide +kernel, by decide +kernel⟩
abbrev s_read_parts : Stmt := topS 28
theorem sc_read_parts : FnScope ["line", "words"] ["line", "words"] (defScope s_read_parts) := ⟨rfl, rfl, rfl, by decide +kernel, rfl, by decide +kernel, by decide +kernel⟩
abbrev s_step_of : Stmt := topS 29
theorem sc_step_of : FnScope ["word", "numbers"] ["word", "numbers"] (defScope s_step_of) := ⟨rfl, rfl, rfl, by decide +kernel, rfl, by decide +kernel, by decide +kernel⟩
abbrev s_Stepu_initu : Stmt := inClass (topS 14) 2
theorem sc_Stepu_initu : FnScope ["self", "shown"] ["self", "shown"] (defScope s_Stepu_initu) := ⟨rfl, rfl, rfl, by decide +kernel, rfl, by decide +kernel, by decide +kernel⟩
abbrev s_Step_after : Stmt := inClass (topS 14) 4
theorem sc_Step_after : FnScope ["self", "values"] ["self", "values"] (defScope s_Step_after) := ⟨rfl, rfl, rfl, by decide +kernel, rfl, by decide +kernel, by decide +kernel⟩
abbrev s_Stepu_equ : Stmt := inClass (topS 14) 5
theorem sc_Stepu_equ : FnScope ["self", "other"] ["self", "other"] (defScope s_Stepu_equ) := ⟨rfl, rfl, rfl, by decide +kernel, rfl, by decide +kernel, by decide +kernel⟩
abbrev s_Writeu_initu : Stmt := inClass (topS 15) 1
theorem sc_Writeu_initu : Vc.SupScope ["self", "address", "values", "at", "value"] ["self", "address", "values"] (defScope s_Writeu_initu) := ⟨rfl, rfl, rfl, by decide +kernel, rfl, by decide +kernel, by decide +kernel, by decide +kernel, rfl, rfl⟩
abbrev s_Write_after : Stmt := inClass (topS 15) 2
theorem sc_Write_after : FnScope ["self", "values", "data", "at", "value"] ["self", "values"] (defScope s_Write_after) := ⟨rfl, rfl, rfl, by decide +kernel, rfl, by decide +kernel, by decide +kernel⟩
abbrev s_Syncu_initu : Stmt := inClass (topS 16) 0
theorem sc_Syncu_initu : Vc.SupScope ["self"] ["self"] (defScope s_Syncu_initu) := ⟨rfl, rfl, rfl, by decide +kernel, rfl, by decide +kernel, by decide +kernel, by decide +kernel, rfl, rfl⟩
abbrev s_Passu_initu : Stmt := inClass (topS 17) 0
theorem sc_Passu_initu : Vc.SupScope ["self", "stretch"] ["self", "stretch"] (defScope s_Passu_initu) := ⟨rfl, rfl, rfl, by decide +kernel, rfl, by decide +kernel, by decide +kernel, by decide +kernel, rfl, rfl⟩
abbrev s_Planu_initu : Stmt := inClass (topS 30) 1
theorem sc_Planu_initu : FnScope ["self", "steps"] ["self", "steps"] (defScope s_Planu_initu) := ⟨rfl, rfl, rfl, by decide +kernel, rfl, by decide +kernel, by decide +kernel⟩
abbrev s_Plan_of : Stmt := inClass (topS 30) 2
theorem sc_Plan_of : FnScope ["cls", "steps"] ["cls", "steps"] (defScope s_Plan_of) := ⟨rfl, rfl, rfl, by decide +kernel, rfl, by decide +kernel, by decide +kernel⟩
abbrev s_Plan_read : Stmt := inClass (topS 30) 3
theorem sc_Plan_read : FnScope ["cls", "text", "lines", "parts", "at", "words", "word", "numbers"] ["cls", "text"] (defScope s_Plan_read) := ⟨rfl, rfl, rfl, by decide +kernel, rfl, by decide +kernel, by decide +kernel⟩
abbrev s_Plan_writes : Stmt := inClass (topS 30) 5
theorem sc_Plan_writes : FnScope ["self", "step"] ["self"] (defScope s_Plan_writes) := ⟨rfl, rfl, rfl, by decide +kernel, rfl, by decide +kernel, by decide +kernel⟩
abbrev s_Planu_getitemu : Stmt := inClass (topS 30) 7
theorem sc_Planu_getitemu : FnScope ["self", "at"] ["self", "at"] (defScope s_Planu_getitemu) := ⟨rfl, rfl, rfl, by decide +kernel, rfl, by decide +kernel, by decide +kernel⟩
abbrev s_Planu_equ : Stmt := inClass (topS 30) 12
theorem sc_Planu_equ : FnScope ["self", "other"] ["self", "other"] (defScope s_Planu_equ) := ⟨rfl, rfl, rfl, by decide +kernel, rfl, by decide +kernel, by decide +kernel⟩
abbrev s_Plan_head : Stmt := inClass (topS 30) 16
theorem sc_Plan_head : FnScope ["self", "count"] ["self", "count"] (defScope s_Plan_head) := ⟨rfl, rfl, rfl, by decide +kernel, rfl, by decide +kernel, by decide +kernel⟩
abbrev s_Plan_tail : Stmt := inClass (topS 30) 17
theorem sc_Plan_tail : FnScope ["self", "count"] ["self", "count"] (defScope s_Plan_tail) := ⟨rfl, rfl, rfl, by decide +kernel, rfl, by decide +kernel, by decide +kernel⟩
abbrev s_Plan_after : Stmt := inClass (topS 30) 18
theorem sc_Plan_after : FnScope ["self", "values", "data", "step"] ["self", "values"] (defScope s_Plan_after) := ⟨rfl, rfl, rfl, by decide +kernel, rfl, by decide +kernel, by decide +kernel⟩
abbrev s_Imageu_initu : Stmt := inClass (topS 35) 0
theorem sc_Imageu_initu : FnScope ["self", "values", "cells"] ["self", "values"] (defScope s_Imageu_initu) := ⟨rfl, rfl, rfl, by decide +kernel, rfl, by decide +kernel, by decide +kernel⟩
abbrev s_Imageu_lenu : Stmt := inClass (topS 35) 1
theorem sc_Imageu_lenu : FnScope ["self"] ["self"] (defScope s_Imageu_lenu) := ⟨rfl, rfl, rfl, by decide +kernel, rfl, by decide +kernel, by decide +kernel⟩
abbrev s_Imageu_iteru : Stmt := inClass (topS 35) 2
theorem sc_Imageu_iteru : FnScope ["self"] ["self"] (defScope s_Imageu_iteru) := ⟨rfl, rfl, rfl, by decide +kernel, rfl, by decide +kernel, by decide +kernel⟩
abbrev s_Imageu_getitemu : Stmt := inClass (topS 35) 4
theorem sc_Imageu_getitemu : FnScope ["self", "at", "low", "high"] ["self", "at"] (defScope s_Imageu_getitemu) := ⟨rfl, rfl, rfl, by decide +kernel, rfl, by decide +kernel, by decide +kernel⟩
abbrev s__law_pen : Stmt := topS 37
theorem sc__law_pen : FnScope ["_law_script"] ["_law_script"] (defScope s__law_pen) := ⟨rfl, rfl, rfl, by decide +kernel, rfl, by decide +kernel, by decide +kernel⟩
abbrev s__law_draw : Stmt := topS 38
theorem sc__law_draw : FnScope ["_law_pen_here", "_law_bound", "_law_digit", "_law_at", "_law_cell", "_law_great", "_law_mixed"] ["_law_pen_here", "_law_bound"] (defScope s__law_draw) := ⟨rfl, rfl, rfl, by decide +kernel, rfl, by decide +kernel, by decide +kernel⟩
abbrev s__law_step : Stmt := topS 39
theorem sc__law_step : FnScope ["_law_one", "_law_at", "_law_given"] ["_law_one"] (defScope s__law_step) := ⟨rfl, rfl, rfl, by decide +kernel, rfl, by decide +kernel, by decide +kernel⟩
abbrev s__law_drawn : Stmt := topS 40
theorem sc__law_drawn : FnScope ["_law_pen_here", "_law_size", "_law_way", "_law_given", "_law_last", "_law_some", "_law_k"] ["_law_pen_here", "_law_size"] (defScope s__law_drawn) := ⟨rfl, rfl, rfl, by decide +kernel, rfl, by decide +kernel, by decide +kernel⟩
abbrev s__law_due : Stmt := topS 41
theorem sc__law_due : FnScope ["_law_cells", "_law_steps", "_law_found", "_law_one", "_law_k", "_law_value"] ["_law_cells", "_law_steps"] (defScope s__law_due) := ⟨rfl, rfl, rfl, by decide +kernel, rfl, by decide +kernel, by decide +kernel⟩
abbrev s__law_told : Stmt := topS 42
theorem sc__law_told : FnScope ["_law_ask", "_law_caught", "error"] ["_law_ask"] (defScope s__law_told) := ⟨rfl, rfl, rfl, by decide +kernel, rfl, by decide +kernel, by decide +kernel⟩
abbrev s__law_shaped : Stmt := topS 43
theorem sc__law_shaped : FnScope ["_law_cells", "_law_way"] ["_law_cells", "_law_way"] (defScope s__law_shaped) := ⟨rfl, rfl, rfl, by decide +kernel, rfl, by decide +kernel, by decide +kernel⟩
abbrev s__law_plan_right : Stmt := topS 44
theorem sc__law_plan_right : FnScope ["_law_pen_here", "_law_cells", "_law_steps", "_law_course", "_law_given", "_law_due_here", "_law_told_here", "_law_many", "_law_half", "_law_ahead", "_law_mine", "_law_one", "_law_k"] ["_law_pen_here", "_law_cells", "_law_steps"] (defScope s__law_plan_right) := ⟨rfl, rfl, rfl, by decide +kernel, rfl, by decide +kernel, by decide +kernel⟩
abbrev s__law_wide_right : Stmt := topS 45
theorem sc__law_wide_right : FnScope ["_law_pen_here", "_law_cells", "_law_fresh", "_law_at", "_law_course", "_law_due_here", "_law_told_here", "_law_k", "_law_value"] ["_law_pen_here", "_law_cells"] (defScope s__law_wide_right) := ⟨rfl, rfl, rfl, by decide +kernel, rfl, by decide +kernel, by decide +kernel⟩
abbrev s__law_own_right : Stmt := topS 46
theorem sc__law_own_right : FnScope ["_law_row", "_law_made", "_law_found"] [] (defScope s__law_own_right) := ⟨rfl, rfl, rfl, by decide +kernel, rfl, by decide +kernel, by decide +kernel⟩
abbrev s_law : Stmt := topS 47
theorem sc_law : FnScope ["_law_script", "_law_pen_here", "_law_wide", "_law_turn", "_law_size", "_law_cells", "_law_many", "_law_steps", "_law_one", "_law_made", "_law_given", "_law_due_here", "_law_told_here", "_law_near", "_law_k"] ["_law_script"] (defScope s_law) := ⟨rfl, rfl, rfl, by decide +kernel, rfl, by decide +kernel, by decide +kernel⟩
abbrev s_BadByteu_initu : Stmt := inClass (topS 4) 0
theorem sc_BadByteu_initu : Vc.SupScope ["self", "at"] ["self", "at"] (defScope s_BadByteu_initu) := ⟨rfl, rfl, rfl, by decide +kernel, rfl, by decide +kernel, by decide +kernel, by decide +kernel, rfl, rfl⟩
abbrev s_BadAddressu_initu : Stmt := inClass (topS 5) 0
theorem sc_BadAddressu_initu : Vc.SupScope ["self", "at"] ["self", "at"] (defScope s_BadAddressu_initu) := ⟨rfl, rfl, rfl, by decide +kernel, rfl, by decide +kernel, by decide +kernel, by decide +kernel, rfl, rfl⟩
abbrev s_BadStepu_initu : Stmt := inClass (topS 7) 0
theorem sc_BadStepu_initu : Vc.SupScope ["self", "step"] ["self", "step"] (defScope s_BadStepu_initu) := ⟨rfl, rfl, rfl, by decide +kernel, rfl, by decide +kernel, by decide +kernel, by decide +kernel, rfl, rfl⟩
structure Ad where
  C_Step : Addr
  C_Write : Addr
  C_Sync : Addr
  C_Pass : Addr
  C_Plan : Addr
  C_Image : Addr
  f_is_byte : Addr
  d_is_byte : FuncData
  f_check_bytes : Addr
  d_check_bytes : FuncData
  f_span_of : Addr
  d_span_of : FuncData
  f_is_number : Addr
  d_is_number : FuncData
  f_split_lines : Addr
  d_split_lines : FuncData
  f_stands : Addr
  d_stands : FuncData
  f_check_line : Addr
  d_check_line : FuncData
  f_read_numbers : Addr
  d_read_numbers : FuncData
  f_read_parts : Addr
  d_read_parts : FuncData
  f_step_of : Addr
  d_step_of : FuncData
  f_Stepu_initu : Addr
  d_Stepu_initu : FuncData
  f_Step_after : Addr
  d_Step_after : FuncData
  f_Stepu_equ : Addr
  d_Stepu_equ : FuncData
  f_Writeu_initu : Addr
  d_Writeu_initu : FuncData
  f_Write_after : Addr
  d_Write_after : FuncData
  f_Syncu_initu : Addr
  d_Syncu_initu : FuncData
  f_Passu_initu : Addr
  d_Passu_initu : FuncData
  f_Planu_initu : Addr
  d_Planu_initu : FuncData
  e_Planu_initu_steps : Addr
  f_Plan_of : Addr
  d_Plan_of : FuncData
  sm_Plan_of : Addr
  f_Plan_read : Addr
  d_Plan_read : FuncData
  sm_Plan_read : Addr
  f_Plan_writes : Addr
  d_Plan_writes : FuncData
  pr_Plan_writes : Addr
  f_Planu_getitemu : Addr
  d_Planu_getitemu : FuncData
  f_Planu_equ : Addr
  d_Planu_equ : FuncData
  f_Plan_head : Addr
  d_Plan_head : FuncData
  f_Plan_tail : Addr
  d_Plan_tail : FuncData
  f_Plan_after : Addr
  d_Plan_after : FuncData
  f_Imageu_initu : Addr
  d_Imageu_initu : FuncData
  f_Imageu_lenu : Addr
  d_Imageu_lenu : FuncData
  f_Imageu_iteru : Addr
  d_Imageu_iteru : FuncData
  f_Imageu_getitemu : Addr
  d_Imageu_getitemu : FuncData
  f__law_pen : Addr
  d__law_pen : FuncData
  f__law_draw : Addr
  d__law_draw : FuncData
  f__law_step : Addr
  d__law_step : FuncData
  f__law_drawn : Addr
  d__law_drawn : FuncData
  f__law_due : Addr
  d__law_due : FuncData
  f__law_told : Addr
  d__law_told : FuncData
  f__law_shaped : Addr
  d__law_shaped : FuncData
  f__law_plan_right : Addr
  d__law_plan_right : FuncData
  f__law_wide_right : Addr
  d__law_wide_right : FuncData
  f__law_own_right : Addr
  d__law_own_right : FuncData
  f_law : Addr
  d_law : FuncData
  C_CodeError : Addr
  C_BadInput : Addr
  C_Word : Addr
  C_BadByte : Addr
  f_BadByteu_initu : Addr
  d_BadByteu_initu : FuncData
  C_BadAddress : Addr
  f_BadAddressu_initu : Addr
  d_BadAddressu_initu : FuncData
  C_BadStep : Addr
  f_BadStepu_initu : Addr
  d_BadStepu_initu : FuncData
structure Txt (K : PySem.W.Frag) (mg : Str → Option Value) (A : Ad) : Prop where
  g_Step : mg "Step" = some (.ref A.C_Step)
  g_Write : mg "Write" = some (.ref A.C_Write)
  g_Sync : mg "Sync" = some (.ref A.C_Sync)
  g_Pass : mg "Pass" = some (.ref A.C_Pass)
  g_Plan : mg "Plan" = some (.ref A.C_Plan)
  g_Image : mg "Image" = some (.ref A.C_Image)
  g_is_byte : mg "is_byte" = some (.ref A.f_is_byte)
  F_is_byte : Fun K "is_byte" "is_byte" s_is_byte A.f_is_byte A.d_is_byte
  b_is_byte : Binds K A.d_is_byte ["value"] []
  g_check_bytes : mg "check_bytes" = some (.ref A.f_check_bytes)
  F_check_bytes : Fun K "check_bytes" "check_bytes" s_check_bytes A.f_check_bytes A.d_check_bytes
  b_check_bytes : Binds K A.d_check_bytes ["values"] []
  g_span_of : mg "span_of" = some (.ref A.f_span_of)
  F_span_of : Fun K "span_of" "span_of" s_span_of A.f_span_of A.d_span_of
  b_span_of : Binds K A.d_span_of ["at", "size"] []
  g_is_number : mg "is_number" = some (.ref A.f_is_number)
  F_is_number : Fun K "is_number" "is_number" s_is_number A.f_is_number A.d_is_number
  b_is_number : Binds K A.d_is_number ["word"] []
  g_split_lines : mg "split_lines" = some (.ref A.f_split_lines)
  F_split_lines : Fun K "split_lines" "split_lines" s_split_lines A.f_split_lines A.d_split_lines
  b_split_lines : Binds K A.d_split_lines ["text"] []
  g_stands : mg "stands" = some (.ref A.f_stands)
  F_stands : Fun K "stands" "stands" s_stands A.f_stands A.d_stands
  b_stands : Binds K A.d_stands ["word", "kind"] []
  g_check_line : mg "check_line" = some (.ref A.f_check_line)
  F_check_line : Fun K "check_line" "check_line" s_check_line A.f_check_line A.d_check_line
  b_check_line : Binds K A.d_check_line ["line", "words", "kinds"] []
  g_read_numbers : mg "read_numbers" = some (.ref A.f_read_numbers)
  F_read_numbers : FunD K "read_numbers" "read_numbers" (defArgs s_read_numbers) (defBody s_read_numbers) (defScope s_read_numbers) [] [("least", .int 0), ("ascending", .bl false)] A.f_read_numbers A.d_read_numbers
  g_read_parts : mg "read_parts" = some (.ref A.f_read_parts)
  F_read_parts : Fun K "read_parts" "read_parts" s_read_parts A.f_read_parts A.d_read_parts
  b_read_parts : Binds K A.d_read_parts ["line", "words"] []
  g_step_of : mg "step_of" = some (.ref A.f_step_of)
  F_step_of : Fun K "step_of" "step_of" s_step_of A.f_step_of A.d_step_of
  b_step_of : Binds K A.d_step_of ["word", "numbers"] []
  F_Stepu_initu : Fun K "__init__" "Step.__init__" s_Stepu_initu A.f_Stepu_initu A.d_Stepu_initu
  b_Stepu_initu : Vc.BindV A.d_Stepu_initu ["self"] "shown"
  F_Step_after : Fun K "after" "Step.after" s_Step_after A.f_Step_after A.d_Step_after
  b_Step_after : Binds K A.d_Step_after ["self", "values"] []
  F_Stepu_equ : Fun K "__eq__" "Step.__eq__" s_Stepu_equ A.f_Stepu_equ A.d_Stepu_equ
  b_Stepu_equ : Binds K A.d_Stepu_equ ["self", "other"] []
  F_Writeu_initu : Vc.FunQ PySem.Challenge.pw_codestitch_k24_bytes_behind_steps K mg "__init__" "Write.__init__" s_Writeu_initu A.f_Writeu_initu A.d_Writeu_initu A.C_Write A.f_Stepu_initu "self"
  b_Writeu_initu : Vc.BindV A.d_Writeu_initu ["self", "address"] "values"
  F_Write_after : Fun K "after" "Write.after" s_Write_after A.f_Write_after A.d_Write_after
  b_Write_after : Binds K A.d_Write_after ["self", "values"] []
  F_Syncu_initu : Vc.FunQ PySem.Challenge.pw_codestitch_k24_bytes_behind_steps K mg "__init__" "Sync.__init__" s_Syncu_initu A.f_Syncu_initu A.d_Syncu_initu A.C_Sync A.f_Stepu_initu "self"
  b_Syncu_initu : Binds K A.d_Syncu_initu ["self"] []
  F_Passu_initu : Vc.FunQ PySem.Challenge.pw_codestitch_k24_bytes_behind_steps K mg "__init__" "Pass.__init__" s_Passu_initu A.f_Passu_initu A.d_Passu_initu A.C_Pass A.f_Stepu_initu "self"
  b_Passu_initu : Binds K A.d_Passu_initu ["self", "stretch"] []
  q_e_Planu_initu_steps : ∀ H, SqT K H A.e_Planu_initu_steps []
  F_Planu_initu : FunD K "__init__" "Plan.__init__" (defArgs s_Planu_initu) (defBody s_Planu_initu) (defScope s_Planu_initu) [.ref A.e_Planu_initu_steps] [] A.f_Planu_initu A.d_Planu_initu
  b_Planu_initu : Binds K A.d_Planu_initu ["self", "steps"] []
  bd1_Planu_initu : ∃ ds, Vals [.ref A.e_Planu_initu_steps] ds ∧ Binds K A.d_Planu_initu ["self", "steps"] ds
  cm_Plan_of : ClX.CMet K A.C_Plan (.type "type") "of" A.sm_Plan_of A.f_Plan_of
  F_Plan_of : Fun K "of" "Plan.of" s_Plan_of A.f_Plan_of A.d_Plan_of
  b_Plan_of : Vc.BindV A.d_Plan_of ["cls"] "steps"
  cm_Plan_read : ClX.CMet K A.C_Plan (.type "type") "read" A.sm_Plan_read A.f_Plan_read
  F_Plan_read : Fun K "read" "Plan.read" s_Plan_read A.f_Plan_read A.d_Plan_read
  b_Plan_read : Binds K A.d_Plan_read ["cls", "text"] []
  p_Plan_writes : PropOf K A.C_Plan "writes" A.pr_Plan_writes A.f_Plan_writes
  F_Plan_writes : Fun K "writes" "Plan.writes" s_Plan_writes A.f_Plan_writes A.d_Plan_writes
  b_Plan_writes : Binds K A.d_Plan_writes ["self"] []
  F_Planu_getitemu : Fun K "__getitem__" "Plan.__getitem__" s_Planu_getitemu A.f_Planu_getitemu A.d_Planu_getitemu
  b_Planu_getitemu : Binds K A.d_Planu_getitemu ["self", "at"] []
  F_Planu_equ : Fun K "__eq__" "Plan.__eq__" s_Planu_equ A.f_Planu_equ A.d_Planu_equ
  b_Planu_equ : Binds K A.d_Planu_equ ["self", "other"] []
  F_Plan_head : Fun K "head" "Plan.head" s_Plan_head A.f_Plan_head A.d_Plan_head
  b_Plan_head : Binds K A.d_Plan_head ["self", "count"] []
  F_Plan_tail : Fun K "tail" "Plan.tail" s_Plan_tail A.f_Plan_tail A.d_Plan_tail
  b_Plan_tail : Binds K A.d_Plan_tail ["self", "count"] []
  F_Plan_after : Fun K "after" "Plan.after" s_Plan_after A.f_Plan_after A.d_Plan_after
  b_Plan_after : Binds K A.d_Plan_after ["self", "values"] []
  F_Imageu_initu : Fun K "__init__" "Image.__init__" s_Imageu_initu A.f_Imageu_initu A.d_Imageu_initu
  b_Imageu_initu : Binds K A.d_Imageu_initu ["self", "values"] []
  F_Imageu_lenu : Fun K "__len__" "Image.__len__" s_Imageu_lenu A.f_Imageu_lenu A.d_Imageu_lenu
  b_Imageu_lenu : Binds K A.d_Imageu_lenu ["self"] []
  F_Imageu_iteru : Fun K "__iter__" "Image.__iter__" s_Imageu_iteru A.f_Imageu_iteru A.d_Imageu_iteru
  b_Imageu_iteru : Binds K A.d_Imageu_iteru ["self"] []
  F_Imageu_getitemu : Fun K "__getitem__" "Image.__getitem__" s_Imageu_getitemu A.f_Imageu_getitemu A.d_Imageu_getitemu
  b_Imageu_getitemu : Binds K A.d_Imageu_getitemu ["self", "at"] []
  g__law_pen : mg "_law_pen" = some (.ref A.f__law_pen)
  F__law_pen : Fun K "_law_pen" "_law_pen" s__law_pen A.f__law_pen A.d__law_pen
  b__law_pen : Binds K A.d__law_pen ["_law_script"] []
  g__law_draw : mg "_law_draw" = some (.ref A.f__law_draw)
  F__law_draw : Fun K "_law_draw" "_law_draw" s__law_draw A.f__law_draw A.d__law_draw
  b__law_draw : Binds K A.d__law_draw ["_law_pen_here", "_law_bound"] []
  g__law_step : mg "_law_step" = some (.ref A.f__law_step)
  F__law_step : Fun K "_law_step" "_law_step" s__law_step A.f__law_step A.d__law_step
  b__law_step : Binds K A.d__law_step ["_law_one"] []
  g__law_drawn : mg "_law_drawn" = some (.ref A.f__law_drawn)
  F__law_drawn : Fun K "_law_drawn" "_law_drawn" s__law_drawn A.f__law_drawn A.d__law_drawn
  b__law_drawn : Binds K A.d__law_drawn ["_law_pen_here", "_law_size"] []
  g__law_due : mg "_law_due" = some (.ref A.f__law_due)
  F__law_due : Fun K "_law_due" "_law_due" s__law_due A.f__law_due A.d__law_due
  b__law_due : Binds K A.d__law_due ["_law_cells", "_law_steps"] []
  g__law_told : mg "_law_told" = some (.ref A.f__law_told)
  F__law_told : Fun K "_law_told" "_law_told" s__law_told A.f__law_told A.d__law_told
  b__law_told : Binds K A.d__law_told ["_law_ask"] []
  g__law_shaped : mg "_law_shaped" = some (.ref A.f__law_shaped)
  F__law_shaped : Fun K "_law_shaped" "_law_shaped" s__law_shaped A.f__law_shaped A.d__law_shaped
  b__law_shaped : Binds K A.d__law_shaped ["_law_cells", "_law_way"] []
  g__law_plan_right : mg "_law_plan_right" = some (.ref A.f__law_plan_right)
  F__law_plan_right : Fun K "_law_plan_right" "_law_plan_right" s__law_plan_right A.f__law_plan_right A.d__law_plan_right
  b__law_plan_right : Binds K A.d__law_plan_right ["_law_pen_here", "_law_cells", "_law_steps"] []
  g__law_wide_right : mg "_law_wide_right" = some (.ref A.f__law_wide_right)
  F__law_wide_right : Fun K "_law_wide_right" "_law_wide_right" s__law_wide_right A.f__law_wide_right A.d__law_wide_right
  b__law_wide_right : Binds K A.d__law_wide_right ["_law_pen_here", "_law_cells"] []
  g__law_own_right : mg "_law_own_right" = some (.ref A.f__law_own_right)
  F__law_own_right : Fun K "_law_own_right" "_law_own_right" s__law_own_right A.f__law_own_right A.d__law_own_right
  b__law_own_right : Binds K A.d__law_own_right [] []
  g_law : mg "law" = some (.ref A.f_law)
  F_law : Fun K "law" "law" s_law A.f_law A.d_law
  b_law : Binds K A.d_law ["_law_script"] []
  cl_Step : Cls K A.C_Step
  cl_Write : Cls K A.C_Write
  mk_Write : Mk K A.C_Write A.f_Writeu_initu
  no_Write_shown : NoAttr K A.C_Write "shown"
  no_Write_address : NoAttr K A.C_Write "address"
  no_Write_given : NoAttr K A.C_Write "given"
  cl_Sync : Cls K A.C_Sync
  mk_Sync : Mk K A.C_Sync A.f_Syncu_initu
  no_Sync_shown : NoAttr K A.C_Sync "shown"
  cl_Pass : Cls K A.C_Pass
  mk_Pass : Mk K A.C_Pass A.f_Passu_initu
  no_Pass_shown : NoAttr K A.C_Pass "shown"
  no_Pass_stretch : NoAttr K A.C_Pass "stretch"
  cl_Plan : Cls K A.C_Plan
  mk_Plan : Mk K A.C_Plan A.f_Planu_initu
  m_Plan_head : Meth K A.C_Plan "head" A.f_Plan_head
  m_Plan_tail : Meth K A.C_Plan "tail" A.f_Plan_tail
  m_Plan_after : Meth K A.C_Plan "after" A.f_Plan_after
  no_Plan_listed : NoAttr K A.C_Plan "listed"
  cl_Image : Cls K A.C_Image
  mk_Image : Mk K A.C_Image A.f_Imageu_initu
  no_Image_cells : NoAttr K A.C_Image "cells"
  n_len : mg "len" = none
  n_abs : mg "abs" = none
  n_int : mg "int" = none
  n_list : mg "list" = none
  n_range : mg "range" = none
  n_isinstance : mg "isinstance" = none
  n_bool : mg "bool" = none
  n_str : mg "str" = none
  n_tuple : mg "tuple" = none
  n_ValueError : mg "ValueError" = none
  n_repr : mg "repr" = none
  n_enumerate : mg "enumerate" = none
  n_sum : mg "sum" = none
  n_any : mg "any" = none
  n_all : mg "all" = none
  n_max : mg "max" = none
  n_min : mg "min" = none
  n_iter : mg "iter" = none
  g_MOST_DIGITS : ∃ t, mg "MOST_DIGITS" = some (.int 3 t)
  g_MOST_NUMBER : ∃ t, mg "MOST_NUMBER" = some (.int 255 t)
  g_MOST_ADDRESS : ∃ t, mg "MOST_ADDRESS" = some (.int 23 t)
  g_DIGITS : ∃ t, mg "DIGITS" = some (.str "0123456789" t)
  g_CodeError : mg "CodeError" = some (.ref A.C_CodeError)
  g_BadInput : mg "BadInput" = some (.ref A.C_BadInput)
  g_Word : mg "Word" = some (.ref A.C_Word)
  g_BadByte : mg "BadByte" = some (.ref A.C_BadByte)
  ox_BadByte : OexC K A.C_BadByte
  i_BadByte : PySem.W.findIn K (.ref A.C_BadByte) "__init__" = some (some (.ref A.f_BadByteu_initu))
  ti_BadByte : PySem.W.typeIn K (.ref A.f_BadByteu_initu) = some (.type "function")
  no_BadByte_at : PySem.W.findIn K (.ref A.C_BadByte) "at" = some none
  xf_BadByte : XfC K A.C_BadByte
  ec_BadByte : ExcC K A.C_BadByte
  F_BadByteu_initu : Vc.FunS PySem.Challenge.pw_codestitch_k24_bytes_behind_steps K mg "__init__" "BadByte.__init__" s_BadByteu_initu A.f_BadByteu_initu A.d_BadByteu_initu A.C_BadByte "self"
  b_BadByteu_initu : Binds K A.d_BadByteu_initu ["self", "at"] []
  g_BadAddress : mg "BadAddress" = some (.ref A.C_BadAddress)
  ox_BadAddress : OexC K A.C_BadAddress
  i_BadAddress : PySem.W.findIn K (.ref A.C_BadAddress) "__init__" = some (some (.ref A.f_BadAddressu_initu))
  ti_BadAddress : PySem.W.typeIn K (.ref A.f_BadAddressu_initu) = some (.type "function")
  no_BadAddress_at : PySem.W.findIn K (.ref A.C_BadAddress) "at" = some none
  xf_BadAddress : XfC K A.C_BadAddress
  ec_BadAddress : ExcC K A.C_BadAddress
  F_BadAddressu_initu : Vc.FunS PySem.Challenge.pw_codestitch_k24_bytes_behind_steps K mg "__init__" "BadAddress.__init__" s_BadAddressu_initu A.f_BadAddressu_initu A.d_BadAddressu_initu A.C_BadAddress "self"
  b_BadAddressu_initu : Binds K A.d_BadAddressu_initu ["self", "at"] []
  g_BadStep : mg "BadStep" = some (.ref A.C_BadStep)
  ox_BadStep : OexC K A.C_BadStep
  i_BadStep : PySem.W.findIn K (.ref A.C_BadStep) "__init__" = some (some (.ref A.f_BadStepu_initu))
  ti_BadStep : PySem.W.typeIn K (.ref A.f_BadStepu_initu) = some (.type "function")
  no_BadStep_step : PySem.W.findIn K (.ref A.C_BadStep) "step" = some none
  xf_BadStep : XfC K A.C_BadStep
  ec_BadStep : ExcC K A.C_BadStep
  F_BadStepu_initu : Vc.FunS PySem.Challenge.pw_codestitch_k24_bytes_behind_steps K mg "__init__" "BadStep.__init__" s_BadStepu_initu A.f_BadStepu_initu A.d_BadStepu_initu A.C_BadStep "self"
  b_BadStepu_initu : Binds K A.d_BadStepu_initu ["self", "step"] []
  kit_BadAddress_BadAddress : PySem.W.kitOne K (.ref A.C_BadAddress) (.ref A.C_BadAddress) = some true
  kit_BadAddress_BadInput : PySem.W.kitOne K (.ref A.C_BadAddress) (.ref A.C_BadInput) = some true
  kit_BadAddress_BadByte : PySem.W.kitOne K (.ref A.C_BadAddress) (.ref A.C_BadByte) = some false
  kit_BadAddress_BadStep : PySem.W.kitOne K (.ref A.C_BadAddress) (.ref A.C_BadStep) = some false
  kit_Write_Step : PySem.W.kitOne K (.ref A.C_Write) (.ref A.C_Step) = some true
  kit_Sync_Step : PySem.W.kitOne K (.ref A.C_Sync) (.ref A.C_Step) = some true
  kit_Pass_Step : PySem.W.kitOne K (.ref A.C_Pass) (.ref A.C_Step) = some true
  exm_BadByte_CodeError : PySem.W.exmOne K (.ref A.C_BadByte) (.ref A.C_CodeError) = some true
  exm_BadAddress_CodeError : PySem.W.exmOne K (.ref A.C_BadAddress) (.ref A.C_CodeError) = some true
  exm_BadStep_CodeError : PySem.W.exmOne K (.ref A.C_BadStep) (.ref A.C_CodeError) = some true
  ic_Plan : C8.InsC K A.C_Plan
  ic_Image : C8.InsC K A.C_Image
  ic_Write : C8.InsC K A.C_Write
  ic_Sync : C8.InsC K A.C_Sync
  ic_Pass : C8.InsC K A.C_Pass
  eq_Plan : Vc.EqM K A.C_Plan A.f_Planu_equ
  ne_Plan : Vc.NeM K A.C_Plan A.f_Planu_equ
  kt_list_Image : PySem.W.kitOne K (.type "list") (.ref A.C_Image) = some false
  kt_tuple_Image : PySem.W.kitOne K (.type "tuple") (.ref A.C_Image) = some false
  nf_Plan_Plan : PySem.W.notFirst K A.C_Plan (.ref A.C_Plan) = true
  nf_Write_Write : PySem.W.notFirst K A.C_Write (.ref A.C_Write) = true
  nf_Sync_Write : PySem.W.notFirst K A.C_Write (.ref A.C_Sync) = true
  nf_Pass_Write : PySem.W.notFirst K A.C_Write (.ref A.C_Pass) = true
  nf_Write_Sync : PySem.W.notFirst K A.C_Sync (.ref A.C_Write) = true
  nf_Sync_Sync : PySem.W.notFirst K A.C_Sync (.ref A.C_Sync) = true
  nf_Pass_Sync : PySem.W.notFirst K A.C_Sync (.ref A.C_Pass) = true
  nf_Write_Pass : PySem.W.notFirst K A.C_Pass (.ref A.C_Write) = true
  nf_Sync_Pass : PySem.W.notFirst K A.C_Pass (.ref A.C_Sync) = true
  nf_Pass_Pass : PySem.W.notFirst K A.C_Pass (.ref A.C_Pass) = true
  sp_Plan_Planu_getitemu : Vc.SpM K A.C_Plan A.f_Planu_getitemu "__getitem__"
  spf_Planu_getitemu : PySem.W.fnIn K A.f_Planu_getitemu = true
  sp_Image_Imageu_iteru : Vc.SpM K A.C_Image A.f_Imageu_iteru "__iter__"
  sp_Image_Imageu_lenu : Vc.SpM K A.C_Image A.f_Imageu_lenu "__len__"
  sp_Image_Imageu_getitemu : Vc.SpM K A.C_Image A.f_Imageu_getitemu "__getitem__"
  spf_Imageu_getitemu : PySem.W.fnIn K A.f_Imageu_getitemu = true
  cr_Plan : ClX.CRead K A.C_Plan (.type "type")
  se_Write : Vc.EqM K A.C_Write A.f_Stepu_equ
  sr_Write : ∃ u, Con K A.C_Write "WRITES" (.int 1) u
  se_Sync : Vc.EqM K A.C_Sync A.f_Stepu_equ
  sr_Sync : ∃ u, Con K A.C_Sync "WRITES" (.int 0) u
  se_Pass : Vc.EqM K A.C_Pass A.f_Stepu_equ
  sr_Pass : ∃ u, Con K A.C_Pass "WRITES" (.int 0) u
  m_Write_after : Meth K A.C_Write "after" A.f_Write_after
  m_Sync_after : Meth K A.C_Sync "after" A.f_Step_after
  m_Pass_after : Meth K A.C_Pass "after" A.f_Step_after
end My
namespace My
section
open PySem PySem.Spec PyProof.Rows L2
/-! ### what stands behind the top -/
def fa0 : List (PySem.W.Frag → Bool) := [
  fun K => decide (PySem.W.nsIn K mainGlobals "Step" = some (some (.ref 216))),
  fun K => decide (PySem.W.nsIn K mainGlobals "Write" = some (some (.ref 246))),
  fun K => decide (PySem.W.nsIn K mainGlobals "Sync" = some (some (.ref 267))),
  fun K => decide (PySem.W.nsIn K mainGlobals "Pass" = some (some (.ref 288))),
  fun K => decide (PySem.W.nsIn K mainGlobals "Plan" = some (some (.ref 478))),
  fun K => decide (PySem.W.nsIn K mainGlobals "Image" = some (some (.ref 586))),
  fun K => decide (PySem.W.nsIn K mainGlobals "is_byte" = some (some (.ref 158))),
  fun K => Hx.fdB K 158 (Hx.pPlain K "is_byte"),
  fun K => PySem.W.keepIn K (.ref 158),
  fun K => decide (PySem.W.nsIn K mainGlobals "check_bytes" = some (some (.ref 489))),
  fun K => Hx.fdB K 489 (Hx.pPlain K "check_bytes"),
  fun K => PySem.W.keepIn K (.ref 489),
  fun K => decide (PySem.W.nsIn K mainGlobals "span_of" = some (some (.ref 496))),
  fun K => Hx.fdB K 496 (Hx.pPlain K "span_of"),
  fun K => PySem.W.keepIn K (.ref 496),
  fun K => decide (PySem.W.nsIn K mainGlobals "is_number" = some (some (.ref 295))),
  fun K => Hx.fdB K 295 (Hx.pPlain K "is_number"),
  fun K => PySem.W.keepIn K (.ref 295),
  fun K => decide (PySem.W.nsIn K mainGlobals "split_lines" = some (some (.ref 300))),
  fun K => Hx.fdB K 300 (Hx.pPlain K "split_lines"),
  fun K => PySem.W.keepIn K (.ref 300),
  fun K => decide (PySem.W.nsIn K mainGlobals "stands" = some (some (.ref 307))),
  fun K => Hx.fdB K 307 (Hx.pPlain K "stands"),
  fun K => PySem.W.keepIn K (.ref 307),
  fun K => decide (PySem.W.nsIn K mainGlobals "check_line" = some (some (.ref 314))),
  fun K => Hx.fdB K 314 (Hx.pPlain K "check_line"),
  fun K => PySem.W.keepIn K (.ref 314),
  fun K => decide (PySem.W.nsIn K mainGlobals "read_numbers" = some (some (.ref 322))),
  fun K => Hx.fdB K 322 (Hx.pKwd K "read_numbers" 315),
  fun K => PySem.W.keepIn K (.ref 322),
  fun K => Hx.intB K 315 "least" 0,
  fun K => decide (PySem.W.nsIn K 315 "ascending" = some (some (.bool false))),
  fun K => decide (PySem.W.nsIn K mainGlobals "read_parts" = some (some (.ref 329))),
  fun K => Hx.fdB K 329 (Hx.pPlain K "read_parts"),
  fun K => PySem.W.keepIn K (.ref 329),
  fun K => decide (PySem.W.nsIn K mainGlobals "step_of" = some (some (.ref 334))),
  fun K => Hx.fdB K 334 (Hx.pPlain K "step_of"),
  fun K => PySem.W.keepIn K (.ref 334),
  fun K => decide (PySem.W.findIn K (.ref 216) "__init__" = some (some (.ref 186))),
  fun K => PySem.W.isFn K (.ref 186)]
def fa1 : List (PySem.W.Frag → Bool) := [
  fun K => Hx.fdB K 186 (Hx.pPlain K "Step.__init__"),
  fun K => PySem.W.keepIn K (.ref 186),
  fun K => decide (PySem.W.findIn K (.ref 216) "after" = some (some (.ref 201))),
  fun K => PySem.W.isFn K (.ref 201),
  fun K => Hx.fdB K 201 (Hx.pPlain K "Step.after"),
  fun K => PySem.W.keepIn K (.ref 201),
  fun K => decide (PySem.W.findIn K (.ref 216) "__eq__" = some (some (.ref 208))),
  fun K => PySem.W.isFn K (.ref 208),
  fun K => Hx.fdB K 208 (Hx.pPlain K "Step.__eq__"),
  fun K => PySem.W.keepIn K (.ref 208),
  fun K => decide (PySem.W.findIn K (.ref 246) "__init__" = some (some (.ref 236))),
  fun K => PySem.W.isFn K (.ref 236),
  fun K => Hx.fdB K 236 (Hx.pSup K "Write.__init__" 235),
  fun K => PySem.W.keepIn K (.ref 236),
  fun K => Hx.filB K 235 PySem.Challenge.pw_codestitch_k24_bytes_behind_steps.main.file,
  fun K => Hx.celB K 224 246,
  fun K => decide (PySem.W.mroIn K 246 (.ref 246) = some true),
  fun K => decide (PySem.W.ks_superIn K 246 246 "__init__" = some (some (.ref 186))),
  fun K => PySem.W.fnIn K 186,
  fun K => decide (PySem.W.nsIn K mainGlobals "super" = some none),
  fun K => decide (PySem.W.nsIn K cStatics "thirdparty.any" = some none),
  fun K => decide (PySem.W.findIn K (.ref 246) "after" = some (some (.ref 243))),
  fun K => PySem.W.isFn K (.ref 243),
  fun K => Hx.fdB K 243 (Hx.pPlain K "Write.after"),
  fun K => PySem.W.keepIn K (.ref 243),
  fun K => decide (PySem.W.findIn K (.ref 267) "__init__" = some (some (.ref 264))),
  fun K => PySem.W.isFn K (.ref 264),
  fun K => Hx.fdB K 264 (Hx.pSup K "Sync.__init__" 263),
  fun K => PySem.W.keepIn K (.ref 264),
  fun K => Hx.filB K 263 PySem.Challenge.pw_codestitch_k24_bytes_behind_steps.main.file,
  fun K => Hx.celB K 252 267,
  fun K => decide (PySem.W.mroIn K 267 (.ref 267) = some true),
  fun K => decide (PySem.W.ks_superIn K 267 267 "__init__" = some (some (.ref 186))),
  fun K => decide (PySem.W.findIn K (.ref 288) "__init__" = some (some (.ref 285))),
  fun K => PySem.W.isFn K (.ref 285),
  fun K => Hx.fdB K 285 (Hx.pSup K "Pass.__init__" 284),
  fun K => PySem.W.keepIn K (.ref 285),
  fun K => Hx.filB K 284 PySem.Challenge.pw_codestitch_k24_bytes_behind_steps.main.file,
  fun K => Hx.celB K 273 288,
  fun K => decide (PySem.W.mroIn K 288 (.ref 288) = some true)]
def fa2 : List (PySem.W.Frag → Bool) := [
  fun K => decide (PySem.W.ks_superIn K 288 288 "__init__" = some (some (.ref 186))),
  fun K => decide (PySem.W.findIn K (.ref 478) "__init__" = some (some (.ref 350))),
  fun K => PySem.W.isFn K (.ref 350),
  fun K => Hx.fdB K 350 (Hx.pDfl K "Plan.__init__" 343),
  fun K => PySem.W.keepIn K (.ref 350),
  fun K => Hx.seqB K 342 [],
  fun K => Hx.seqB K 343 [.ref 342],
  fun K => Hx.fcC K 478 "of" 359,
  fun K => Hx.recB1 K 359 "classmethod" 357,
  fun K => PySem.W.fnIn K 357,
  fun K => Hx.fdB K 357 (Hx.pPlain K "Plan.of"),
  fun K => PySem.W.keepIn K (.ref 357),
  fun K => Hx.fcC K 478 "read" 367,
  fun K => Hx.recB1 K 367 "classmethod" 365,
  fun K => PySem.W.fnIn K 365,
  fun K => Hx.fdB K 365 (Hx.pPlain K "Plan.read"),
  fun K => PySem.W.keepIn K (.ref 365),
  fun K => decide (PySem.W.findIn K (.ref 478) "writes" = some (some (.ref 380))),
  fun K => decide (PySem.W.specialIn K (.ref 380) "__get__" = some (some (.builtin "property.__get__"))),
  fun K => decide (PySem.W.takesIn K (.ref 380) = some true),
  fun K => Hx.recB1 K 380 "property" 379,
  fun K => Hx.fdB K 379 (Hx.pPlain K "Plan.writes"),
  fun K => PySem.W.keepIn K (.ref 379),
  fun K => decide (PySem.W.findIn K (.ref 478) "__getitem__" = some (some (.ref 395))),
  fun K => PySem.W.isFn K (.ref 395),
  fun K => Hx.fdB K 395 (Hx.pPlain K "Plan.__getitem__"),
  fun K => PySem.W.keepIn K (.ref 395),
  fun K => decide (PySem.W.findIn K (.ref 478) "__eq__" = some (some (.ref 428))),
  fun K => PySem.W.isFn K (.ref 428),
  fun K => Hx.fdB K 428 (Hx.pPlain K "Plan.__eq__"),
  fun K => PySem.W.keepIn K (.ref 428),
  fun K => decide (PySem.W.findIn K (.ref 478) "head" = some (some (.ref 454))),
  fun K => PySem.W.isFn K (.ref 454),
  fun K => Hx.fdB K 454 (Hx.pPlain K "Plan.head"),
  fun K => PySem.W.keepIn K (.ref 454),
  fun K => decide (PySem.W.findIn K (.ref 478) "tail" = some (some (.ref 461))),
  fun K => PySem.W.isFn K (.ref 461),
  fun K => Hx.fdB K 461 (Hx.pPlain K "Plan.tail"),
  fun K => PySem.W.keepIn K (.ref 461),
  fun K => decide (PySem.W.findIn K (.ref 478) "after" = some (some (.ref 468)))]
def fa3 : List (PySem.W.Frag → Bool) := [
  fun K => PySem.W.isFn K (.ref 468),
  fun K => Hx.fdB K 468 (Hx.pPlain K "Plan.after"),
  fun K => PySem.W.keepIn K (.ref 468),
  fun K => decide (PySem.W.findIn K (.ref 586) "__init__" = some (some (.ref 515))),
  fun K => PySem.W.isFn K (.ref 515),
  fun K => Hx.fdB K 515 (Hx.pPlain K "Image.__init__"),
  fun K => PySem.W.keepIn K (.ref 515),
  fun K => decide (PySem.W.findIn K (.ref 586) "__len__" = some (some (.ref 522))),
  fun K => PySem.W.isFn K (.ref 522),
  fun K => Hx.fdB K 522 (Hx.pPlain K "Image.__len__"),
  fun K => PySem.W.keepIn K (.ref 522),
  fun K => decide (PySem.W.findIn K (.ref 586) "__iter__" = some (some (.ref 529))),
  fun K => PySem.W.isFn K (.ref 529),
  fun K => Hx.fdB K 529 (Hx.pPlain K "Image.__iter__"),
  fun K => PySem.W.keepIn K (.ref 529),
  fun K => decide (PySem.W.findIn K (.ref 586) "__getitem__" = some (some (.ref 543))),
  fun K => PySem.W.isFn K (.ref 543),
  fun K => Hx.fdB K 543 (Hx.pPlain K "Image.__getitem__"),
  fun K => PySem.W.keepIn K (.ref 543),
  fun K => decide (PySem.W.nsIn K mainGlobals "_law_pen" = some (some (.ref 597))),
  fun K => Hx.fdB K 597 (Hx.pPlain K "_law_pen"),
  fun K => PySem.W.keepIn K (.ref 597),
  fun K => decide (PySem.W.nsIn K mainGlobals "_law_draw" = some (some (.ref 604))),
  fun K => Hx.fdB K 604 (Hx.pPlain K "_law_draw"),
  fun K => PySem.W.keepIn K (.ref 604),
  fun K => decide (PySem.W.nsIn K mainGlobals "_law_step" = some (some (.ref 611))),
  fun K => Hx.fdB K 611 (Hx.pPlain K "_law_step"),
  fun K => PySem.W.keepIn K (.ref 611),
  fun K => decide (PySem.W.nsIn K mainGlobals "_law_drawn" = some (some (.ref 616))),
  fun K => Hx.fdB K 616 (Hx.pPlain K "_law_drawn"),
  fun K => PySem.W.keepIn K (.ref 616),
  fun K => decide (PySem.W.nsIn K mainGlobals "_law_due" = some (some (.ref 623))),
  fun K => Hx.fdB K 623 (Hx.pPlain K "_law_due"),
  fun K => PySem.W.keepIn K (.ref 623),
  fun K => decide (PySem.W.nsIn K mainGlobals "_law_told" = some (some (.ref 630))),
  fun K => Hx.fdB K 630 (Hx.pPlain K "_law_told"),
  fun K => PySem.W.keepIn K (.ref 630),
  fun K => decide (PySem.W.nsIn K mainGlobals "_law_shaped" = some (some (.ref 637))),
  fun K => Hx.fdB K 637 (Hx.pPlain K "_law_shaped"),
  fun K => PySem.W.keepIn K (.ref 637)]
def fa4 : List (PySem.W.Frag → Bool) := [
  fun K => decide (PySem.W.nsIn K mainGlobals "_law_plan_right" = some (some (.ref 642))),
  fun K => Hx.fdB K 642 (Hx.pPlain K "_law_plan_right"),
  fun K => PySem.W.keepIn K (.ref 642),
  fun K => decide (PySem.W.nsIn K mainGlobals "_law_wide_right" = some (some (.ref 647))),
  fun K => Hx.fdB K 647 (Hx.pPlain K "_law_wide_right"),
  fun K => PySem.W.keepIn K (.ref 647),
  fun K => decide (PySem.W.nsIn K mainGlobals "_law_own_right" = some (some (.ref 654))),
  fun K => Hx.fdB K 654 (Hx.pPlain K "_law_own_right"),
  fun K => PySem.W.keepIn K (.ref 654),
  fun K => decide (PySem.W.nsIn K mainGlobals "law" = some (some (.ref 659))),
  fun K => Hx.fdB K 659 (Hx.pPlain K "law"),
  fun K => PySem.W.keepIn K (.ref 659),
  fun K => PySem.W.plainGet K 216 Str.empty,
  fun K => PySem.W.hasDictIn K 216,
  fun K => PySem.W.plainOver K 216,
  fun K => decide (PySem.W.findIn K (.ref 216) "__setattr__" = some (some (.builtin "object.__setattr__"))),
  fun K => PySem.W.plainGet K 246 Str.empty,
  fun K => PySem.W.hasDictIn K 246,
  fun K => PySem.W.plainOver K 246,
  fun K => decide (PySem.W.findIn K (.ref 246) "__setattr__" = some (some (.builtin "object.__setattr__"))),
  fun K => PySem.W.makesIn K 246,
  fun K => PySem.W.keepIn K (.ref 246),
  fun K => decide (PySem.W.findIn K (.ref 246) "shown" = some none),
  fun K => decide (PySem.W.findIn K (.ref 246) "address" = some none),
  fun K => decide (PySem.W.findIn K (.ref 246) "given" = some none),
  fun K => PySem.W.plainGet K 267 Str.empty,
  fun K => PySem.W.hasDictIn K 267,
  fun K => PySem.W.plainOver K 267,
  fun K => decide (PySem.W.findIn K (.ref 267) "__setattr__" = some (some (.builtin "object.__setattr__"))),
  fun K => PySem.W.makesIn K 267,
  fun K => PySem.W.keepIn K (.ref 267),
  fun K => decide (PySem.W.findIn K (.ref 267) "shown" = some none),
  fun K => PySem.W.plainGet K 288 Str.empty,
  fun K => PySem.W.hasDictIn K 288,
  fun K => PySem.W.plainOver K 288,
  fun K => decide (PySem.W.findIn K (.ref 288) "__setattr__" = some (some (.builtin "object.__setattr__"))),
  fun K => PySem.W.makesIn K 288,
  fun K => PySem.W.keepIn K (.ref 288),
  fun K => decide (PySem.W.findIn K (.ref 288) "shown" = some none),
  fun K => decide (PySem.W.findIn K (.ref 288) "stretch" = some none)]
def fa5 : List (PySem.W.Frag → Bool) := [
  fun K => PySem.W.plainGet K 478 Str.empty,
  fun K => PySem.W.hasDictIn K 478,
  fun K => PySem.W.plainOver K 478,
  fun K => decide (PySem.W.findIn K (.ref 478) "__setattr__" = some (some (.builtin "object.__setattr__"))),
  fun K => PySem.W.makesIn K 478,
  fun K => PySem.W.keepIn K (.ref 478),
  fun K => decide (PySem.W.findIn K (.ref 478) "listed" = some none),
  fun K => PySem.W.plainGet K 586 Str.empty,
  fun K => PySem.W.hasDictIn K 586,
  fun K => PySem.W.plainOver K 586,
  fun K => decide (PySem.W.findIn K (.ref 586) "__setattr__" = some (some (.builtin "object.__setattr__"))),
  fun K => PySem.W.makesIn K 586,
  fun K => PySem.W.keepIn K (.ref 586),
  fun K => decide (PySem.W.findIn K (.ref 586) "cells" = some none),
  fun K => decide (PySem.W.nsIn K mainGlobals "len" = some none),
  fun K => decide (PySem.W.nsIn K mainGlobals "abs" = some none),
  fun K => decide (PySem.W.nsIn K mainGlobals "int" = some none),
  fun K => decide (PySem.W.nsIn K mainGlobals "list" = some none),
  fun K => decide (PySem.W.nsIn K mainGlobals "range" = some none),
  fun K => decide (PySem.W.nsIn K mainGlobals "isinstance" = some none),
  fun K => decide (PySem.W.nsIn K mainGlobals "bool" = some none),
  fun K => decide (PySem.W.nsIn K mainGlobals "str" = some none),
  fun K => decide (PySem.W.nsIn K mainGlobals "tuple" = some none),
  fun K => decide (PySem.W.nsIn K mainGlobals "ValueError" = some none),
  fun K => decide (PySem.W.nsIn K mainGlobals "repr" = some none),
  fun K => decide (PySem.W.nsIn K mainGlobals "enumerate" = some none),
  fun K => decide (PySem.W.nsIn K mainGlobals "sum" = some none),
  fun K => decide (PySem.W.nsIn K mainGlobals "any" = some none),
  fun K => decide (PySem.W.nsIn K mainGlobals "all" = some none),
  fun K => decide (PySem.W.nsIn K mainGlobals "max" = some none),
  fun K => decide (PySem.W.nsIn K mainGlobals "min" = some none),
  fun K => decide (PySem.W.nsIn K mainGlobals "iter" = some none),
  fun K => Hx.intB K mainGlobals "MOST_DIGITS" 3,
  fun K => Hx.intB K mainGlobals "MOST_NUMBER" 255,
  fun K => Hx.intB K mainGlobals "MOST_ADDRESS" 23,
  fun K => Hx.strB K mainGlobals "DIGITS" "0123456789",
  fun K => decide (PySem.W.nsIn K mainGlobals "CodeError" = some (some (.ref 31))),
  fun K => decide (PySem.W.nsIn K mainGlobals "BadInput" = some (some (.ref 44))),
  fun K => decide (PySem.W.nsIn K mainGlobals "Word" = some (some (.ref 168))),
  fun K => decide (PySem.W.specialIn K (.builtin "object.__class__") "__get__" = some (some (.builtin "getset_descriptor.__get__")))]
def fa6 : List (PySem.W.Frag → Bool) := [
  fun K => decide (PySem.W.takesIn K (.builtin "object.__class__") = some true),
  fun K => decide (PySem.W.nsIn K mainGlobals "BadByte" = some (some (.ref 65))),
  fun K => Hx.excB K 65,
  fun K => decide (PySem.W.findIn K (.ref 65) "__setattr__" = some (some (.builtin "object.__setattr__"))),
  fun K => decide (PySem.W.subIn K (.ref 65) (.type "BaseException") = some true),
  fun K => decide (PySem.W.typeIn K (.ref 65) = some (.type "type")),
  fun K => PySem.W.keepIn K (.ref 65),
  fun K => decide (PySem.W.findIn K (.ref 65) "__init__" = some (some (.ref 62))),
  fun K => decide (PySem.W.typeIn K (.ref 62) = some (.type "function")),
  fun K => decide (PySem.W.findIn K (.ref 65) "at" = some none),
  fun K => decide (PySem.W.findIn K (.ref 65) "__getattribute__" = some (some (.builtin "BaseException.__getattribute__"))),
  fun K => decide (PySem.W.findIn K (.ref 65) "__getattr__" = some none),
  fun K => PySem.W.hasDictIn K 65,
  fun K => decide (PySem.W.findIn K (.ref 65) "__class__" = some (some (.builtin "object.__class__"))),
  fun K => decide (PySem.W.mroIn K 65 (.type "object") = some true),
  fun K => Hx.fdB K 62 (Hx.pSup K "BadByte.__init__" 61),
  fun K => PySem.W.keepIn K (.ref 62),
  fun K => Hx.filB K 61 PySem.Challenge.pw_codestitch_k24_bytes_behind_steps.main.file,
  fun K => Hx.celB K 50 65,
  fun K => decide (PySem.W.mroIn K 65 (.ref 65) = some true),
  fun K => decide (PySem.W.ks_superIn K 65 65 "__init__" = some (some (.builtin "ValueError.__init__"))),
  fun K => decide (PySem.W.subIn K (.ref 65) (.type "ValueError") = some true),
  fun K => decide (PySem.W.nsIn K mainGlobals "BadAddress" = some (some (.ref 86))),
  fun K => Hx.excB K 86,
  fun K => decide (PySem.W.findIn K (.ref 86) "__setattr__" = some (some (.builtin "object.__setattr__"))),
  fun K => decide (PySem.W.subIn K (.ref 86) (.type "BaseException") = some true),
  fun K => decide (PySem.W.typeIn K (.ref 86) = some (.type "type")),
  fun K => PySem.W.keepIn K (.ref 86),
  fun K => decide (PySem.W.findIn K (.ref 86) "__init__" = some (some (.ref 83))),
  fun K => decide (PySem.W.typeIn K (.ref 83) = some (.type "function")),
  fun K => decide (PySem.W.findIn K (.ref 86) "at" = some none),
  fun K => decide (PySem.W.findIn K (.ref 86) "__getattribute__" = some (some (.builtin "BaseException.__getattribute__"))),
  fun K => decide (PySem.W.findIn K (.ref 86) "__getattr__" = some none),
  fun K => PySem.W.hasDictIn K 86,
  fun K => decide (PySem.W.findIn K (.ref 86) "__class__" = some (some (.builtin "object.__class__"))),
  fun K => decide (PySem.W.mroIn K 86 (.type "object") = some true),
  fun K => Hx.fdB K 83 (Hx.pSup K "BadAddress.__init__" 82),
  fun K => PySem.W.keepIn K (.ref 83),
  fun K => Hx.filB K 82 PySem.Challenge.pw_codestitch_k24_bytes_behind_steps.main.file,
  fun K => Hx.celB K 71 86]
def fa7 : List (PySem.W.Frag → Bool) := [
  fun K => decide (PySem.W.mroIn K 86 (.ref 86) = some true),
  fun K => decide (PySem.W.ks_superIn K 86 86 "__init__" = some (some (.builtin "ValueError.__init__"))),
  fun K => decide (PySem.W.subIn K (.ref 86) (.type "ValueError") = some true),
  fun K => decide (PySem.W.nsIn K mainGlobals "BadStep" = some (some (.ref 128))),
  fun K => Hx.excB K 128,
  fun K => decide (PySem.W.findIn K (.ref 128) "__setattr__" = some (some (.builtin "object.__setattr__"))),
  fun K => decide (PySem.W.subIn K (.ref 128) (.type "BaseException") = some true),
  fun K => decide (PySem.W.typeIn K (.ref 128) = some (.type "type")),
  fun K => PySem.W.keepIn K (.ref 128),
  fun K => decide (PySem.W.findIn K (.ref 128) "__init__" = some (some (.ref 125))),
  fun K => decide (PySem.W.typeIn K (.ref 125) = some (.type "function")),
  fun K => decide (PySem.W.findIn K (.ref 128) "step" = some none),
  fun K => decide (PySem.W.findIn K (.ref 128) "__getattribute__" = some (some (.builtin "BaseException.__getattribute__"))),
  fun K => decide (PySem.W.findIn K (.ref 128) "__getattr__" = some none),
  fun K => PySem.W.hasDictIn K 128,
  fun K => decide (PySem.W.findIn K (.ref 128) "__class__" = some (some (.builtin "object.__class__"))),
  fun K => decide (PySem.W.mroIn K 128 (.type "object") = some true),
  fun K => Hx.fdB K 125 (Hx.pSup K "BadStep.__init__" 124),
  fun K => PySem.W.keepIn K (.ref 125),
  fun K => Hx.filB K 124 PySem.Challenge.pw_codestitch_k24_bytes_behind_steps.main.file,
  fun K => Hx.celB K 113 128,
  fun K => decide (PySem.W.mroIn K 128 (.ref 128) = some true),
  fun K => decide (PySem.W.ks_superIn K 128 128 "__init__" = some (some (.builtin "ValueError.__init__"))),
  fun K => decide (PySem.W.subIn K (.ref 128) (.type "ValueError") = some true),
  fun K => decide (PySem.W.kitOne K (.ref 86) (.ref 86) = some true),
  fun K => decide (PySem.W.kitOne K (.ref 86) (.ref 44) = some true),
  fun K => decide (PySem.W.kitOne K (.ref 86) (.ref 65) = some false),
  fun K => decide (PySem.W.kitOne K (.ref 86) (.ref 128) = some false),
  fun K => decide (PySem.W.kitOne K (.ref 246) (.ref 216) = some true),
  fun K => decide (PySem.W.kitOne K (.ref 267) (.ref 216) = some true),
  fun K => decide (PySem.W.kitOne K (.ref 288) (.ref 216) = some true),
  fun K => decide (PySem.W.exmOne K (.ref 65) (.ref 31) = some true),
  fun K => decide (PySem.W.exmOne K (.ref 86) (.ref 31) = some true),
  fun K => decide (PySem.W.exmOne K (.ref 128) (.ref 31) = some true),
  fun K => decide (PySem.W.findIn K (.ref 478) "__class__" = some (some (.builtin "object.__class__"))),
  fun K => decide (PySem.W.mroIn K 478 (.type "object") = some true),
  fun K => decide (PySem.W.kitOne K (.ref 478) (.ref 478) = some true),
  fun K => decide (PySem.W.findIn K (.ref 586) "__class__" = some (some (.builtin "object.__class__"))),
  fun K => decide (PySem.W.mroIn K 586 (.type "object") = some true),
  fun K => decide (PySem.W.kitOne K (.ref 586) (.ref 586) = some true)]
def fa8 : List (PySem.W.Frag → Bool) := [
  fun K => decide (PySem.W.findIn K (.ref 246) "__class__" = some (some (.builtin "object.__class__"))),
  fun K => decide (PySem.W.mroIn K 246 (.type "object") = some true),
  fun K => decide (PySem.W.kitOne K (.ref 246) (.ref 246) = some true),
  fun K => decide (PySem.W.findIn K (.ref 267) "__class__" = some (some (.builtin "object.__class__"))),
  fun K => decide (PySem.W.mroIn K 267 (.type "object") = some true),
  fun K => decide (PySem.W.kitOne K (.ref 267) (.ref 267) = some true),
  fun K => decide (PySem.W.findIn K (.ref 288) "__class__" = some (some (.builtin "object.__class__"))),
  fun K => decide (PySem.W.mroIn K 288 (.type "object") = some true),
  fun K => decide (PySem.W.kitOne K (.ref 288) (.ref 288) = some true),
  fun K => decide (PySem.W.findIn K (.ref 478) "__ne__" = some (some (.builtin "object.__ne__"))),
  fun K => decide (PySem.W.kitOne K (.type "list") (.ref 586) = some false),
  fun K => decide (PySem.W.kitOne K (.type "tuple") (.ref 586) = some false),
  fun K => PySem.W.notFirst K 478 (.ref 478),
  fun K => PySem.W.notFirst K 246 (.ref 246),
  fun K => PySem.W.notFirst K 246 (.ref 267),
  fun K => PySem.W.notFirst K 246 (.ref 288),
  fun K => PySem.W.notFirst K 267 (.ref 246),
  fun K => PySem.W.notFirst K 267 (.ref 267),
  fun K => PySem.W.notFirst K 267 (.ref 288),
  fun K => PySem.W.notFirst K 288 (.ref 246),
  fun K => PySem.W.notFirst K 288 (.ref 267),
  fun K => PySem.W.notFirst K 288 (.ref 288),
  fun K => PySem.W.fnIn K 395,
  fun K => PySem.W.fnIn K 543,
  fun K => PySem.W.readsIn K 478 (.type "type"),
  fun K => decide (PySem.W.specialIn K (.ref 478) "__getattribute__" = some (some (.builtin "type.__getattribute__"))),
  fun K => decide (PySem.W.findIn K (.ref 246) "__eq__" = some (some (.ref 208))),
  fun K => Hx.fiI K 246 "WRITES" 1,
  fun K => decide (PySem.W.findIn K (.ref 267) "__eq__" = some (some (.ref 208))),
  fun K => Hx.fiI K 267 "WRITES" 0,
  fun K => decide (PySem.W.findIn K (.ref 288) "__eq__" = some (some (.ref 208))),
  fun K => Hx.fiI K 288 "WRITES" 0,
  fun K => decide (PySem.W.findIn K (.ref 246) "after" = some (some (.ref 243))),
  fun K => decide (PySem.W.findIn K (.ref 267) "after" = some (some (.ref 201))),
  fun K => decide (PySem.W.findIn K (.ref 288) "after" = some (some (.ref 201))),
  fun K => Vc.lamB K 642 641 639,
  fun K => Vc.lamB K 647 646 644,
  fun K => Vc.lamB K 659 658 656]
def faN : List (PySem.W.Frag → Bool) := fa0 ++ (fa1 ++ (fa2 ++ (fa3 ++ (fa4 ++ (fa5 ++ (fa6 ++ (fa7 ++ (fa8))))))))
def fn0 : List Hx.Dq := [
  ⟨158, "is_byte", "is_byte", defArgs s_is_byte, defBody s_is_byte, defScope s_is_byte, []⟩,
  ⟨489, "check_bytes", "check_bytes", defArgs s_check_bytes, defBody s_check_bytes, defScope s_check_bytes, []⟩,
  ⟨496, "span_of", "span_of", defArgs s_span_of, defBody s_span_of, defScope s_span_of, []⟩,
  ⟨295, "is_number", "is_number", defArgs s_is_number, defBody s_is_number, defScope s_is_number, []⟩,
  ⟨300, "split_lines", "split_lines", defArgs s_split_lines, defBody s_split_lines, defScope s_split_lines, []⟩,
  ⟨307, "stands", "stands", defArgs s_stands, defBody s_stands, defScope s_stands, []⟩,
  ⟨314, "check_line", "check_line", defArgs s_check_line, defBody s_check_line, defScope s_check_line, []⟩,
  ⟨322, "read_numbers", "read_numbers", defArgs s_read_numbers, defBody s_read_numbers, defScope s_read_numbers, []⟩,
  ⟨329, "read_parts", "read_parts", defArgs s_read_parts, defBody s_read_parts, defScope s_read_parts, []⟩,
  ⟨334, "step_of", "step_of", defArgs s_step_of, defBody s_step_of, defScope s_step_of, []⟩,
  ⟨186, "__init__", "Step.__init__", defArgs s_Stepu_initu, defBody s_Stepu_initu, defScope s_Stepu_initu, []⟩,
  ⟨201, "after", "Step.after", defArgs s_Step_after, defBody s_Step_after, defScope s_Step_after, []⟩,
  ⟨208, "__eq__", "Step.__eq__", defArgs s_Stepu_equ, defBody s_Stepu_equ, defScope s_Stepu_equ, []⟩,
  ⟨236, "__init__", "Write.__init__", defArgs s_Writeu_initu, defBody s_Writeu_initu, defScope s_Writeu_initu, [("__class__", 224)]⟩,
  ⟨243, "after", "Write.after", defArgs s_Write_after, defBody s_Write_after, defScope s_Write_after, []⟩,
  ⟨264, "__init__", "Sync.__init__", defArgs s_Syncu_initu, defBody s_Syncu_initu, defScope s_Syncu_initu, [("__class__", 252)]⟩,
  ⟨285, "__init__", "Pass.__init__", defArgs s_Passu_initu, defBody s_Passu_initu, defScope s_Passu_initu, [("__class__", 273)]⟩,
  ⟨350, "__init__", "Plan.__init__", defArgs s_Planu_initu, defBody s_Planu_initu, defScope s_Planu_initu, []⟩,
  ⟨357, "of", "Plan.of", defArgs s_Plan_of, defBody s_Plan_of, defScope s_Plan_of, []⟩,
  ⟨365, "read", "Plan.read", defArgs s_Plan_read, defBody s_Plan_read, defScope s_Plan_read, []⟩,
  ⟨379, "writes", "Plan.writes", defArgs s_Plan_writes, defBody s_Plan_writes, defScope s_Plan_writes, []⟩,
  ⟨395, "__getitem__", "Plan.__getitem__", defArgs s_Planu_getitemu, defBody s_Planu_getitemu, defScope s_Planu_getitemu, []⟩,
  ⟨428, "__eq__", "Plan.__eq__", defArgs s_Planu_equ, defBody s_Planu_equ, defScope s_Planu_equ, []⟩,
  ⟨454, "head", "Plan.head", defArgs s_Plan_head, defBody s_Plan_head, defScope s_Plan_head, []⟩,
  ⟨461, "tail", "Plan.tail", defArgs s_Plan_tail, defBody s_Plan_tail, defScope s_Plan_tail, []⟩,
  ⟨468, "after", "Plan.after", defArgs s_Plan_after, defBody s_Plan_after, defScope s_Plan_after, []⟩,
  ⟨515, "__init__", "Image.__init__", defArgs s_Imageu_initu, defBody s_Imageu_initu, defScope s_Imageu_initu, []⟩,
  ⟨522, "__len__", "Image.__len__", defArgs s_Imageu_lenu, defBody s_Imageu_lenu, defScope s_Imageu_lenu, []⟩,
  ⟨529, "__iter__", "Image.__iter__", defArgs s_Imageu_iteru, defBody s_Imageu_iteru, defScope s_Imageu_iteru, []⟩,
  ⟨543, "__getitem__", "Image.__getitem__", defArgs s_Imageu_getitemu, defBody s_Imageu_getitemu, defScope s_Imageu_getitemu, []⟩,
  ⟨597, "_law_pen", "_law_pen", defArgs s__law_pen, defBody s__law_pen, defScope s__law_pen, []⟩,
  ⟨604, "_law_draw", "_law_draw", defArgs s__law_draw, defBody s__law_draw, defScope s__law_draw, []⟩,
  ⟨611, "_law_step", "_law_step", defArgs s__law_step, defBody s__law_step, defScope s__law_step, []⟩,
  ⟨616, "_law_drawn", "_law_drawn", defArgs s__law_drawn, defBody s__law_drawn, defScope s__law_drawn, []⟩,
  ⟨623, "_law_due", "_law_due", defArgs s__law_due, defBody s__law_due, defScope s__law_due, []⟩,
  ⟨630, "_law_told", "_law_told", defArgs s__law_told, defBody s__law_told, defScope s__law_told, []⟩,
  ⟨637, "_law_shaped", "_law_shaped", defArgs s__law_shaped, defBody s__law_shaped, defScope s__law_shaped, []⟩,
  ⟨642, "_law_plan_right", "_law_plan_right", defArgs s__law_plan_right, defBody s__law_plan_right, defScope s__law_plan_right, []⟩,
  ⟨647, "_law_wide_right", "_law_wide_right", defArgs s__law_wide_right, defBody s__law_wide_right, defScope s__law_wide_right, []⟩,
  ⟨654, "_law_own_right", "_law_own_right", defArgs s__law_own_right, defBody s__law_own_right, defScope s__law_own_right, []⟩]
def fn1 : List Hx.Dq := [
  ⟨659, "law", "law", defArgs s_law, defBody s_law, defScope s_law, []⟩,
  ⟨62, "__init__", "BadByte.__init__", defArgs s_BadByteu_initu, defBody s_BadByteu_initu, defScope s_BadByteu_initu, [("__class__", 50)]⟩,
  ⟨83, "__init__", "BadAddress.__init__", defArgs s_BadAddressu_initu, defBody s_BadAddressu_initu, defScope s_BadAddressu_initu, [("__class__", 71)]⟩,
  ⟨125, "__init__", "BadStep.__init__", defArgs s_BadStepu_initu, defBody s_BadStepu_initu, defScope s_BadStepu_initu, [("__class__", 113)]⟩]
def fnN : List Hx.Dq := fn0 ++ (fn1)
theorem walk_ofGE {l : PySem.W.OpenLaw} {n k : Nat} {q : Program} {loose : List Str} {XP : (Str → Option Value) → Heap → Prop} {YP : World → Heap → Prop} {d : DefRec} {x : Str} {cs : List (Addr × Addr)} (h1 : l.most = some n) (h2 : n ≤ sizeLine) (h3 : d.params.defaults = []) (room : Room k callerA)
    (F : ∀ (w : World) (mg : Str → Option Value) (fa : Addr) (h : Heap), YP w h → h.Ns mainGlobals mg → mg d.name = some (.ref fa) → ∃ (K : PySem.W.Frag) (fd : FuncData) (sp : Sp), K.In h ∧ (∀ p ∈ cs, ∃ (y : Str) (f : Addr), ((recsOf q).any fun e => e.name == y) = true ∧ mg y = some (.ref f) ∧ Vc.lamB K f p.1 p.2 = true) ∧ (∀ (s : Shared) (u : Value), BindsTo s fd ⟨[u], []⟩ [(x, u)]) ∧ (∀ (H : Hp) (a : Addr) (ns : List Int), ns.length ≤ n → (∀ p ∈ cs, H p.2 = some (.tbl #[])) → SqL K H a (ns.map V.int) → sp [.ref a] H (fun v _ => v = .bl true) E0) ∧
      ∀ base : Heap, K.In base → base.Ns mainGlobals mg → (∀ p ∈ cs, LamX.TabB base mg p.1 p.2) → Vc.FnG l.prog w K mg base CX0 k fa fd [x] sp) : PySem.W.WalkO q loose XP YP l.row.toRowW d [] (fun f vs => PySem.call f vs) := by
  refine Att.attach_call h1 h3 fun w s0 s1 mg mb fa o pm cd doc a vs ns G Y ho hd hcd hmg hobj hints many hg => ?_
  obtain ⟨K, fd, sp, KX, hcs, bi, pr, run⟩ := F w mg fa _ Y G.T.g hmg
  have tb : ∀ p ∈ cs, Vc.Tab0 s1.heap p.2 ∧ PySem.W.CodeHd s1.heap p.1 p.2 ∧ K.lookup p.2 = none := fun p hp => by
    obtain ⟨y, f, h1, h2, h3⟩ := hcs p hp
    exact Vc.tab0_of G.T KX h1 h2 h3
  exact Vc.law_callGT KX G.T.g G.T.b G.T.builtins G.T.nolimit hg G.T.bmain (fun p hp => (tb p hp).1) (fun p hp => (tb p hp).2.2) (fun p hp => (tb p hp).2.1) hobj hints (Nat.le_trans many h2) room run bi fun H hT hS => pr H a ns many hT hS
end
section
open PySem PySem.W PySem.Calls PyProof.Rows
def ad0 : List Addr := [3, 2, 31, 44, 65, 86, 107, 128, 149, 168, 216, 246, 267, 288, 478, 586, 30, 43, 64, 85, 106, 127, 148, 167, 215, 245, 266, 287, 315, 358, 360, 366, 368, 477, 585, 32, 169, 170, 194, 217]
def ad1 : List Addr := [218, 359, 367, 374, 380, 388, 479, 480, 587, 588, 21, 62, 83, 104, 125, 146, 158, 186, 193, 201, 208, 213, 236, 243, 264, 285, 295, 300, 307, 314, 322, 329, 334, 350, 357, 365, 373, 379, 387, 395]
def ad2 : List Addr := [402, 409, 414, 421, 428, 435, 442, 447, 454, 461, 468, 475, 489, 496, 501, 515, 522, 529, 536, 543, 550, 555, 562, 569, 576, 583, 597, 604, 611, 616, 623, 630, 637, 642, 647, 654, 659, 20, 50, 61]
def ad3 : List Addr := [71, 82, 92, 103, 113, 124, 134, 145, 157, 185, 192, 200, 207, 212, 224, 235, 242, 252, 263, 273, 284, 294, 299, 306, 313, 321, 328, 333, 342, 343, 349, 356, 364, 372, 378, 386, 394, 401, 408, 413]
def ad4 : List Addr := [420, 427, 434, 441, 446, 453, 460, 467, 474, 488, 495, 500, 514, 521, 528, 535, 542, 549, 554, 561, 568, 575, 582, 596, 603, 610, 615, 622, 629, 636, 641, 646, 653, 658]
def adN : List Addr := ad0 ++ (ad1 ++ (ad2 ++ (ad3 ++ (ad4))))
def ls0 : List PySem.Str := ["_wall", "__name__", "CodeError", "BadInput", "BadByte", "BadAddress", "UnlikeLengths", "BadStep", "BadText", "is_byte", "MOST_ADDRESS", "Word", "Step", "Write", "Sync", "Pass", "DIGITS", "MOST_DIGITS", "MOST_NUMBER", "is_number", "split_lines", "stands", "check_line", "read_numbers", "read_parts", "step_of", "Plan", "check_bytes", "span_of", "patched"]
def ls1 : List PySem.Str := ["Image", "_law_pen", "_law_draw", "_law_step", "_law_drawn", "_law_due", "_law_told", "_law_shaped", "_law_own_right"]
def lsN : List PySem.Str := ls0 ++ (ls1)
def csN : List (Addr × Addr) := [(641, 639), (646, 644), (658, 656)]
abbrev RR : OpenRow := OpenLaw.row PySem.Challenge.rw_codestitch_k24_bytes_behind_steps
abbrev qv : Program := view RR.prog [44, 45, 47]
set_option maxRecDepth 100000 in
set_option maxHeartbeats 0 in
theorem runA (w : World) (os : OsState) : (HandSHeadRun.endF (HandSHeadRun.stepQ (HandSHeadRun.denQ HandSHeadRun.tabQ) RR.prog w) 20000 RR.prog w os).map (fun s => HandSHeadRun.looksF RR.prog (boot_heap w.params) s.abs) = some true := by kernel_rfl
set_option maxRecDepth 100000 in
set_option maxHeartbeats 0 in
theorem runB (w : World) (os : OsState) : (HandSHeadRun.endF (HandSHeadRun.stepQ (HandSHeadRun.denQ HandSHeadRun.tabQ) RR.prog w) 20000 RR.prog w os).map (fun s => HandSHeadRun.seenQ qv lsN (importedModules RR.prog.main.body) (fun s => xlAt qv [] s && recOk RR.toRowW.records s) s.abs) = some (openGood qv lsN) := by kernel_rfl
set_option maxRecDepth 100000 in
set_option maxHeartbeats 0 in
theorem runF (w : World) (os : OsState) : (HandSHeadRun.endF (HandSHeadRun.stepQ (HandSHeadRun.denQ HandSHeadRun.tabQ) RR.prog w) 20000 RR.prog w os).map (fun s => fnN.map (Hx.fnQ (He.frG (HandSHeadRun.getT s) adN))) = some (fnN.map Hx.Dq.val) := by kernel_rfl
def fr0 : List (PySem.W.Frag → Bool) := fa0 ++ (fa1 ++ (fa2))
set_option maxRecDepth 100000 in
set_option maxHeartbeats 0 in
theorem runC0 (w : World) (os : OsState) : (HandSHeadRun.endF (HandSHeadRun.stepQ (HandSHeadRun.denQ HandSHeadRun.tabQ) RR.prog w) 20000 RR.prog w os).map (fun s => Hx.chk fr0 (He.frG (HandSHeadRun.getT s) adN)) = some true := by kernel_rfl
def fr1 : List (PySem.W.Frag → Bool) := fa3 ++ (fa4 ++ (fa5))
set_option maxRecDepth 100000 in
set_option maxHeartbeats 0 in
theorem runC1 (w : World) (os : OsState) : (HandSHeadRun.endF (HandSHeadRun.stepQ (HandSHeadRun.denQ HandSHeadRun.tabQ) RR.prog w) 20000 RR.prog w os).map (fun s => Hx.chk fr1 (He.frG (HandSHeadRun.getT s) adN)) = some true := by kernel_rfl
def fr2 : List (PySem.W.Frag → Bool) := fa6 ++ (fa7 ++ (fa8))
set_option maxRecDepth 100000 in
set_option maxHeartbeats 0 in
theorem runC2 (w : World) (os : OsState) : (HandSHeadRun.endF (HandSHeadRun.stepQ (HandSHeadRun.denQ HandSHeadRun.tabQ) RR.prog w) 20000 RR.prog w os).map (fun s => Hx.chk fr2 (He.frG (HandSHeadRun.getT s) adN)) = some true := by kernel_rfl
theorem hd_run (w : World) : HandSHeadRun.RunEq RR qv (Hx.hook adN faN fnN) (Hx.obT adN faN fnN) 20000 lsN w := fun os => Hx.join (runA w os) (runB w os) (fun s e => by
    have c := Hx.part (runC0 w os) s e
    obtain ⟨b0, c⟩ := Hx.chk_app c
    obtain ⟨b1, c⟩ := Hx.chk_app c
    have b2 : Hx.chk fa2 _ = true := c
    clear c
    have c := Hx.part (runC1 w os) s e
    obtain ⟨b3, c⟩ := Hx.chk_app c
    obtain ⟨b4, c⟩ := Hx.chk_app c
    have b5 : Hx.chk fa5 _ = true := c
    clear c
    have c := Hx.part (runC2 w os) s e
    obtain ⟨b6, c⟩ := Hx.chk_app c
    obtain ⟨b7, c⟩ := Hx.chk_app c
    have b8 : Hx.chk fa8 _ = true := c
    clear c
    exact (Hx.app_chk b0 (Hx.app_chk b1 (Hx.app_chk b2 (Hx.app_chk b3 (Hx.app_chk b4 (Hx.app_chk b5 (Hx.app_chk b6 (Hx.app_chk b7 b8))))))))) (runF w os)
set_option maxRecDepth 100000 in
set_option maxHeartbeats 0 in
theorem top_of {sp : PySem.W.Frag → L2.Sp} (hall : ∀ {w : World} {K : PySem.W.Frag} {h : Heap} {mg : Str → Option Value} {fa : Addr}, K.In h → h.Ns mainGlobals mg → mg "law" = some (.ref fa) → Hx.chk faN K = true → fnN.map (Hx.fnQ K) = fnN.map Hx.Dq.val →
    (∀ p ∈ csN, ∃ (y : Str) (f : Addr), ((recsOf qv).any fun e => e.name == y) = true ∧ mg y = some (.ref f) ∧ Vc.lamB K f p.1 p.2 = true) ∧ ∃ fd : FuncData, (∀ (s : Shared) (v : Value), BindsTo s fd ⟨[v], []⟩ [("_law_script", v)]) ∧ ∀ base : Heap, K.In base → base.Ns mainGlobals mg → (∀ p ∈ csN, LamX.TabB base mg p.1 p.2) → Vc.FnG PySem.Challenge.pw_codestitch_k24_bytes_behind_steps w K mg base L2.CX0 14 fa fd ["_law_script"] (sp K))
    (hsp : ∀ (K : PySem.W.Frag) (H : L2.Hp) (a : Addr) (ns : List Int) (Q : L2.VK) (E : L2.XK), (∀ p ∈ csN, H p.2 = some (.tbl #[])) → L2.SqL K H a (ns.map L2.V.int) → ns.length ≤ 63 → (∀ H', Q (.bl true) H') → sp K [.ref a] H Q E) : PySem.Challenge.rw_codestitch_k24_bytes_behind_steps.Holds := by
  w_on; o_law
  refine HandSHeadRun.head_any (r := OpenLaw.row PySem.Challenge.rw_codestitch_k24_bytes_behind_steps) (q := qv) (H := Hx.hook adN faN fnN) (ob := Hx.obT adN faN fnN) (M := 20000) (loose := lsN) (d := HandSHeadRun.topDef (OpenLaw.row PySem.Challenge.rw_codestitch_k24_bytes_behind_steps).prog 47) (kwd := []) (Hx.obT_eq adN faN fnN)
    (by kernel_rfl) (fun s => by kernel_rfl) hd_run (by kernel_rfl) (by kernel_rfl) (by kernel_rfl) (by rfl) (by first | assumption | decide +kernel) (by decide +kernel) ⟨rfl, rfl, rfl, rfl, rfl, by decide +kernel⟩ ?hw ?hc
  case hw => w_witness2
  case hc =>
    refine walk_ofGE (cs := csN) (l := PySem.Challenge.rw_codestitch_k24_bytes_behind_steps) (n := 63) (k := 14) (x := "_law_script") rfl (by decide) (by kernel_rfl) ⟨rfl, by decide, by decide⟩ ?F
    intro w mg fa h Y G hmg0
    obtain ⟨K, KX, c, E⟩ := Y
    have hmg : mg ("law" : PySem.Str) = some (.ref fa) := by
      have e : (HandSHeadRun.topDef (OpenLaw.row PySem.Challenge.rw_codestitch_k24_bytes_behind_steps).prog 47).name = ("law" : PySem.Str) := by kernel_rfl
      rw [← e]
      exact hmg0
    obtain ⟨hcs, fd, hb, hF⟩ := hall (w := w) KX G hmg c E
    exact ⟨K, fd, sp K, KX, hcs, hb, fun H a ns hl hT hS => hsp K H a ns _ _ hT hS hl (fun _ => rfl), hF⟩
end

end My
namespace My
open PySem PySem.Spec PyProof.Rows L2
theorem ok_BadByteu_initu {w : World} {K : PySem.W.Frag} {mg : Str → Option Value} {base : Heap} {A : Ad} (T : Txt K mg A) : FnOk PySem.Challenge.pw_codestitch_k24_bytes_behind_steps w K mg base CX0 1 A.f_BadByteu_initu A.d_BadByteu_initu ["self", "at"] (Vc.spErr1 A.C_BadByte "at") := by
  refine T.F_BadByteu_initu.ok sc_BadByteu_initu T.ox_BadByte rfl rfl rfl (fun vs H Q E h => ?_) (fun X => pe_str) (fun _ _ _ => rfl) (fun _ _ _ => rfl) (fun _ _ _ => rfl) (fun _ _ _ => rfl) (fun cda cc Ar outer s H vs Q E h => ?_)
  · obtain ⟨_, _, rfl, _⟩ := h
    rfl
  · obtain ⟨a, h1, h2, h3⟩ := Vc.err_ends1 T.ox_BadByte T.no_BadByte_at h
    exact ⟨a, h1, h2, _, pss_one (ps_ost (pv 0) (pv 1)), h3⟩
theorem ok_BadAddressu_initu {w : World} {K : PySem.W.Frag} {mg : Str → Option Value} {base : Heap} {A : Ad} (T : Txt K mg A) : FnOk PySem.Challenge.pw_codestitch_k24_bytes_behind_steps w K mg base CX0 1 A.f_BadAddressu_initu A.d_BadAddressu_initu ["self", "at"] (Vc.spErr1 A.C_BadAddress "at") := by
  refine T.F_BadAddressu_initu.ok sc_BadAddressu_initu T.ox_BadAddress rfl rfl rfl (fun vs H Q E h => ?_) (fun X => pe_str) (fun _ _ _ => rfl) (fun _ _ _ => rfl) (fun _ _ _ => rfl) (fun _ _ _ => rfl) (fun cda cc Ar outer s H vs Q E h => ?_)
  · obtain ⟨_, _, rfl, _⟩ := h
    rfl
  · obtain ⟨a, h1, h2, h3⟩ := Vc.err_ends1 T.ox_BadAddress T.no_BadAddress_at h
    exact ⟨a, h1, h2, _, pss_one (ps_ost (pv 0) (pv 1)), h3⟩
theorem ok_BadStepu_initu {w : World} {K : PySem.W.Frag} {mg : Str → Option Value} {base : Heap} {A : Ad} (T : Txt K mg A) : FnOk PySem.Challenge.pw_codestitch_k24_bytes_behind_steps w K mg base CX0 1 A.f_BadStepu_initu A.d_BadStepu_initu ["self", "step"] (Vc.spErr1 A.C_BadStep "step") := by
  refine T.F_BadStepu_initu.ok sc_BadStepu_initu T.ox_BadStep rfl rfl rfl (fun vs H Q E h => ?_) (fun X => pe_str) (fun _ _ _ => rfl) (fun _ _ _ => rfl) (fun _ _ _ => rfl) (fun _ _ _ => rfl) (fun cda cc Ar outer s H vs Q E h => ?_)
  · obtain ⟨_, _, rfl, _⟩ := h
    rfl
  · obtain ⟨a, h1, h2, h3⟩ := Vc.err_ends1 T.ox_BadStep T.no_BadStep_step h
    exact ⟨a, h1, h2, _, pss_one (ps_ost (pv 0) (pv 1)), h3⟩
end My
namespace My
open PySem PySem.Spec PyProof.Rows L2
/-! ### data of ints: laid out, equal -/
theorem lay_ints : ∀ ns : List Int, PyData.canLayAll0 (ns.map PyData.int) = true
  | [] => rfl
  | n :: r => by
    rw [List.map_cons, PyData.canLayAll0, lay_ints r]; rfl
theorem dep_ints : ∀ ns : List Int, PyData.depthAll (ns.map PyData.int) = 0
  | [] => rfl
  | n :: r => by
    rw [List.map_cons, PyData.depthAll, dep_ints r]; rfl
theorem shp_list (ns : List Int) : SeqAt.shaped (.list (ns.map PyData.int)) = true := by
  unfold SeqAt.shaped
  rw [PyData.canLay0, lay_ints, PyData.depth, dep_ints]; rfl
theorem shp_tup (ns : List Int) : SeqAt.shaped (.tuple (ns.map PyData.int)) = true := by
  unfold SeqAt.shaped
  rw [PyData.canLay0, lay_ints, PyData.depth, dep_ints]; rfl
theorem eqv_ints : ∀ ns ms : List Int, PyData.eqvAll (ns.map PyData.int) (ms.map PyData.int) = decide (ns = ms)
  | [], [] => rfl
  | [], _ :: _ => rfl
  | _ :: _, [] => rfl
  | n :: r, m :: q => by
    rw [List.map_cons, List.map_cons, PyData.eqvAll, eqv_ints r q, Bool.eq_iff_iff]
    show ((n == m) && decide (r = q)) = true ↔ _
    simp
theorem eqv_lists (ns ms : List Int) : PyData.eqv (.list (ns.map PyData.int)) (.list (ms.map PyData.int)) = decide (ns = ms) := by rw [PyData.eqv]; exact eqv_ints ns ms
theorem eqv_tups (ns ms : List Int) : PyData.eqv (.tuple (ns.map PyData.int)) (.tuple (ms.map PyData.int)) = decide (ns = ms) := by rw [PyData.eqv]; exact eqv_ints ns ms
theorem dp_ints {K : PySem.W.Frag} {H : Hp} : ∀ (ns : List Int), DpAll K H (ns.map V.int) (ns.map PyData.int)
  | [] => .nil
  | n :: r => .cons (.int n) (dp_ints r)
section
variable {K : PySem.W.Frag} {H : Hp} {Q : VK} {p q : Addr} {ns ms : List Int}
/-- two lists of ints compared -/
theorem go_neLs (e1 : SqL K H p (ns.map V.int)) (e2 : SqL K H q (ms.map V.int)) (h : Q (.bl (!decide (ns = ms))) H) : rNeD K (.ref p) (.ref q) H Q :=
  ⟨_, _, .lst e1 (dp_ints ns), .lst e2 (dp_ints ms), shp_list _, shp_list _, by rw [eqv_lists]; exact h⟩
theorem go_eqLs (e1 : SqL K H p (ns.map V.int)) (e2 : SqL K H q (ms.map V.int)) (h : Q (.bl (decide (ns = ms))) H) : rEqD K (.ref p) (.ref q) H Q :=
  ⟨_, _, .lst e1 (dp_ints ns), .lst e2 (dp_ints ms), shp_list _, shp_list _, by rw [eqv_lists]; exact h⟩
end

/-! ### flat values as data -/
def vD : V → PyData
  | .bl b => .bool b
  | .int i => .int i
  | .str z => .str z
  | _ => .none
def isAt : V → Bool
  | .non => true
  | .bl _ => true
  | .int _ => true
  | .str _ => true
  | _ => false
theorem dp_at {K : PySem.W.Frag} {H : Hp} : ∀ {x : V}, isAt x = true → Dp K H x (vD x)
  | .non, _ => .non
  | .bl b, _ => .bl b
  | .int i, _ => .int i
  | .str z, _ => .str z
theorem dp_ats {K : PySem.W.Frag} {H : Hp} : ∀ {xs : List V}, xs.all isAt = true → DpAll K H xs (xs.map vD)
  | [], _ => .nil
  | x :: r, h => by
    rw [List.all_cons, Bool.and_eq_true] at h
    exact .cons (dp_at h.1) (dp_ats h.2)

end My
namespace My
open PySem PySem.Spec PyProof.Rows L2
/-! ### data without truths, compared -/
def PAtom (d : PyData) : Prop := d = .none ∨ (∃ i, d = .int i) ∨ ∃ z, PyData.canLay0 (.str z) = true ∧ d = .str z
def Pl : Nat → PyData → Prop
  | 0, d => PAtom d
  | n + 1, d => PAtom d ∨ ∃ ds, (d = .list ds ∨ d = .tuple ds) ∧ ∀ x ∈ ds, Pl n x
theorem Pl.atom {n : Nat} {d : PyData} (h : PAtom d) : Pl n d := by
  cases n with
  | zero => exact h
  | succ n => exact .inl h
theorem pl_int {n : Nat} (i : Int) : Pl n (.int i) := .atom (.inr (.inl ⟨i, rfl⟩))
theorem pl_non {n : Nat} : Pl n .none := .atom (.inl rfl)
theorem pl_str {n : Nat} {z : Str} (h : PyData.canLay0 (.str z) = true) : Pl n (.str z) := .atom (.inr (.inr ⟨z, h, rfl⟩))
theorem pl_lst {n : Nat} {ds : List PyData} (h : ∀ x ∈ ds, Pl n x) : Pl (n + 1) (.list ds) := .inr ⟨ds, .inl rfl, h⟩
theorem pl_tup {n : Nat} {ds : List PyData} (h : ∀ x ∈ ds, Pl n x) : Pl (n + 1) (.tuple ds) := .inr ⟨ds, .inr rfl, h⟩
theorem pl_ints {n : Nat} (ns : List Int) : ∀ x ∈ ns.map PyData.int, Pl n x := fun x hx => by
  obtain ⟨i, _, rfl⟩ := List.mem_map.mp hx
  exact pl_int i
theorem lay_all : ∀ ds : List PyData, (∀ x ∈ ds, PyData.canLay0 x = true) → PyData.canLayAll0 ds = true
  | [], _ => rfl
  | d :: r, h => by rw [PyData.canLayAll0, h d List.mem_cons_self, lay_all r fun x hx => h x (List.mem_cons_of_mem _ hx)]; rfl
theorem dep_all {n : Nat} : ∀ ds : List PyData, (∀ x ∈ ds, PyData.depth x ≤ n) → PyData.depthAll ds ≤ n
  | [], _ => Nat.zero_le _
  | d :: r, h => by
    rw [PyData.depthAll]
    have := h d List.mem_cons_self
    have := dep_all r fun x hx => h x (List.mem_cons_of_mem _ hx)
    omega
theorem atom_lay {d : PyData} (h : PAtom d) : PyData.canLay0 d = true ∧ PyData.depth d = 0 := by
  rcases h with rfl | ⟨i, rfl⟩ | ⟨z, hz, rfl⟩
  · exact ⟨rfl, rfl⟩
  · exact ⟨rfl, rfl⟩
  · exact ⟨hz, rfl⟩
theorem pl_lay : ∀ (n : Nat) (d : PyData), Pl n d → PyData.canLay0 d = true ∧ PyData.depth d ≤ n
  | 0, d, h => by
    obtain ⟨a, b⟩ := atom_lay h
    exact ⟨a, by omega⟩
  | n + 1, d, h => by
    rcases h with h | ⟨ds, h, hx⟩
    · obtain ⟨a, b⟩ := atom_lay h
      exact ⟨a, by omega⟩
    · have a := lay_all ds fun x hm => (pl_lay n x (hx x hm)).1
      have b := dep_all ds fun x hm => (pl_lay n x (hx x hm)).2
      rcases h with rfl | rfl
      · refine ⟨by rw [PyData.canLay0]; exact a, ?_⟩
        rw [PyData.depth]; omega
      · refine ⟨by rw [PyData.canLay0]; exact a, ?_⟩
        rw [PyData.depth]; omega
theorem pl_shp {n : Nat} {d : PyData} (h : Pl n d) (l : n ≤ 64) : SeqAt.shaped d = true := by
  obtain ⟨a, b⟩ := pl_lay n d h
  unfold SeqAt.shaped
  rw [a, decide_eq_true (by omega)]; rfl
theorem eqv_all : ∀ xs ys : List PyData, (∀ x ∈ xs, ∀ y ∈ ys, (PyData.eqv x y = true ↔ x = y)) → (PyData.eqvAll xs ys = true ↔ xs = ys)
  | [], [], _ => by rw [PyData.eqvAll]; simp
  | [], _ :: _, _ => by rw [PyData.eqvAll]; simp
  | _ :: _, [], _ => by rw [PyData.eqvAll]; simp
  | x :: xs, y :: ys, h => by
    rw [PyData.eqvAll, Bool.and_eq_true, h x List.mem_cons_self y List.mem_cons_self, eqv_all xs ys fun a ha b hb => h a (List.mem_cons_of_mem _ ha) b (List.mem_cons_of_mem _ hb), List.cons.injEq]
theorem atom_eqv {d e : PyData} (h : PAtom d) (k : PAtom e) : PyData.eqv d e = true ↔ d = e := by
  rcases h with rfl | ⟨i, rfl⟩ | ⟨z, _, rfl⟩ <;> rcases k with rfl | ⟨j, rfl⟩ | ⟨y, _, rfl⟩ <;> simp [PyData.eqv]
theorem pl_eqv : ∀ (n : Nat) (d e : PyData), Pl n d → Pl n e → (PyData.eqv d e = true ↔ d = e)
  | 0, d, e, h, k => atom_eqv h k
  | n + 1, d, e, h, k => by
    rcases h with h | ⟨ds, h, hx⟩
    · rcases k with k | ⟨es, k, hy⟩
      · exact atom_eqv h k
      · rcases h with rfl | ⟨i, rfl⟩ | ⟨z, _, rfl⟩ <;> rcases k with rfl | rfl <;> simp [PyData.eqv]
    · rcases k with k | ⟨es, k, hy⟩
      · rcases k with rfl | ⟨i, rfl⟩ | ⟨z, _, rfl⟩ <;> rcases h with rfl | rfl <;> simp [PyData.eqv]
      · have := eqv_all ds es fun x hm y hn => pl_eqv n x y (hx x hm) (hy y hn)
        rcases h with rfl | rfl <;> rcases k with rfl | rfl <;> simp [PyData.eqv, this]
theorem pl_dec {n : Nat} {d e : PyData} {p : Prop} [Decidable p] (h : Pl n d) (k : Pl n e) (i : d = e ↔ p) : PyData.eqv d e = decide p := by
  rw [Bool.eq_iff_iff, pl_eqv n d e h k, i, decide_eq_true_eq]
/-- data compared -/
theorem go_nePl {K : PySem.W.Frag} {H : Hp} {Q : VK} {x y : V} {d e : PyData} {n : Nat} {p : Prop} [Decidable p] (hx : Dp K H x d) (hy : Dp K H y e) (h : Pl n d) (k : Pl n e) (l : n ≤ 64) (i : d = e ↔ p) (q : Q (.bl (!decide p)) H) : rNeD K x y H Q :=
  ⟨d, e, hx, hy, pl_shp h l, pl_shp k l, by rw [pl_dec h k i]; exact q⟩
theorem go_eqPl {K : PySem.W.Frag} {H : Hp} {Q : VK} {x y : V} {d e : PyData} {n : Nat} {p : Prop} [Decidable p] (hx : Dp K H x d) (hy : Dp K H y e) (h : Pl n d) (k : Pl n e) (l : n ≤ 64) (i : d = e ↔ p) (q : Q (.bl (decide p)) H) : rEqD K x y H Q :=
  ⟨d, e, hx, hy, pl_shp h l, pl_shp k l, by rw [pl_dec h k i]; exact q⟩
theorem ints_inj {a b : List Int} : a.map PyData.int = b.map PyData.int ↔ a = b := ⟨fun h => (List.map_inj_right fun x y z => by injection z).mp h, fun h => by rw [h]⟩

end My
namespace My
open PySem PySem.Spec PyProof.Rows L2
/-! ### the pen: what a script's draws come from -/
structure PenS (H : Hp) (b c : Addr) (ns : List Int) (a r : Int) : Prop where
  ob : H b = some (.lst [.ref c, .int a, .int r])
  cl : H c = some (.lst (ns.map V.int))
  len : ns.length ≤ 63
  a0 : 0 ≤ a
  r0 : 0 ≤ r
/-- at most n cells were drawn -/
def Pen (H : Hp) (b c : Addr) (n : Nat) : Prop := ∃ ns a r, PenS H b c ns a r ∧ a ≤ n
theorem Pen.ed {H H' : Hp} {b c : Addr} {n : Nat} {S : List Addr} (h : Pen H b c n) (e : Vc.Ed S H H') (hb : b ∉ S) (hc : c ∉ S) : Pen H' b c n := by
  obtain ⟨ns, a, r, B, l⟩ := h
  exact ⟨ns, a, r, ⟨e.keep _ _ hb B.ob, e.keep _ _ hc B.cl, B.len, B.a0, B.r0⟩, l⟩
theorem Pen.ed0 {H H' : Hp} {b c : Addr} {n : Nat} (e : Vc.Ed [] H H') (h : Pen H b c n) : Pen H' b c n := h.ed e (fun z => nomatch z) (fun z => nomatch z)
theorem Pen.ed1 {H H' : Hp} {b c p : Addr} {n : Nat} (e : Vc.Ed [p] H H') (hb : b ≠ p) (hc : c ≠ p) (h : Pen H b c n) : Pen H' b c n :=
  h.ed e (fun z => hb (List.mem_singleton.mp z)) (fun z => hc (List.mem_singleton.mp z))
theorem Pen.up {H : Hp} {b c : Addr} {n m : Nat} (h : Pen H b c n) (l : n ≤ m) : Pen H b c m := by
  obtain ⟨ns, a, r, B, l'⟩ := h
  exact ⟨ns, a, r, B, by omega⟩
theorem Pen.fb {H : Hp} {b c p : Addr} {n : Nat} (h : Pen H b c n) (q : H p = none) : b ≠ p ∧ c ≠ p := by
  obtain ⟨ns, a, r, B, _⟩ := h
  exact ⟨ne_of_none B.ob q, ne_of_none B.cl q⟩
theorem Pen.lst {H : Hp} {b c : Addr} {n : Nat} (h : Pen H b c n) : ∃ x a r, H b = some (.lst [.ref x, .int a, .int r]) := by
  obtain ⟨ns, a, r, B, _⟩ := h
  exact ⟨_, _, _, B.ob⟩
def LIM : Nat := 1000000
def spDraw : Sp := fun vs H Q _ => ∃ (b c : Addr) (n : Nat) (m : Int), vs = [.ref b, .int m] ∧ Pen H b c n ∧ n ≤ LIM ∧ 1 ≤ m ∧ m < 2 ^ 190 ∧
  ∀ i H', 0 ≤ i → i < m → Vc.Ed [b] H H' → Pen H' b c (n + 1) → Q (.int i) H'
theorem pen_ns {ns : List Int} {a : Int} (h : ns ≠ []) (h0 : 0 ≤ a) : ∃ x, atI (ns.map V.int) (a % (ns.length : Int)) = some (.int x) := by
  have l : 0 < ns.length := List.length_pos_iff.mpr h
  have e0 := Int.emod_nonneg a (show (ns.length : Int) ≠ 0 by omega)
  have e1 := Int.emod_lt_of_pos a (show (0 : Int) < ns.length by omega)
  refine ⟨ns[(a % (ns.length : Int)).toNat]'(by omega), at_of (j := (a % (ns.length : Int)).toNat) (by omega) ?_⟩
  rw [List.getElem?_map, List.getElem?_eq_getElem (by omega)]; rfl
section
variable {P : Program} {w : World} {K : PySem.W.Frag} {mg : Str → Option Value} {base : Heap} {A : Ad}
theorem ok__law_draw (T : Txt K mg A) : FnOk P w K mg base CX0 1 A.f__law_draw A.d__law_draw ["_law_pen_here", "_law_bound"] spDraw := by
  refine T.F__law_draw.ok sc__law_draw (fun vs H Q E h => ?_) (fun cdv Ar outer s H vs Q E hr h => ?_)
  · obtain ⟨b, c, n, m, rfl, _⟩ := h
    rfl
  · obtain ⟨b, c, n, m, rfl, hB, nl, m1, m2, k⟩ := h
    have nl : n ≤ 1000000 := nl
    refine ⟨_, (pss_cons (ps_if (pt_cmpR op_gt (pe_ix ix_list (pv 0) pe_int (fun _ _ => rfl)) pe_int (nomark _)) (pss_cons (ps_set (i := 2) sc__law_draw.nd rfl (Or.inl rfl) (pe_op op_mod (pe_callTy call_int1 (by rfl) T.n_int (by decide +kernel) (pa_cons (pe_ix ix_list (pv 0) pe_int (fun _ _ => rfl)) pa_nil)) (pv 1))) (pss_cons (ps_asg (pe_op op_fdivW (pe_ix ix_list (pv 0) pe_int (fun _ _ => rfl)) (pv 1)) (pg_sub (pv 0) pe_int set_list)) (pss_one (ps_ret (pv 2))))) pss_nil) (pss_cons (ps_set (i := 3) sc__law_draw.nd rfl (Or.inl rfl) (pe_ix ix_list (pv 0) pe_int (fun _ _ => rfl))) (pss_cons (ps_asg (pe_op op_add (pv 3) pe_int) (pg_sub (pv 0) pe_int set_list)) (pss_cons (ps_set (i := 4) sc__law_draw.nd rfl (Or.inl rfl) (pe_op op_add (pe_op op_mulW pe_int (pv 3)) pe_int)) (Evl.pss_cut (ps_if (pt_cmpR (op_neD (by exact hr.units)) (pe_ix ix_list (pv 0) pe_int (fun _ _ => rfl)) (pe_lst pa_nil) (nomark _)) (pss_one (ps_set (i := 4) sc__law_draw.nd rfl (Or.inl rfl) (pe_ix ix_list (pe_ix ix_list (pv 0) pe_int (fun _ _ => rfl)) (pe_op op_mod (pe_callTy call_int1 (by rfl) T.n_int (by decide +kernel) (pa_cons (pv 3) pa_nil)) (pe_callB call_len_seq (by rfl) T.n_len (by decide +kernel) (pa_cons (pe_ix ix_list (pv 0) pe_int (fun _ _ => rfl)) pa_nil))) (fun _ _ => rfl)))) pss_nil) (Evl.pss_cut (ps_if (PW.pt (pw_and (pt_cmpR op_lt (pv 3) (pe_callB call_len_seq (by rfl) T.n_len (by decide +kernel) (pa_cons (pe_ix ix_list (pv 0) pe_int (fun _ _ => rfl)) pa_nil)) (nomark _)) (pw_and1 (pt_cmpR op_ge (pe_callB call_abs (by rfl) T.n_abs (by decide +kernel) (pa_cons (pv 4) pa_nil)) (pe_op op_pow pe_int pe_int) (nomark _))))) (pss_cons (ps_set (i := 5) sc__law_draw.nd rfl (Or.inl rfl) (pe_op op_add (pe_op op_mul pe_int (pe_callB call_abs (by rfl) T.n_abs (by decide +kernel) (pa_cons (pv 4) pa_nil))) (pe_callTy call_int1 (by rfl) T.n_int (by decide +kernel) (pa_cons (pe_cmpR op_lt (pv 4) pe_int (nomark _)) pa_nil)))) (pss_cons (ps_asg (pe_op op_fdivW (pv 5) (pv 1)) (pg_sub (pv 0) pe_int set_list)) (pss_one (ps_ret (pe_op op_mod (pe_callTy call_int1 (by rfl) T.n_int (by decide +kernel) (pa_cons (pv 5) pa_nil)) (pv 1)))))) pss_nil) (Evl.pss_cut (ps_set (i := 6) sc__law_draw.nd rfl (Or.inl rfl) (pe_op op_mod (pe_callTy call_int1 (by rfl) T.n_int (by decide +kernel) (pa_cons (pe_op op_pow (pe_op op_add (pe_op op_add (pe_op op_mod (pe_callTy call_int1 (by rfl) T.n_int (by decide +kernel) (pa_cons (pv 4) pa_nil)) pe_int) (pe_op op_mulW pe_int (pv 3))) pe_int) pe_int) pa_nil)) pe_int)) (pss_cons (ps_set (i := 6) sc__law_draw.nd rfl (Or.inl rfl) (pe_op op_mod (pe_callTy call_int1 (by rfl) T.n_int (by decide +kernel) (pa_cons (pe_op op_pow (pe_op op_add (pe_op op_add (pe_op op_mulW (pv 6) (pe_op op_add (pe_op op_mulW pe_int (pv 3)) pe_int)) (pe_op op_mulW (pe_op op_mulW pe_int (pv 3)) (pv 3))) pe_int) pe_int) pa_nil)) pe_int)) (pss_one (ps_ret (pe_op op_mod (pe_callTy call_int1 (by rfl) T.n_int (by decide +kernel) (pa_cons (pe_op op_fdivW (pv 6) pe_int) pa_nil)) (pv 1)))))))))))), ?_⟩
    obtain ⟨ns, a, r, B, al⟩ := hB
    obtain ⟨hb, hc, hl, ha, hr0⟩ := id B
    have nbc : b ≠ c := fun z => by rw [z, hc] at hb; cases ns with
      | nil => cases hb
      | cons x l => cases hb
    have i0 : atI [V.ref c, .int a, .int r] 0 = some (.ref c) := rfl
    have i1 : atI [V.ref c, .int a, .int r] 1 = some (.int a) := rfl
    have i2 : atI [V.ref c, .int a, .int r] 2 = some (.int r) := rfl
    walk_at "go"
    refine Vc.go_ite (fun h1 => ?_) (fun h1 => ?_)
    · walk_at "go"
      refine Vc.go_setL hb rfl ?_
      generalize hu : upd _ b _ = H1
      obtain ⟨e1, hb1⟩ := Vc.chg hu hb
      walk_at "go"
      exact k _ _ (Int.emod_nonneg _ (by omega)) (Int.emod_lt_of_pos _ (by omega)) e1 ⟨ns, a, _, ⟨hb1, e1.at1 nbc.symm hc, hl, ha, Int.ediv_nonneg hr0 (by omega)⟩, by omega⟩
    walk_at "go"
    refine Vc.go_setL hb rfl ?_
    generalize hu : upd _ b _ = H1
    obtain ⟨e1, hb1⟩ := Vc.chg hu hb
    have hb1 : H1 b = some (.lst [.ref c, .int (a + 1), .int r]) := hb1
    have hc1 := e1.at1 nbc.symm hc
    have j0 : atI [V.ref c, .int (a + 1), .int r] 0 = some (.ref c) := rfl
    have j1 : atI [V.ref c, .int (a + 1), .int r] 1 = some (.int (a + 1)) := rfl
    have fin : ∀ (i : Int) H', 0 ≤ i → i < m → Vc.Ed [] H1 H' → Q (.int i) H' := fun i H' i0 i1 e => k i H' i0 i1 (e1.ex e) ⟨ns, a + 1, r, ⟨e.at0 hb1, e.at0 hc1, hl, by omega, hr0⟩, by omega⟩
    walk_at "go"
    refine Evl.q_cut (M := fun σ H' => ∃ cell : Int, σ = [some (.ref b), some (.int m), none, some (.int a), some (.int cell), none, none] ∧ Vc.Ed [] H1 H') ?_ ?_
    · walk_at "go"
      intro q nq
      generalize hu2 : upd _ q _ = H2
      obtain ⟨e2, hq⟩ := Vc.alloc hu2 nq
      have hb2 := e2.at0 hb1
      have hc2 := e2.at0 hc1
      refine go_neLs (ms := []) (.of hc2) (.of hq) ?_
      walk_at "go"
      refine Vc.go_iten (fun h2 => ?_) (fun h2 => ?_)
      · have hlp : 0 < ns.length := List.length_pos_iff.mpr h2
        obtain ⟨x, hx⟩ := pen_ns (a := a) h2 ha
        walk_at "go"
        rw [List.length_map]
        walk_at "go"
        exact ⟨_, rfl, e2⟩
      · walk_at "go"
        exact ⟨_, rfl, e2⟩
    · rintro σ H2 ⟨cell, rfl, e2⟩
      have hb2 := e2.at0 hb1
      have hc2 := e2.at0 hc1
      walk_at "go"
      refine Evl.q_cut (M := fun σ H' => σ = [some (.ref b), some (.int m), none, some (.int a), some (.int cell), none, none] ∧ H' = H2) ?_ ?_
      · walk_at "go"
        rw [List.length_map]
        refine Vc.go_ite (fun h3 => ?_) (fun h3 => ?_)
        · walk_at "go"
          refine Vc.go_ite (fun h4 => ?_) (fun h4 => ?_)
          · walk_at "go"
            generalize hce : (if cell < 0 then -cell else cell) = cl
            have hc0 : 0 ≤ cl := by rw [← hce]; split <;> omega
            obtain ⟨u, hu0, hg⟩ : ∃ u : Int, 0 ≤ u ∧ (if decide (cell < 0) = true then (1 : Int) else 0) = u := ⟨_, by split <;> omega, rfl⟩
            refine Vc.go_I (.inl ⟨by decide, by decide⟩) ?_
            walk_at "go"
            refine Vc.go_setL hb2 rfl ?_
            generalize hu3 : upd _ b _ = H3
            obtain ⟨e3, hb3⟩ := Vc.chg hu3 hb2
            rw [hg] at hb3
            have hb3 : H3 b = some (.lst [.ref c, .int (a + 1), .int ((2 * cl + u) / m)]) := hb3
            walk_at "go"
            exact k _ _ (Int.emod_nonneg _ (by omega)) (Int.emod_lt_of_pos _ (by omega)) ((e1.ex e2).one e3 (.inl (by simp))) ⟨ns, a + 1, _, ⟨hb3, e3.at1 nbc.symm hc2, hl, by omega, Int.ediv_nonneg (by omega) (by omega)⟩, by omega⟩
          · walk_at "go"
            exact ⟨rfl, rfl⟩
        · walk_at "go"
          exact ⟨rfl, rfl⟩
      · rintro σ H3 ⟨rfl, rfl⟩
        have sq0 : 0 ≤ a * a := Int.mul_nonneg ha ha
        have sq1 : a * a ≤ 1000000 * 1000000 := Int.mul_le_mul (by omega) (by omega) ha (by omega)
        walk_at "go"
        refine Evl.q_cut (M := fun σ H' => ∃ x : Int, σ = [some (.ref b), some (.int m), none, some (.int a), some (.int cell), none, some (.int x)] ∧ 0 ≤ x ∧ x < 2147483648 ∧ H' = H3) ?_ ?_
        · walk_at "go"
          exact ⟨_, rfl, Int.emod_nonneg _ (by decide), Int.lt_of_lt_of_le (Int.emod_lt_of_pos _ (by decide)) (by decide), rfl⟩
        · rintro σ H4 ⟨x, rfl, x0, x1, rfl⟩
          have mx1 : x * (2 * a + 249) ≤ 2147483648 * 3000000 := Int.mul_le_mul (by omega) (by omega) (by omega) (by omega)
          have mx0 : 0 ≤ x * (2 * a + 249) := Int.mul_nonneg x0 (by omega)
          have sq2 : 0 ≤ 61228 * a * a := by rw [Int.mul_assoc]; omega
          have sq3 : 61228 * a * a ≤ 61228 * (1000000 * 1000000) := by rw [Int.mul_assoc]; omega
          walk_at "go"
          exact fin _ _ (Int.emod_nonneg _ (by omega)) (Int.emod_lt_of_pos _ (by omega)) e2
end
section
variable {P : Program} {w : World} {K : PySem.W.Frag} {mg : Str → Option Value} {base : Heap} {A : Ad}
def spPen (K : PySem.W.Frag) : Sp := fun vs H Q _ => ∃ (p : Addr) (ns : List Int), vs = [.ref p] ∧ SqL K H p (ns.map V.int) ∧ ns.length ≤ 63 ∧
  ∀ b c H', Vc.Ed [] H H' → Pen H' b c 0 → H b = none → H c = none → Q (.ref b) H'
theorem cut_ns {ns : List Int} (h : ns.length ≤ 63) : cutV (ns.map V.int) none (some 63) = ns.map V.int := by
  have e := Vc.cut_take (ns.map V.int) 63
  rw [List.take_of_length_le (by rw [List.length_map]; exact h)] at e
  exact e
theorem ok__law_pen (T : Txt K mg A) : FnOk P w K mg base CX0 1 A.f__law_pen A.d__law_pen ["_law_script"] (spPen K) := by
  refine T.F__law_pen.ok sc__law_pen (fun vs H Q E h => ?_) (fun cdv Ar outer s H vs Q E hr h => ?_)
  · obtain ⟨p, ns, rfl, _⟩ := h
    rfl
  · obtain ⟨p, ns, rfl, hS, hl, k⟩ := h
    refine ⟨_, (pss_one (ps_ret (pe_lst (pa_cons (pe_callTy Vc.call_lstD (by rfl) T.n_list (by decide +kernel) (pa_cons (pe_slice sl_list (pv 0) po_none (po_some pe_int)) pa_nil)) (pa_cons pe_int (pa_cons pe_int pa_nil)))))), ?_⟩
    walk_at "go"
    intro q nq
    generalize hu1 : upd _ q _ = H1
    obtain ⟨e1, hq⟩ := Vc.alloc hu1 nq
    walk_at "go"
    intro c nc
    generalize hu2 : upd _ c _ = H2
    obtain ⟨e2, hc⟩ := Vc.alloc hu2 nc
    rw [cut_ns hl] at hc
    walk_at "go"
    intro b nb
    generalize hu3 : upd _ b _ = H3
    obtain ⟨e3, hb⟩ := Vc.alloc hu3 nb
    exact k b c H3 (by walk_at "ed") ⟨ns, 0, 0, ⟨hb, e3.at0 hc, hl, by omega, by omega⟩, by omega⟩ (by walk_at "free") (by walk_at "free")
end

end My
namespace My
open PySem PySem.Spec PyProof.Rows L2
/-! ### steps -/
inductive SD where
  | wr (at_ : Int) (vs : List Int)
  | sy
  | ps (s : Int)
deriving DecidableEq
def SD.shown : SD → List V
  | .wr a vs => .str "write" :: .int a :: vs.map V.int
  | .sy => [.str "sync"]
  | .ps s => [.str "pass", .int s]
def SD.D : SD → List PyData
  | .wr a vs => .str "write" :: .int a :: vs.map .int
  | .sy => [.str "sync"]
  | .ps s => [.str "pass", .int s]
def SD.cls (A : Ad) : SD → Addr
  | .wr _ _ => A.C_Write
  | .sy => A.C_Sync
  | .ps _ => A.C_Pass
def SD.fld (t v : Addr) : SD → List (Str × V)
  | .wr a _ => [("shown", .ref t), ("address", .int a), ("given", .ref v)]
  | .sy => [("shown", .ref t)]
  | .ps s => [("shown", .ref t), ("stretch", .int s)]
def SD.words : SD → Int
  | .wr _ _ => 0
  | _ => 1
def SD.writes : SD → Int
  | .wr _ _ => 1
  | _ => 0
def SD.vals : SD → List Int
  | .wr _ vs => vs
  | _ => []
structure StepAt (A : Ad) (H : Hp) (p : Addr) (d : SD) : Prop where
  ex : ∃ dx t v, H p = some (.ins (d.cls A) dx (d.fld t v)) ∧ H t = some (.tup d.shown) ∧ (∀ a vs, d = .wr a vs → H v = some (.tup (vs.map V.int)))
theorem StepAt.ed0 {A : Ad} {H H' : Hp} {p : Addr} {d : SD} (e : Vc.Ed [] H H') (h : StepAt A H p d) : StepAt A H' p d := by
  obtain ⟨dx, t, v, a, b, c⟩ := h.ex
  exact ⟨dx, t, v, e.at0 a, e.tup _ _ b, fun x vs z => e.tup _ _ (c x vs z)⟩
theorem StepAt.ed1 {A : Ad} {H H' : Hp} {p q : Addr} {d : SD} (n : p ≠ q) (e : Vc.Ed [q] H H') (h : StepAt A H p d) : StepAt A H' p d := by
  obtain ⟨dx, t, v, a, b, c⟩ := h.ex
  exact ⟨dx, t, v, e.at1 n a, e.tup _ _ b, fun x vs z => e.tup _ _ (c x vs z)⟩
/-- what the three kinds have in common -/
structure StepC (K : PySem.W.Frag) (A : Ad) (C : Addr) (x y : Int) : Prop where
  cl : Cls K C
  no : NoAttr K C "shown"
  eq : Vc.EqM K C A.f_Stepu_equ
  wr : ∃ u, Con K C "WRITES" (.int y) u
  ic : C8.InsC K C
  kt : PySem.W.kitOne K (.ref C) (.ref A.C_Step) = some true
theorem stepC {K : PySem.W.Frag} {mg : Str → Option Value} {A : Ad} (T : Txt K mg A) : ∀ d : SD, StepC K A (d.cls A) d.words d.writes
  | .wr _ _ => ⟨T.cl_Write, T.no_Write_shown,
    T.se_Write,
    T.sr_Write, T.ic_Write, T.kit_Write_Step⟩
  | .sy => ⟨T.cl_Sync, T.no_Sync_shown,
    T.se_Sync,
    T.sr_Sync, T.ic_Sync, T.kit_Sync_Step⟩
  | .ps _ => ⟨T.cl_Pass, T.no_Pass_shown,
    T.se_Pass,
    T.sr_Pass, T.ic_Pass, T.kit_Pass_Step⟩
theorem stepNf {K : PySem.W.Frag} {mg : Str → Option Value} {A : Ad} (T : Txt K mg A) : ∀ c d : SD, PySem.W.notFirst K (c.cls A) (.ref (d.cls A)) = true
  | .wr _ _, .wr _ _ => T.nf_Write_Write
  | .wr _ _, .sy => T.nf_Sync_Write
  | .wr _ _, .ps _ => T.nf_Pass_Write
  | .sy, .wr _ _ => T.nf_Write_Sync
  | .sy, .sy => T.nf_Sync_Sync
  | .sy, .ps _ => T.nf_Pass_Sync
  | .ps _, .wr _ _ => T.nf_Write_Pass
  | .ps _, .sy => T.nf_Sync_Pass
  | .ps _, .ps _ => T.nf_Pass_Pass
theorem fld_shown (t v : Addr) : ∀ d : SD, (d.fld t v).lookup ("shown" : Str) = some (.ref t)
  | .wr _ _ => rfl
  | .sy => rfl
  | .ps _ => rfl
theorem fld_wo (t v : Addr) : ∀ d : SD, (d.fld t v).lookup ("WORDS" : Str) = none
  | .wr _ _ => rfl
  | .sy => rfl
  | .ps _ => rfl
theorem fld_wr (t v : Addr) : ∀ d : SD, (d.fld t v).lookup ("WRITES" : Str) = none
  | .wr _ _ => rfl
  | .sy => rfl
  | .ps _ => rfl
theorem dp_sd {K : PySem.W.Frag} {H : Hp} : ∀ d : SD, DpAll K H d.shown d.D
  | .wr a vs => .cons (.str _) (.cons (.int _) (dp_ints vs))
  | .sy => .cons (.str _) .nil
  | .ps s => .cons (.str _) (.cons (.int _) .nil)
/-- the words of a step's text -/
def SD.ws : SD → List Str
  | .wr a vs => "write" :: Str.ofString (toString a) :: vs.map fun v : Int => Str.ofString (toString v)
  | .sy => ["sync"]
  | .ps s => ["pass", Str.ofString (toString s)]
def SD.text (d : SD) : Str := Txt.join " " d.ws
/-- small numbers -/
def SD.Sm : SD → Prop
  | .wr a vs => a.natAbs < 10 ^ 40 ∧ vs.length ≤ 20 ∧ ∀ v ∈ vs, v.natAbs < 10 ^ 40
  | .sy => True
  | .ps s => s.natAbs < 10 ^ 40
def spIsByte : Sp := fun vs H Q _ => ∃ n : Int, vs = [.int n] ∧ ∀ H', Vc.Ed [] H H' → Q (.bl (decide (0 ≤ n ∧ n ≤ 255))) H'
section
variable {P : Program} {w : World} {K : PySem.W.Frag} {mg : Str → Option Value} {base : Heap} {A : Ad}
theorem ok_is_byte (T : Txt K mg A) : FnOk P w K mg base CX0 1 A.f_is_byte A.d_is_byte ["value"] spIsByte := by
  refine T.F_is_byte.ok sc_is_byte (fun vs H Q E h => ?_) (fun cdv Ar outer s H vs Q E hr h => ?_)
  · obtain ⟨n, rfl, _⟩ := h
    rfl
  · obtain ⟨n, rfl, k⟩ := h
    refine ⟨_, (pss_one (ps_ret (pe_and (pe_callB call_isi (by rfl) T.n_isinstance (by decide +kernel) (pa_cons (pv 0) (pa_cons (pe_bltn (v := .ty "int") (by rfl) T.n_int (by decide +kernel) rfl) pa_nil))) (pe_and (pe_not (pe_callB call_isi (by rfl) T.n_isinstance (by decide +kernel) (pa_cons (pv 0) (pa_cons (pe_bltn (v := .ty "bool") (by rfl) T.n_bool (by decide +kernel) rfl) pa_nil)))) (pe_one (pe_chain op_le op_le pe_int (pv 0) pe_int)))))), ?_⟩
    walk_at "go"
    refine Vc.go_ite (fun h1 => ?_) (fun h1 => ?_)
    · walk_at "go"
      have e : decide (0 ≤ n ∧ n ≤ 255) = decide (n ≤ 255) := by rw [Bool.eq_iff_iff]; simp [h1]
      have := k H Vc.Ed.refl
      rw [e] at this
      exact this
    · have e : decide (0 ≤ n ∧ n ≤ 255) = false := decide_eq_false (by omega)
      have := k H Vc.Ed.refl
      rw [e] at this
      exact this
end
theorem findIdx_at {α : Type} {f : α → Bool} : ∀ {xs : List α} {i : Nat} {x : α}, xs[i]? = some x → (∀ y ∈ xs.take i, f y = false) → f x = true → xs.findIdx? f = some i
  | [], _, _, h, _, _ => nomatch h
  | a :: xs, 0, x, h, _, hx => by
    have : a = x := Option.some.inj h
    subst this
    rw [List.findIdx?_cons, hx]; rfl
  | a :: xs, i + 1, x, h, hall, hx => by
    have ha : f a = false := hall a List.mem_cons_self
    rw [List.findIdx?_cons, ha, findIdx_at (xs := xs) (i := i) (by simpa using h) (fun y hy => hall y (by rw [List.take_succ_cons]; exact List.mem_cons_of_mem _ hy)) hx]; rfl
theorem findIdx_none {α : Type} {f : α → Bool} {xs : List α} (h : ∀ y ∈ xs, f y = false) : xs.findIdx? f = none :=
  List.findIdx?_eq_none_iff.mpr h
theorem walk_enumT {K : PySem.W.Frag} {a : Addr} {xs : List V} : Walk (Vc.IteT K a) xs.length (fun H => SqT K H a xs) (YPair (fun i => some (.int (i : Nat))) (fun i => xs[i]?)) := by
  refine ⟨fun i _ hi q => ⟨xs, xs[i], q, by simp [hi]⟩, fun _ q => ⟨xs, q, Nat.le_refl _⟩, fun i H v H' _ q y => ?_⟩
  obtain ⟨T, x, h1, h2, h3, h4⟩ := y
  exact ⟨T, .int (i : Nat), x, h1, h2, h3, rfl, h4 xs q⟩

theorem take_suc {α : Type} {xs : List α} {i : Nat} {x : α} (h : xs[i]? = some x) : xs.take (i + 1) = xs.take i ++ [x] := by
  rw [List.take_add_one, h]; rfl
def notByte (n : Int) : Bool := !decide (0 ≤ n ∧ n ≤ 255)
/-- what may be said against a write: true: its address, false: the index of a value -/
def wrErr (a : Int) (ns : List Int) : Option (Bool × Int) := if a < 0 ∨ 23 < a then some (true, a) else (ns.findIdx? notByte).map fun j : Nat => (false, (j : Int))
theorem pl_sd : ∀ d : SD, Pl 1 (.tuple d.D)
  | .wr a vs => pl_tup fun x hx => by
    rcases List.mem_cons.mp hx with rfl | hx
    · exact pl_str (by decide +kernel)
    · rcases List.mem_cons.mp hx with rfl | hx
      · exact pl_int _
      · exact pl_ints vs x hx
  | .sy => pl_tup fun x hx => by
    rw [List.mem_singleton.mp hx]
    exact pl_str (by decide +kernel)
  | .ps s => pl_tup fun x hx => by
    rcases List.mem_cons.mp hx with rfl | hx
    · exact pl_str (by decide +kernel)
    · rw [List.mem_singleton.mp hx]
      exact pl_int _
theorem sd_ne1 : ("write" : Str) ≠ "sync" := by decide +kernel
theorem sd_ne2 : ("write" : Str) ≠ "pass" := by decide +kernel
theorem sd_ne3 : ("sync" : Str) ≠ "pass" := by decide +kernel
theorem sd_inj : ∀ d e : SD, PyData.tuple d.D = .tuple e.D ↔ d = e
  | .wr a vs, .wr b us => by simp [SD.D, ints_inj]
  | .wr a vs, .sy => by simp [SD.D]
  | .wr a vs, .ps s => by simp [SD.D, sd_ne2]
  | .sy, .wr b us => by simp [SD.D]
  | .sy, .sy => by simp
  | .sy, .ps s => by simp [SD.D]
  | .ps s, .wr b us => by simp [SD.D, sd_ne2.symm]
  | .ps s, .sy => by simp [SD.D]
  | .ps s, .ps s' => by simp [SD.D]
theorem sd_len : ∀ d : SD, d.ws.length = d.shown.length
  | .wr a vs => by simp [SD.ws, SD.shown]
  | .sy => rfl
  | .ps s => rfl
theorem sd_22 : ∀ d : SD, d.Sm → d.shown.length ≤ 22
  | .wr a vs, h => by have := h.2.1; simp [SD.shown]; omega
  | .sy, _ => by decide
  | .ps s, _ => by show 2 ≤ 22; decide
theorem sd_at {d : SD} (sm : d.Sm) {i : Nat} {x : V} (h : d.shown[i]? = some x) : ∃ z, d.ws[i]? = some z ∧ (x = .str z ∨ ∃ n : Int, x = .int n ∧ z = Str.ofString (toString n) ∧ n.natAbs < 10 ^ 40) := by
  match d, sm, i, h with
  | .wr a vs, sm, 0, h => exact ⟨_, rfl, .inl (Option.some.inj h).symm⟩
  | .wr a vs, sm, 1, h => exact ⟨_, rfl, .inr ⟨a, (Option.some.inj h).symm, rfl, sm.1⟩⟩
  | .wr a vs, sm, i + 2, h =>
    have h : (vs.map V.int)[i]? = some x := h
    rw [List.getElem?_map] at h
    obtain ⟨n, hn, rfl⟩ := Option.map_eq_some_iff.mp h
    refine ⟨Str.ofString (toString n), ?_, .inr ⟨n, rfl, rfl, sm.2.2 n (List.mem_of_getElem? hn)⟩⟩
    show (vs.map fun v : Int => Str.ofString (toString v))[i]? = _
    rw [List.getElem?_map, hn]; rfl
  | .sy, sm, 0, h => exact ⟨_, rfl, .inl (Option.some.inj h).symm⟩
  | .ps s, sm, 0, h => exact ⟨_, rfl, .inl (Option.some.inj h).symm⟩
  | .ps s, sm, 1, h => exact ⟨_, rfl, .inr ⟨s, (Option.some.inj h).symm, rfl, sm⟩⟩
theorem sd_w : ∀ {d : SD}, d.Sm → ∀ z ∈ d.ws, Vc.SOk z 41
  | .wr a vs, sm, z, h => by
    rcases List.mem_cons.mp h with rfl | h
    · exact ⟨by decide +kernel, by decide +kernel⟩
    rcases List.mem_cons.mp h with rfl | h
    · exact Vc.int_sok (by decide) sm.1
    · obtain ⟨n, hn, rfl⟩ := List.mem_map.mp h
      exact Vc.int_sok (by decide) (sm.2.2 n hn)
  | .sy, _, z, h => by rw [List.mem_singleton.mp h]; exact ⟨by decide +kernel, by decide +kernel⟩
  | .ps s, sm, z, h => by
    rcases List.mem_cons.mp h with rfl | h
    · exact ⟨by decide +kernel, by decide +kernel⟩
    · rw [List.mem_singleton.mp h]; exact Vc.int_sok (by decide) sm
theorem sum_le {ys : List Str} {n : Nat} (h : ∀ z ∈ ys, z.length ≤ n) : (ys.map (·.length)).sum ≤ ys.length * n := by
  induction ys with
  | nil => exact Nat.zero_le _
  | cons y r ih =>
    rw [List.map_cons, List.sum_cons, List.length_cons, Nat.add_mul, Nat.one_mul]
    have := h y List.mem_cons_self
    have := ih fun z hz => h z (List.mem_cons_of_mem _ hz)
    omega
theorem go_join2 {K : PySem.W.Frag} {H : Hp} {p : Addr} {ys : List Str} {R : Str → List Str → Prop} (e : SqL K H p (ys.map V.str)) (h : ∀ z ∈ ys, z.length ≤ 1000) (l : ys.length ≤ 1000) (q : R " " ys) : ∃ a q ys, V.str (" " : Str) = .str a ∧ [V.ref p] = [.ref q] ∧ (SqL K H q (ys.map V.str) ∨ SqT K H q (ys.map V.str)) ∧ (ys.map (·.length)).sum + ys.length * a.length ≤ 16777216 ∧ R a ys :=
  ⟨" ", p, ys, rfl, rfl, .inl e, by
    have := sum_le h
    have e1 : (" " : Str).length = 1 := by decide +kernel
    rw [e1]
    have : ys.length * 1000 ≤ 1000 * 1000 := Nat.mul_le_mul_right _ l
    omega, q⟩
def spStepInit (K : PySem.W.Frag) : Sp := fun vs H Q _ => ∃ (p C dx t : Addr), vs = [.ref p, .ref t] ∧ H p = some (.ins C dx []) ∧ Cls K C ∧ NoAttr K C "shown" ∧ ∀ H', Vc.Ed [p] H H' → H' p = some (.ins C dx [("shown", .ref t)]) → Q .non H'
def spStepEq (A : Ad) (K : PySem.W.Frag) : Sp := fun vs H Q _ => ∃ (p : Addr) (v : V) (d : SD), vs = [.ref p, v] ∧ StepAt A H p d ∧
  ((∃ q e, v = .ref q ∧ StepAt A H q e ∧ Q (.bl (decide (d = e))) H) ∨ (∃ t, TyX K H v t ∧ PySem.W.kitOne K t (.ref A.C_Step) = some false ∧ Q (.bl false) H))
def spWrite (A : Ad) : Sp := fun vs H Q E => ∃ (p dx v : Addr) (a : Int) (ns : List Int), vs = [.ref p, .int a, .ref v] ∧ H p = some (.ins A.C_Write dx []) ∧ H v = some (.tup (ns.map V.int)) ∧ ns.length ≤ 20 ∧
  (∀ b i, wrErr a ns = some (b, i) → ∀ d H', Vc.Ed [] H H' → H' d = some (.xd [("at", .int i)]) → E (.ref (if b = true then A.C_BadAddress else A.C_BadByte)) (some d) H') ∧
  (wrErr a ns = none → ∀ H', Vc.Ed [p] H H' → StepAt A H' p (.wr a ns) → Q .non H')
def spSync (A : Ad) : Sp := fun vs H Q _ => ∃ (p dx : Addr), vs = [.ref p] ∧ H p = some (.ins A.C_Sync dx []) ∧ ∀ H', Vc.Ed [p] H H' → StepAt A H' p .sy → Q .non H'
def spPass (A : Ad) : Sp := fun vs H Q _ => ∃ (p dx : Addr) (s : Int), vs = [.ref p, .int s] ∧ H p = some (.ins A.C_Pass dx []) ∧ ∀ H', Vc.Ed [p] H H' → StepAt A H' p (.ps s) → Q .non H'
section
variable {P : Program} {w : World} {K : PySem.W.Frag} {mg : Str → Option Value} {base : Heap} {A : Ad}
theorem ok_Stepu_initu (T : Txt K mg A) : FnR P w K mg base CX0 1 A.f_Stepu_initu (Vc.spV 1 (spStepInit K)) := by
  refine Vc.Fun.okVX StX.cxUp_none T.F_Stepu_initu T.b_Stepu_initu sc_Stepu_initu (fun cdv Ar outer s H vs Q E hr h => ?_)
  obtain ⟨p, C, dx, t, rfl, hp, cl, no, k⟩ := h
  refine ⟨_, (pss_one (ps_fld (pv 0) (pv 1) rfl)), ?_⟩
  walk_at "go"
  generalize hu2 : upd _ p _ = H2
  obtain ⟨e2, hp2⟩ := Vc.chg hu2 hp
  exact k _ e2 hp2
theorem ok_Stepu_equ (T : Txt K mg A) : FnOk P w K mg base CX0 1 A.f_Stepu_equ A.d_Stepu_equ ["self", "other"] (spStepEq A K) := by
  refine T.F_Stepu_equ.ok sc_Stepu_equ (fun vs H Q E h => ?_) (fun cdv Ar outer s H vs Q E hr h => ?_)
  · obtain ⟨p, v, d, rfl, _⟩ := h
    rfl
  · obtain ⟨p, v, d, rfl, hS, k⟩ := h
    obtain ⟨dx, t, v1, hp, ht, hv⟩ := hS.ex
    have C := stepC T d
    have cl := C.cl
    have no := C.no
    have l1 := fld_shown t v1 d
    refine ⟨_, (pss_cons (ps_if (pt_not (pt_val (pe_callB call_isi (by rfl) T.n_isinstance (by decide +kernel) (pa_cons (pv 1) (pa_cons (pe_glob (v := .ref A.C_Step) (by rfl) T.g_Step rfl) pa_nil))))) (pss_one (ps_ret pe_bl)) pss_nil) (pss_one (ps_ret (pe_cmpR (op_eqD (by exact hr.units)) (pe_fld (pv 0) rfl) (pe_fld (pv 1) rfl) (nomark _))))), ?_⟩
    walk_at "go"
    rcases k with ⟨q, e, rfl, hS2, k⟩ | ⟨b, ty, kt, k⟩
    · obtain ⟨dy, t', v2, hq, ht', hv'⟩ := hS2.ex
      have C2 := stepC T e
      have cl2 := C2.cl
      have no2 := C2.no
      have l2 := fld_shown t' v2 e
      refine Vc.go_isiC (Vc.ty_ins hq C2.ic) C2.kt ?_
      walk_at "go"
      exact go_eqPl (.tup (.of ht) (dp_sd d)) (.tup (.of ht') (dp_sd e)) (pl_sd d) (pl_sd e) (by decide) (sd_inj d e) k
    · refine Vc.go_isiC ty kt ?_
      walk_at "go"
      exact k
theorem ok_Syncu_initu {A : Ad} (T : Txt K mg A) : FnOk PG w K mg base CX0 2 A.f_Syncu_initu A.d_Syncu_initu ["self"] (spSync A) := by
  have G_Stepu_initu := ok_Stepu_initu (P := PG) (w := w) (base := base) T
  refine T.F_Syncu_initu.ok sc_Syncu_initu (fun vs H Q E h => ?_) (fun cda cc Ar outer s H vs Q E hSF hr h => ?_)
  · obtain ⟨p, dx, rfl, _⟩ := h
    rfl
  · obtain ⟨p, dx, rfl, hp, k⟩ := h
    refine ⟨_, (Vc.psa_super sc_Syncu_initu hSF G_Stepu_initu (by exact hr.mono (by decide)) pass0 rfl rfl (pa_cons pe_str pa_nil) (Vc.psa_of pss_nil) rfl rfl rfl rfl rfl), ?_⟩
    refine ⟨p, dx, [], rfl, hp, fun q nq => ?_⟩
    generalize hu1 : upd _ q _ = H1
    obtain ⟨e1, hq⟩ := Vc.alloc hu1 nq
    walk_at "go"
    refine ⟨hq, [.ref p], [.str "sync"], rfl, rfl, by show 1 ≤ sizeLine; decide, fun t nt => ?_⟩
    generalize hu2 : upd _ t _ = H2
    obtain ⟨e2, ht⟩ := Vc.alloc hu2 nt
    have hp2 := e2.at0 (e1.at0 hp)
    refine ⟨p, _, dx, t, rfl, hp2, T.cl_Sync, T.no_Sync_shown, fun H3 e3 hp3 => ?_⟩
    walk_at "go"
    have e13 := ((e1.ex e2).mono (fun _ z => nomatch z) : Vc.Ed [p] _ _).trans e3 fun _ z => .inl z
    exact k _ e13 ⟨dx, t, t, hp3, e3.tup _ _ ht, fun _ _ z => nomatch z⟩
theorem ok_Passu_initu {A : Ad} (T : Txt K mg A) : FnOk PG w K mg base CX0 2 A.f_Passu_initu A.d_Passu_initu ["self", "stretch"] (spPass A) := by
  have G_Stepu_initu := ok_Stepu_initu (P := PG) (w := w) (base := base) T
  refine T.F_Passu_initu.ok sc_Passu_initu (fun vs H Q E h => ?_) (fun cda cc Ar outer s H vs Q E hSF hr h => ?_)
  · obtain ⟨p, dx, s, rfl, _⟩ := h
    rfl
  · obtain ⟨p, dx, s, rfl, hp, k⟩ := h
    have cl := T.cl_Pass
    have no := T.no_Pass_stretch
    refine ⟨_, (Vc.psa_super sc_Passu_initu hSF G_Stepu_initu (by exact hr.mono (by decide)) pass0 rfl rfl (pa_cons pe_str (pa_cons (pv 1) pa_nil)) (Vc.psa_of (pss_one (ps_fld (pv 0) (pv 1) rfl))) rfl rfl rfl rfl rfl), ?_⟩
    refine ⟨p, dx, [], rfl, hp, fun q nq => ?_⟩
    generalize hu1 : upd _ q _ = H1
    obtain ⟨e1, hq⟩ := Vc.alloc hu1 nq
    walk_at "go"
    refine ⟨hq, [.ref p], [.str "pass", .int s], rfl, rfl, by show 2 ≤ sizeLine; decide, fun t nt => ?_⟩
    generalize hu2 : upd _ t _ = H2
    obtain ⟨e2, ht⟩ := Vc.alloc hu2 nt
    have hp2 := e2.at0 (e1.at0 hp)
    refine ⟨p, _, dx, t, rfl, hp2, T.cl_Pass, T.no_Pass_shown, fun H3 e3 hp3 => ?_⟩
    walk_at "go"
    generalize hu4 : upd _ p _ = H4
    obtain ⟨e4, hp4⟩ := Vc.chg hu4 hp3
    have e14 := (((e1.ex e2).mono (fun _ z => nomatch z) : Vc.Ed [p] _ _).trans e3 fun _ z => .inl z).trans e4 fun _ z => .inl z
    exact k _ e14 ⟨dx, t, t, hp4, e4.tup _ _ (e3.tup _ _ ht), fun _ _ z => nomatch z⟩
theorem ok_Writeu_initu {A : Ad} (T : Txt K mg A) : FnR PG w K mg base (CX PG w) 4 A.f_Writeu_initu (Vc.spV 2 (spWrite A)) := by
  have G_Stepu_initu := ok_Stepu_initu (P := PG) (w := w) (base := base) T
  have G_is_byte := ok_is_byte (P := PG) (w := w) (base := base) T
  have G_BadAddressu_initu := ok_BadAddressu_initu (w := w) (base := base) T
  have G_BadByteu_initu := ok_BadByteu_initu (w := w) (base := base) T
  obtain ⟨_, gc_MOST_ADDRESS⟩ := T.g_MOST_ADDRESS
  refine T.F_Writeu_initu.okV T.b_Writeu_initu sc_Writeu_initu (fun cda cc Ar outer s H vs Q E hSF hr h => ?_)
  obtain ⟨p, dx, v, a, ns, rfl, hp, hv, l20, kE, kQ⟩ := h
  have cl := T.cl_Write
  have no := T.no_Write_address
  have no2 := T.no_Write_given
  refine ⟨_, (Vc.psa_cons (ps_if (PW.pt (pw_or (pt_cmpR op_lt (pv 1) pe_int (nomark _)) (pw_or1 (pt_cmpR op_gt (pv 1) (pe_glob (v := .int 23) (by rfl) gc_MOST_ADDRESS ⟨_, rfl⟩) (nomark _))))) (pss_one (Vc.ps_raiseT rfl (takes_of rfl rfl rfl rfl) (pmk_oex T.ox_BadAddress T.i_BadAddress T.ti_BadAddress G_BadAddressu_initu (by exact hr.mono (by decide)) T.b_BadAddressu_initu .nil pass0 (by rfl) T.g_BadAddress (pa_cons (pv 1) pa_nil)))) pss_nil) (Vc.psa_cons (ps_for (passes_of rfl) rfl (Vc.pi_enumT (by rfl) T.n_enumerate (pa_cons (pv 2) pa_nil)) (pg_tup rfl (pgs_cons (pg_name (i := 3) sc_Writeu_initu.nd rfl (Or.inl rfl)) (pgs_cons (pg_name (i := 4) sc_Writeu_initu.nd rfl (Or.inl rfl)) pgs_nil))) (pss_one (ps_if (pt_not (pt_val (pe_call G_is_byte (by exact hr.mono (by decide)) (by rfl) T.g_is_byte T.F_is_byte.kp T.b_is_byte .nil pass0 (pa_cons (pv 4) pa_nil)))) (pss_one (Vc.ps_raiseT rfl (takes_of rfl rfl rfl rfl) (pmk_oex T.ox_BadByte T.i_BadByte T.ti_BadByte G_BadByteu_initu (by exact hr.mono (by decide)) T.b_BadByteu_initu .nil pass0 (by rfl) T.g_BadByte (pa_cons (pv 3) pa_nil)))) pss_nil))) (Vc.psa_superS sc_Writeu_initu hSF G_Stepu_initu (by exact hr.mono (by decide)) pass0 rfl rfl (pa_cons pe_str (pa_cons (pv 1) (Vc.pa_starK (K := K) rfl (pv 2) pa_nil (by rfl)))) (Vc.psa_of (pss_cons (ps_fld (pv 0) (pv 1) rfl) (pss_one (ps_fld (pv 0) (pv 2) rfl)))) rfl rfl rfl rfl rfl))), ?_⟩
  walk_at "go"
  have bad1 : (a < 0 ∨ 23 < a) → ∀ d H', H d = none → Vc.Ed [] H H' → H' d = some (.xd [("at", .int a)]) → E (.ref A.C_BadAddress) (some d) H' := fun g d H' _ e2 h => kE true a (by unfold wrErr; rw [if_pos g]) d H' e2 h
  refine Vc.go_ite (fun h1 => ?_) (fun h1 => ?_)
  · walk_at "go"
    exact bad1 (.inl h1)
  walk_at "go"
  refine Vc.go_ite (fun h2 => ?_) (fun h2 => ?_)
  · walk_at "go"
    exact bad1 (.inr h2)
  walk_at "go"
  refine Vc.go_iEnumT ?_
  walk_at "go"
  refine ⟨v, _, rfl, .of hv, for_it (walk_enumT (xs := ns.map V.int)) (fun i σ H' => ∃ y z : Option V, σ = [some (.ref p), some (.int a), some (.ref v), y, z] ∧ Vc.Ed [] H H' ∧ ∀ x ∈ ns.take i, notByte x = false) ⟨_, _, rfl, .refl, fun c h => nomatch h⟩ (fun i σ' H' _ h => (by obtain ⟨_, _, _, e, _⟩ := h; exact .of (e.tup _ _ hv))) (fun i u σ' H5 H6 hi hp1 hy => ?_) fun σ' H5 hp1 => ?_⟩
  · obtain ⟨y, z, rfl, e5, hall⟩ := hp1
    obtain ⟨t, a', b, rfl, nt, q, ha, hbx⟩ := hy
    subst q
    cases ha
    have hbx : (ns.map V.int)[i]? = some b := hbx
    rw [List.getElem?_map] at hbx
    obtain ⟨n, hn, rfl⟩ := Option.map_eq_some_iff.mp hbx
    generalize hu6 : upd _ t _ = H6
    obtain ⟨e6, ht6⟩ := Vc.alloc hu6 nt
    refine ⟨t, _, rfl, .of ht6, rfl, _, _, rfl, ?_⟩
    walk_at "go"
    refine ⟨_, _, rfl, ?_⟩
    walk_at "go"
    refine ⟨rfl, ?_⟩
    walk_at "go"
    refine ⟨n, rfl, fun H7 e7 => ?_⟩
    have e07 := (e5.ex e6).ex e7
    by_cases hb : 0 ≤ n ∧ n ≤ 255
    · rw [decide_eq_true hb]
      walk_at "go"
      refine ⟨_, _, rfl, e07, fun x hx => ?_⟩
      rw [take_suc hn] at hx
      rcases List.mem_append.mp hx with hx | hx
      · exact hall x hx
      · rw [List.mem_singleton.mp hx]; unfold notByte; rw [decide_eq_true hb]; rfl
    · rw [decide_eq_false hb]
      walk_at "go"
      intro d H8 _ e8 hd
      refine kE false (i : Nat) ?_ d H8 (e07.ex e8) hd
      unfold wrErr
      rw [if_neg (by omega), findIdx_at hn hall (by unfold notByte; rw [decide_eq_false hb]; rfl)]
      rfl
  · obtain ⟨y, z, rfl, e5, hall⟩ := hp1
    have nob : wrErr a ns = none := by
      unfold wrErr
      rw [List.length_map, List.take_of_length_le (Nat.le_refl _)] at hall
      rw [if_neg (by omega), findIdx_none hall]
      rfl
    have hp5 := e5.at0 hp
    refine ⟨p, dx, [], rfl, hp5, fun q nq => ?_⟩
    generalize hu1 : upd _ q _ = H1
    obtain ⟨e1, hq⟩ := Vc.alloc hu1 nq
    walk_at "go"
    refine Vc.go_star ?_
    walk_at "go"
    refine ⟨v, _, rfl, .inl (.of (e1.tup _ _ (e5.tup _ _ hv))), ?_⟩
    walk_at "go"
    refine ⟨hq, [.ref p], .str "write" :: .int a :: (ns.map V.int ++ []), rfl, rfl, by rw [List.append_nil, List.length_cons, List.length_cons, List.length_map]; exact Nat.le_of_lt (small1000 (by omega)), fun t nt => ?_⟩
    rw [List.append_nil]
    generalize hu2 : upd _ t _ = H2
    obtain ⟨e2, ht⟩ := Vc.alloc hu2 nt
    have hp2 := e2.at0 (e1.at0 hp5)
    have hv2 := e2.tup _ _ (e1.tup _ _ (e5.tup _ _ hv))
    refine ⟨p, _, dx, t, rfl, hp2, T.cl_Write, T.no_Write_shown, fun H3 e3 hp3 => ?_⟩
    walk_at "go"
    generalize hu4 : upd _ p _ = H4
    obtain ⟨e4, hp4⟩ := Vc.chg hu4 hp3
    walk_at "go"
    generalize hu6 : upd _ p _ = H6
    obtain ⟨e6, hp6⟩ := Vc.chg hu6 hp4
    have e16 := (((((e5.ex e1).ex e2).mono (fun _ z => nomatch z) : Vc.Ed [p] _ _).trans e3 fun _ z => .inl z).trans e4 fun _ z => .inl z).trans e6 fun _ z => .inl z
    refine kQ nob _ e16 ⟨dx, t, v, hp6, e6.tup _ _ (e4.tup _ _ (e3.tup _ _ ht)), fun x vs z => ?_⟩
    cases z
    exact e6.tup _ _ (e4.tup _ _ (e3.tup _ _ hv2))
end

end My
namespace My
open PySem PySem.Spec PyProof.Rows L2
/-! ### rows of steps, plans -/
inductive RowR (R : Addr → SD → Prop) : List V → List SD → Prop
  | nil : RowR R [] []
  | cons {p : Addr} {d : SD} {xs : List V} {ds : List SD} : R p d → RowR R xs ds → RowR R (.ref p :: xs) (d :: ds)
theorem RowR.len {R : Addr → SD → Prop} {xs : List V} {ds : List SD} (h : RowR R xs ds) : xs.length = ds.length := by
  induction h with
  | nil => rfl
  | cons _ _ ih => rw [List.length_cons, List.length_cons, ih]
theorem RowR.get {R : Addr → SD → Prop} {xs : List V} {ds : List SD} (h : RowR R xs ds) : ∀ {i : Nat} {v : V}, xs[i]? = some v → ∃ p d, v = .ref p ∧ ds[i]? = some d ∧ R p d := by
  induction h with
  | nil => intro i v h; simp at h
  | cons a _ ih =>
    intro i v h
    cases i with
    | zero =>
      rw [List.getElem?_cons_zero] at h
      exact ⟨_, _, (Option.some.inj h).symm, rfl, a⟩
    | succ i =>
      rw [List.getElem?_cons_succ] at h
      obtain ⟨p, d, e, g, s⟩ := ih h
      exact ⟨p, d, e, by rw [List.getElem?_cons_succ]; exact g, s⟩
theorem RowR.mem {R : Addr → SD → Prop} {xs : List V} {ds : List SD} (h : RowR R xs ds) {v : V} (hv : v ∈ xs) : ∃ p d, v = .ref p ∧ R p d := by
  obtain ⟨i, hi⟩ := List.getElem?_of_mem hv
  obtain ⟨p, d, e, _, s⟩ := h.get hi
  exact ⟨p, d, e, s⟩
theorem RowR.at_ {R : Addr → SD → Prop} {xs : List V} {ds : List SD} (h : RowR R xs ds) {i : Nat} {d : SD} (hd : ds[i]? = some d) : ∃ p, xs[i]? = some (.ref p) ∧ R p d := by
  have hi := (List.getElem?_eq_some_iff.mp hd).1
  have hx : xs[i]? = some (xs[i]'(by rw [h.len]; exact hi)) := List.getElem?_eq_getElem _
  obtain ⟨p, d', e, g, s⟩ := h.get hx
  rw [hd] at g
  cases g
  exact ⟨p, by rw [hx, e], s⟩
theorem RowR.app {R : Addr → SD → Prop} {xs ys : List V} {ds es : List SD} (h : RowR R xs ds) (k : RowR R ys es) : RowR R (xs ++ ys) (ds ++ es) := by
  induction h with
  | nil => exact k
  | cons a _ ih => exact .cons a ih
theorem RowR.take {R : Addr → SD → Prop} {xs : List V} {ds : List SD} (h : RowR R xs ds) : ∀ n, RowR R (xs.take n) (ds.take n) := by
  induction h with
  | nil => intro n; rw [List.take_nil, List.take_nil]; exact .nil
  | cons a _ ih =>
    intro n
    cases n with
    | zero => exact .nil
    | succ n => rw [List.take_succ_cons, List.take_succ_cons]; exact .cons a (ih n)
theorem RowR.drop {R : Addr → SD → Prop} {xs : List V} {ds : List SD} (h : RowR R xs ds) : ∀ n, RowR R (xs.drop n) (ds.drop n) := by
  induction h with
  | nil => intro n; rw [List.drop_nil, List.drop_nil]; exact .nil
  | cons a b ih =>
    intro n
    cases n with
    | zero => exact .cons a b
    | succ n => rw [List.drop_succ_cons, List.drop_succ_cons]; exact ih n
theorem RowR.map {R R' : Addr → SD → Prop} {xs : List V} {ds : List SD} (h : RowR R xs ds) (k : ∀ p d, R p d → R' p d) : RowR R' xs ds := by
  induction h with
  | nil => exact .nil
  | cons a _ ih => exact .cons (k _ _ a) ih
abbrev StepsAt (A : Ad) (H : Hp) : List V → List SD → Prop := RowR (StepAt A H)
theorem StepsAt.ed0 {A : Ad} {H H' : Hp} {xs : List V} {ds : List SD} (e : Vc.Ed [] H H') (h : StepsAt A H xs ds) : StepsAt A H' xs ds := h.map fun _ _ s => s.ed0 e
theorem StepAt.edL {A : Ad} {H H' : Hp} {p b : Addr} {d : SD} {ys : List V} (hb : H b = some (.lst ys)) (e : Vc.Ed [b] H H') (h : StepAt A H p d) : StepAt A H' p d := by
  obtain ⟨dx, t, v, h1, _⟩ := id h.ex
  exact h.ed1 (Vc.nek h1 hb fun z => by cases z) e
theorem StepAt.edI {A : Ad} {H H' : Hp} {p b C dx : Addr} {d : SD} (hb : H b = some (.ins C dx [])) (e : Vc.Ed [b] H H') (h : StepAt A H p d) : StepAt A H' p d := by
  obtain ⟨dy, t, v, h1, _⟩ := id h.ex
  exact h.ed1 (Vc.nek h1 hb fun z => by
    have := congrArg (fun o => match o with | HO.ins _ _ fs => fs.length | _ => 0) z
    cases d <;> simp [SD.fld] at this) e
theorem StepsAt.edL {A : Ad} {H H' : Hp} {b : Addr} {ys xs : List V} {ds : List SD} (hb : H b = some (.lst ys)) (e : Vc.Ed [b] H H') (h : StepsAt A H xs ds) : StepsAt A H' xs ds := h.map fun _ _ s => s.edL hb e
theorem shown_inj : ∀ {d e : SD}, d.shown = e.shown → d = e
  | .wr a vs, .wr b us, h => by
    simp only [SD.shown, List.cons.injEq, V.int.injEq, true_and] at h
    obtain ⟨rfl, h⟩ := h
    rw [(List.map_inj_right fun x y z => by injection z).mp h]
  | .wr a vs, .sy, h => by simp [SD.shown] at h
  | .wr a vs, .ps s, h => by simp [SD.shown, sd_ne2] at h
  | .sy, .wr b us, h => by simp [SD.shown] at h
  | .sy, .sy, _ => rfl
  | .sy, .ps s, h => by simp [SD.shown] at h
  | .ps s, .wr b us, h => by simp [SD.shown, sd_ne2.symm] at h
  | .ps s, .sy, h => by simp [SD.shown] at h
  | .ps s, .ps s', h => by simp [SD.shown] at h; rw [h]
theorem StepAt.inj {A : Ad} {H : Hp} {p : Addr} {d e : SD} (h : StepAt A H p d) (k : StepAt A H p e) : d = e := by
  obtain ⟨dx, t, v, h1, h2, _⟩ := h.ex
  obtain ⟨dy, u, w, k1, k2, _⟩ := k.ex
  rw [h1] at k1
  have z := Option.some.inj k1
  injection z with z1 z2 z3
  have l1 := fld_shown t v d
  have l2 := fld_shown u w e
  rw [z3, l2] at l1
  cases Option.some.inj l1
  rw [h2] at k2
  have := Option.some.inj k2
  injection this with this
  exact shown_inj this
structure PlanAt (A : Ad) (K : PySem.W.Frag) (H : Hp) (p : Addr) (ds : List SD) : Prop where
  ex : ∃ dx t xs, H p = some (.ins A.C_Plan dx [("listed", .ref t)]) ∧ SqT K H t xs ∧ StepsAt A H xs ds ∧ ds.length ≤ 100
theorem PlanAt.ed0 {A : Ad} {K : PySem.W.Frag} {H H' : Hp} {p : Addr} {ds : List SD} (e : Vc.Ed [] H H') (h : PlanAt A K H p ds) : PlanAt A K H' p ds := by
  obtain ⟨dx, t, xs, a, b, c, l⟩ := h.ex
  exact ⟨dx, t, xs, e.at0 a, e.sqt b, StepsAt.ed0 e c, l⟩
theorem PlanAt.edL {A : Ad} {K : PySem.W.Frag} {H H' : Hp} {p b : Addr} {ds : List SD} {ys : List V} (hb : H b = some (.lst ys)) (e : Vc.Ed [b] H H') (h : PlanAt A K H p ds) : PlanAt A K H' p ds := by
  obtain ⟨dx, t, xs, a, c, d, l⟩ := h.ex
  exact ⟨dx, t, xs, e.at1 (Vc.nek a hb fun z => by cases z) a, e.sqt c, StepsAt.edL hb e d, l⟩
theorem PlanAt.l100 {A : Ad} {K : PySem.W.Frag} {H : Hp} {p : Addr} {ds : List SD} (h : PlanAt A K H p ds) : ds.length ≤ 100 := by
  obtain ⟨_, _, _, _, _, _, l⟩ := h.ex
  exact l
def wsum (ds : List SD) : Int := (ds.map SD.words).sum
def rsum (ds : List SD) : Int := (ds.map SD.writes).sum
def spPlanInit (A : Ad) (K : PySem.W.Frag) : Sp := fun vs H Q _ => ∃ (p dx a : Addr) (xs : List V) (ds : List SD), vs = [.ref p, .ref a] ∧ H p = some (.ins A.C_Plan dx []) ∧ (SqL K H a xs ∨ SqT K H a xs) ∧ StepsAt A H xs ds ∧ ds.length ≤ 100 ∧ ∀ H', Vc.Ed [p] H H' → PlanAt A K H' p ds → Q .non H'
theorem mk_plan {A : Ad} {K : PySem.W.Frag} {H : Hp} {R : Addr → Hp → Prop} {E : XK} {a : Addr} {xs : List V} {ds : List SD} (ha : SqL K H a xs ∨ SqT K H a xs) (hs : StepsAt A H xs ds) (l : ds.length ≤ 100)
    (k : ∀ p H', Vc.Ed [] H H' → H p = none → PlanAt A K H' p ds → R p H') :
    ∀ x dx, H x = none → H dx = none → dx ≠ x → spPlanInit A K (.ref x :: [.ref a]) (upd (upd H dx (.own x)) x (.ins A.C_Plan dx [])) (fun v H2 => v = .non ∧ R x H2) E := by
  intro x dx nx ndx ne
  generalize hu : upd (upd H dx (.own x)) x (.ins A.C_Plan dx []) = H1
  obtain ⟨e1, h1, _⟩ := Vc.allocI hu nx ndx ne
  exact ⟨x, dx, a, xs, ds, rfl, h1, ha.elim (fun h => .inl (e1.sql0 h)) (fun h => .inr (e1.sqt h)), StepsAt.ed0 e1 hs, l, fun H' e hp => ⟨rfl, k x H' (e1.one e (.inr nx)) nx hp⟩⟩
def spPlanOf (A : Ad) (K : PySem.W.Frag) : Sp := fun vs H Q _ => ∃ (t : Addr) (xs : List V) (ds : List SD), vs = [.ref A.C_Plan, .ref t] ∧ H t = some (.tup xs) ∧ StepsAt A H xs ds ∧ ds.length ≤ 100 ∧ ∀ p H', Vc.Ed [] H H' → H p = none → PlanAt A K H' p ds → Q (.ref p) H'
def spPlanWords (A : Ad) (K : PySem.W.Frag) : Sp := fun vs H Q _ => ∃ (p : Addr) (ds : List SD), vs = [.ref p] ∧ PlanAt A K H p ds ∧ ∀ H', Vc.Ed [] H H' → Q (.int (wsum ds)) H'
def spPlanWrites (A : Ad) (K : PySem.W.Frag) : Sp := fun vs H Q _ => ∃ (p : Addr) (ds : List SD), vs = [.ref p] ∧ PlanAt A K H p ds ∧ ∀ H', Vc.Ed [] H H' → Q (.int (rsum ds)) H'
def spPlanGet (A : Ad) (K : PySem.W.Frag) : Sp := fun vs H Q E => ∃ (p : Addr) (i : Int) (ds : List SD), vs = [.ref p, .int i] ∧ PlanAt A K H p ds ∧
  ((i < 0 ∨ (ds.length : Int) ≤ i) → ∀ d H', Vc.Ed [] H H' → H' d = some (.xd [("step", .int i)]) → E (.ref A.C_BadStep) (some d) H') ∧
  (∀ q d, 0 ≤ i → ds[i.toNat]? = some d → StepAt A H q d → Q (.ref q) H)
def spPlanLen (A : Ad) (K : PySem.W.Frag) : Sp := fun vs H Q _ => ∃ (p : Addr) (ds : List SD), vs = [.ref p] ∧ PlanAt A K H p ds ∧ Q (.int (ds.length : Int)) H
def spPlanBool (A : Ad) (K : PySem.W.Frag) : Sp := fun vs H Q _ => ∃ (p : Addr) (ds : List SD), vs = [.ref p] ∧ PlanAt A K H p ds ∧ Q (.bl (decide (ds ≠ []))) H
/-- something that a step is compared with -/
def Thing (A : Ad) (K : PySem.W.Frag) (H : Hp) (v : V) (f : SD → Bool) : Prop :=
  (∃ q e, v = .ref q ∧ StepAt A H q e ∧ f = fun d => decide (d = e)) ∨
  (∃ t, (∀ H', Vc.Ed [] H H' → TyX K H' v t) ∧ PySem.W.kitOne K t (.ref A.C_Step) = some false ∧ (∀ d : SD, PySem.W.notFirst K (d.cls A) t = true) ∧ f = fun _ => false)
def spPlanIn (A : Ad) (K : PySem.W.Frag) : Sp := fun vs H Q _ => ∃ (p : Addr) (v : V) (ds : List SD) (f : SD → Bool), vs = [.ref p, v] ∧ PlanAt A K H p ds ∧ Thing A K H v f ∧ ∀ H', Vc.Ed [] H H' → Q (.bl (ds.any f)) H'
def spPlanEq (A : Ad) (K : PySem.W.Frag) : Sp := fun vs H Q _ => ∃ (p : Addr) (v : V) (ds : List SD), vs = [.ref p, v] ∧ PlanAt A K H p ds ∧
  ((∃ q es, v = .ref q ∧ PlanAt A K H q es ∧ Q (.bl (decide (ds = es))) H) ∨ (∃ t, TyX K H v t ∧ PySem.W.kitOne K t (.ref A.C_Plan) = some false ∧ Q (.bl false) H))
def spPlanAdd (A : Ad) (K : PySem.W.Frag) : Sp := fun vs H Q _ => ∃ (p q : Addr) (ds es : List SD), vs = [.ref p, .ref q] ∧ PlanAt A K H p ds ∧ (PlanAt A K H q es ∨ ∃ d, es = [d] ∧ StepAt A H q d) ∧ (ds ++ es).length ≤ 100 ∧
  ∀ r H', Vc.Ed [] H H' → H r = none → PlanAt A K H' r (ds ++ es) → Q (.ref r) H'
def spPlanRadd (A : Ad) (K : PySem.W.Frag) : Sp := fun vs H Q _ => ∃ (p q : Addr) (ds : List SD) (d : SD), vs = [.ref p, .ref q] ∧ PlanAt A K H p ds ∧ StepAt A H q d ∧ (d :: ds).length ≤ 100 ∧
  ∀ r H', Vc.Ed [] H H' → H r = none → PlanAt A K H' r (d :: ds) → Q (.ref r) H'
def spPlanStr (A : Ad) (K : PySem.W.Frag) : Sp := fun vs H Q _ => ∃ (p : Addr) (ds : List SD), vs = [.ref p] ∧ PlanAt A K H p ds ∧ (∀ d ∈ ds, d.Sm) ∧ ∀ z H', Vc.Ed [] H H' → Q (.str z) H'
def spPlanHead (A : Ad) (K : PySem.W.Frag) : Sp := fun vs H Q E => ∃ (p : Addr) (i : Int) (ds : List SD), vs = [.ref p, .int i] ∧ PlanAt A K H p ds ∧
  ((i < 0 ∨ (ds.length : Int) < i) → ∀ d H', Vc.Ed [] H H' → H' d = some (.xd [("step", .int i)]) → E (.ref A.C_BadStep) (some d) H') ∧
  (∀ n : Nat, i = n → n ≤ ds.length → ∀ r H', Vc.Ed [] H H' → H r = none → PlanAt A K H' r (ds.take n) → Q (.ref r) H')
def spPlanTail (A : Ad) (K : PySem.W.Frag) : Sp := fun vs H Q E => ∃ (p : Addr) (i : Int) (ds : List SD), vs = [.ref p, .int i] ∧ PlanAt A K H p ds ∧
  ((i < 0 ∨ (ds.length : Int) < i) → ∀ d H', Vc.Ed [] H H' → H' d = some (.xd [("step", .int i)]) → E (.ref A.C_BadStep) (some d) H') ∧
  (∀ n : Nat, i = n → n ≤ ds.length → ∀ r H', Vc.Ed [] H H' → H r = none → PlanAt A K H' r (ds.drop n) → Q (.ref r) H')
theorem sl_any {K : PySem.W.Frag} {H : Hp} {Q : VK} {t : Addr} {xs : List V} {lo hi : Option Int} (ht : SqT K H t xs) (w : HT.sIx xs.length 0 lo = 0 ∧ HT.sIx xs.length xs.length hi = xs.length → cutV xs lo hi = xs)
    (k : ∀ q H', Vc.Ed [] H H' → SqT K H' q (cutV xs lo hi) → Q (.ref q) H') : rSlA K (.ref t) lo hi H Q :=
  ⟨t, xs, rfl, ht, fun z => k t H .refl (by rw [w z]; exact ht), fun _ q nq => k q _ (.new nq) (.of upd_same)⟩
theorem cut_whole {xs : List V} {lo hi : Option Int} (z : HT.sIx xs.length 0 lo = 0 ∧ HT.sIx xs.length xs.length hi = xs.length) : cutV xs lo hi = xs := by
  unfold cutV
  rw [z.1, z.2, List.drop_zero, Nat.sub_zero, List.take_of_length_le (Nat.le_refl _)]
theorem catA_sq {K : PySem.W.Frag} {H : Hp} {Q : VK} {a b : Addr} {xs ys : List V} (ha : SqT K H a xs) (hb : SqT K H b ys) (l : xs.length + ys.length ≤ 1000)
    (k : ∀ q H', Vc.Ed [] H H' → SqT K H' q (xs ++ ys) → Q (.ref q) H') : rCatA K (.ref a) (.ref b) H Q := by
  refine ⟨a, b, xs, ys, rfl, rfl, ha, hb, Nat.le_of_lt (small1000 l), fun z => ?_, fun _ z => ?_, fun _ _ q nq => ?_⟩
  · refine k b H .refl ?_
    rw [z]; exact hb
  · refine k a H .refl ?_
    rw [z, List.append_nil]; exact ha
  · exact k q _ (.new nq) (.of upd_same)
theorem text_len {d : SD} (sm : d.Sm) : d.text.length ≤ 1000 := by
  have h := size_glued " " d.ws
  have e1 : (" " : Str).length = 1 := by decide +kernel
  have l1 := sum_le fun z hz => (sd_w sm z hz).len
  have l2 := sd_22 d sm
  have l3 := sd_len d
  have l4 : d.ws.length * 41 ≤ 22 * 41 := Nat.mul_le_mul_right _ (by omega)
  have h : d.text.length = _ := h
  rw [h, e1]
  omega
theorem go_joinN {K : PySem.W.Frag} {H : Hp} {p : Addr} {sep : Str} {ys : List Str} {R : Str → List Str → Prop} (e1 : sep.length = 1) (e : SqL K H p (ys.map V.str)) (h : ∀ z ∈ ys, z.length ≤ 1000) (l : ys.length ≤ 1000) (q : R sep ys) : ∃ a q ys, V.str sep = .str a ∧ [V.ref p] = [.ref q] ∧ (SqL K H q (ys.map V.str) ∨ SqT K H q (ys.map V.str)) ∧ (ys.map (·.length)).sum + ys.length * a.length ≤ 16777216 ∧ R a ys :=
  ⟨sep, p, ys, rfl, rfl, .inl e, by
    have := sum_le h
    rw [e1]
    have : ys.length * 1000 ≤ 1000 * 1000 := Nat.mul_le_mul_right _ l
    omega, q⟩
section
variable {P : Program} {w : World} {K : PySem.W.Frag} {mg : Str → Option Value} {base : Heap} {A : Ad}
theorem ok_Planu_initu (T : Txt K mg A) : FnOk P w K mg base CX0 1 A.f_Planu_initu A.d_Planu_initu ["self", "steps"] (spPlanInit A K) := by
  refine T.F_Planu_initu.ok sc_Planu_initu (fun vs H Q E h => ?_) (fun cdv Ar outer s H vs Q E hr h => ?_)
  · obtain ⟨p, dx, a, xs, ds, rfl, _⟩ := h
    rfl
  · obtain ⟨p, dx, a, xs, ds, rfl, hp, ha, hs, l, k⟩ := h
    have cl := T.cl_Plan
    have no1 := T.no_Plan_listed
    refine ⟨_, (pss_one (ps_fld (pv 0) (pe_callTy Vc.call_tupD (by rfl) T.n_tuple (by decide +kernel) (pa_cons (pv 1) pa_nil)) rfl)), ?_⟩
    have fin : ∀ (t : Addr) (H1 : Hp), Vc.Ed [] H H1 → SqT K H1 t xs → Q .non (upd H1 p (.ins A.C_Plan dx [("listed", .ref t)])) := fun t H1 e1 ht => by
      have hp1 := e1.at0 hp
      generalize hu2 : upd _ p _ = H2
      obtain ⟨e2, hp2⟩ := Vc.chg hu2 hp1
      exact k _ ((e1.mono fun _ z => nomatch z).trans e2 fun _ z => .inl z) ⟨dx, t, xs, hp2, e2.sqt ht, RowR.map (StepsAt.ed0 e1 hs) fun _ _ s => s.edI hp1 e2, l⟩
    rcases ha with ha | ha
    · walk_at "go"
      intro t nt
      generalize hu1 : upd _ t _ = H1
      obtain ⟨e1, ht⟩ := Vc.alloc hu1 nt
      walk_at "go"
      exact fin t H1 e1 (.of ht)
    · walk_at "go"
      exact fin a H .refl ha
theorem ok_Plan_of (T : Txt K mg A) : FnR P w K mg base CX0 3 A.f_Plan_of (Vc.spV 1 (spPlanOf A K)) := by
  have G_Planu_initu := ok_Planu_initu (P := P) (w := w) (base := base) T
  refine Vc.Fun.okVX StX.cxUp_none T.F_Plan_of T.b_Plan_of sc_Plan_of (fun cdv Ar outer s H vs Q E hr h => ?_)
  obtain ⟨t, xs, ds, rfl, ht, hs, l, k⟩ := h
  refine ⟨_, (pss_one (ps_ret (Vc.pe_makeC T.mk_Plan G_Planu_initu (by exact hr.mono (by decide)) T.b_Planu_initu (Vc.passS0 (E := fun _ => E0)) (pv 0) (pa_cons (pv 1) pa_nil)))), ?_⟩
  walk_at "go"
  exact mk_plan (R := fun p H' => Q (.ref p) H') (.inr (.of ht)) hs l k
theorem ok_Plan_writes (T : Txt K mg A) : FnOk P w K mg base CX0 1 A.f_Plan_writes A.d_Plan_writes ["self"] (spPlanWrites A K) := by
  refine T.F_Plan_writes.ok sc_Plan_writes (fun vs H Q E h => ?_) (fun cdv Ar outer s H vs Q E hr h => ?_)
  · obtain ⟨p, ds, rfl, _⟩ := h
    rfl
  · obtain ⟨p, ds, rfl, hP, k⟩ := h
    obtain ⟨dx, t, xs, hp, ht, hs, l⟩ := hP.ex
    have cl := T.cl_Plan
    have no1 := T.no_Plan_listed
    refine ⟨_, (pss_one (ps_ret (pe_callB (cr_sum rfl) (by rfl) T.n_sum (by decide +kernel) (pa_cons (pe_lc (own := [("step", 1)]) (g := gName 1) rfl sc_Plan_writes.nd (pi_tup (pe_fld (pv 0) rfl)) (blkOk_by (own := [("step", 1)]) (N := ["self", "step"]) (sc := defScope s_Plan_writes) (by decide +kernel)) (fun _ _ _ _ _ => by exact (pg_name (i := 1) sc_Plan_writes.nd rfl (Or.inl rfl))) (fun _ _ _ _ _ => by exact pts_nil) (fun _ _ _ _ _ => by (refine' Vc.blkE ?h ?q; (case h => exact (pe_con (pv 1) rfl)); (case q => first | exact rfl | (dsimp only; done) | (dsimp only; exact rfl))))) pa_nil)))), ?_⟩
    walk_at "go"
    refine ⟨⟨_, ht⟩, Vc.lc_by (walk_tup (xs := xs)) (fun D i H' => Vc.Ed [] H H' ∧ H' D = some (.lst (((ds.map SD.writes).take i).map V.int))) (fun D H1 nD e1 hD => ⟨e1, hD⟩) (fun D i H' _ _ q => q.1.sqt ht) (fun D i x H1 H2 nD hi q y => ?_) fun D H1 nD q => ?_⟩
    · obtain ⟨rfl, hx⟩ := y
      obtain ⟨e1, hD⟩ := q
      obtain ⟨p', d, rfl, hd, hS⟩ := hs.get hx
      have hz : (ds.map SD.writes)[i]? = some d.writes := by rw [List.getElem?_map, hd]; rfl
      obtain ⟨dy, t', v', hp', _⟩ := (hS.ed0 e1).ex
      have C := stepC T d
      obtain ⟨u, hu⟩ := C.wr
      walk_at "go"
      refine ⟨rfl, ?_⟩
      walk_at "go"
      refine ⟨_, rfl, p', _, dy, _, _, u, rfl, hp', C.cl, hu, fld_wr t' v' d, _, hD, small1000 (by rw [List.length_map]; have := List.length_take_le i (ds.map SD.writes); rw [hs.len] at hi; omega), ?_⟩
      generalize hu5 : upd _ D _ = H5
      obtain ⟨e5, hD5⟩ := Vc.chg hu5 hD
      exact ⟨e1.one e5 (.inr nD), by rw [hD5, take_suc hz, List.map_append]; rfl⟩
    · obtain ⟨e1, hD⟩ := q
      rw [hs.len, List.take_of_length_le (by rw [List.length_map]; exact Nat.le_refl _)] at hD
      walk_at "go"
      exact ⟨D, _, rfl, .of hD, k _ e1⟩
theorem ok_Planu_equ (T : Txt K mg A) : FnOk P w K mg base CX0 3 A.f_Planu_equ A.d_Planu_equ ["self", "other"] (spPlanEq A K) := by
  have G_Stepu_equ := ok_Stepu_equ (P := P) (w := w) (base := base) T
  refine T.F_Planu_equ.ok sc_Planu_equ (fun vs H Q E h => ?_) (fun cdv Ar outer s H vs Q E hr h => ?_)
  · obtain ⟨p, v, ds, rfl, _⟩ := h
    rfl
  · obtain ⟨p, v, ds, rfl, hP, k⟩ := h
    obtain ⟨dx, t, xs, hp, ht, hs, l⟩ := hP.ex
    have cl := T.cl_Plan
    have no1 := T.no_Plan_listed
    refine ⟨_, (pss_cons (ps_if (pt_not (pt_val (pe_callB call_isi (by rfl) T.n_isinstance (by decide +kernel) (pa_cons (pv 1) (pa_cons (pe_glob (v := .ref A.C_Plan) (by rfl) T.g_Plan rfl) pa_nil))))) (pss_one (ps_ret pe_bl)) pss_nil) (pss_one (ps_ret (pe_cmpR (Vc.op_eqTO G_Stepu_equ (by exact hr.mono (by decide)) T.b_Stepu_equ) (pe_fld (pv 0) rfl) (pe_fld (pv 1) rfl) (nomark _))))), ?_⟩
    walk_at "go"
    rcases k with ⟨q, es, rfl, hR, k⟩ | ⟨b, ty, kt, k⟩
    · obtain ⟨dy, t', ys, hq, ht', hs', l'⟩ := hR.ex
      refine Vc.go_isiC (Vc.ty_ins hq T.ic_Plan) T.ic_Plan.me ?_
      walk_at "go"
      classical
      refine ⟨t, t', xs, ys, fun x y => decide (∃ p q d, x = .ref p ∧ y = .ref q ∧ StepAt A H p d ∧ StepAt A H q d), rfl, rfl, ht, ht', fun x hx y hy => ?_, ?_⟩
      · obtain ⟨a, d, rfl, ha⟩ := hs.mem hx
        obtain ⟨b, e, rfl, hb⟩ := hs'.mem hy
        obtain ⟨da, ta, va, ha1, _⟩ := id ha.ex
        obtain ⟨db, tb, vb, hb1, _⟩ := id hb.ex
        have C := stepC T d
        have C2 := stepC T e
        have er : decide (∃ p q d, V.ref a = .ref p ∧ V.ref b = .ref q ∧ StepAt A H p d ∧ StepAt A H q d) = decide (d = e) := by
          by_cases c : d = e
          · subst c
            rw [decide_eq_true rfl]
            exact decide_eq_true ⟨a, b, d, rfl, rfl, ha, hb⟩
          · rw [decide_eq_false c]
            refine decide_eq_false fun ⟨p', q', d', z1, z2, g1, g2⟩ => c ?_
            cases z1
            cases z2
            rw [ha.inj g1, hb.inj g2]
        refine ⟨a, b, _, da, _, _, rfl, rfl, fun z => ?_, C.eq, ha1, Vc.ty_ins hb1 C2.ic, stepNf T d e, ?_⟩
        · subst z
          exact decide_eq_true ⟨a, a, d, rfl, rfl, ha, ha⟩
        · show spStepEq A K _ _ _ _
          exact ⟨a, _, d, rfl, ha, .inl ⟨b, e, rfl, hb, congrArg V.bl er.symm, rfl⟩⟩
      · have : Vc.allI (fun x y => decide (∃ p q d, x = .ref p ∧ y = .ref q ∧ StepAt A H p d ∧ StepAt A H q d)) xs ys = decide (ds = es) := by
          unfold Vc.allI
          rw [hs.len, hs'.len]
          by_cases c : ds = es
          · subst c
            rw [decide_eq_true rfl, decide_eq_true rfl, Bool.true_and, List.all_eq_true]
            intro i hi
            have hi := List.mem_range.mp hi
            obtain ⟨a, h1, g1⟩ := hs.at_ (List.getElem?_eq_getElem hi)
            obtain ⟨b, h2, g2⟩ := hs'.at_ (List.getElem?_eq_getElem hi)
            rw [List.getD_eq_getElem?_getD, List.getD_eq_getElem?_getD, h1, h2]
            exact decide_eq_true ⟨a, b, _, rfl, rfl, g1, g2⟩
          · rw [decide_eq_false c]
            by_cases cl : ds.length = es.length
            · rw [decide_eq_true cl, Bool.true_and, List.all_eq_false]
              have : ∃ i, i < ds.length ∧ ds[i]? ≠ es[i]? := by
                refine Classical.byContradiction fun z => c (List.ext_getElem? fun i => ?_)
                by_cases hi : i < ds.length
                · exact Classical.byContradiction fun y => z ⟨i, hi, y⟩
                · rw [List.getElem?_eq_none (by omega), List.getElem?_eq_none (by omega)]
              obtain ⟨i, hi, hne⟩ := this
              refine ⟨i, List.mem_range.mpr hi, ?_⟩
              obtain ⟨a, h1, g1⟩ := hs.at_ (List.getElem?_eq_getElem hi)
              obtain ⟨b, h2, g2⟩ := hs'.at_ (List.getElem?_eq_getElem (show i < es.length by omega))
              rw [List.getD_eq_getElem?_getD, List.getD_eq_getElem?_getD, h1, h2]
              refine fun z => hne ?_
              obtain ⟨p', q', d', z1, z2, f1, f2⟩ := of_decide_eq_true z
              cases z1
              cases z2
              rw [List.getElem?_eq_getElem hi, List.getElem?_eq_getElem (show i < es.length by omega), g1.inj f1, g2.inj f2]
            · rw [decide_eq_false cl, Bool.false_and]
        rw [this]
        exact k
    · refine Vc.go_isiC ty kt ?_
      walk_at "go"
      exact k
end
section
variable {w : World} {K : PySem.W.Frag} {mg : Str → Option Value} {base : Heap} {A : Ad}
theorem ok_Planu_getitemu (T : Txt K mg A) : FnOk PG w K mg base (CX PG w) 3 A.f_Planu_getitemu A.d_Planu_getitemu ["self", "at"] (spPlanGet A K) := by
  have G_BadStepu_initu := ok_BadStepu_initu (w := w) (base := base) T
  refine T.F_Planu_getitemu.okX sc_Planu_getitemu (fun vs H Q E h => ?_) (fun cdv Ar outer s H vs Q E hr h => ?_)
  · obtain ⟨p, i, ds, rfl, _⟩ := h
    rfl
  · obtain ⟨p, i, ds, rfl, hP, kE, kQ⟩ := h
    obtain ⟨dx, t, xs, hp, ht, hs, l⟩ := hP.ex
    have cl := T.cl_Plan
    have no1 := T.no_Plan_listed
    have hl := hs.len
    refine ⟨_, (pss_cons (ps_if (PW.pt (pw_or (pt_cmpR op_lt (pv 1) pe_int (nomark _)) (pw_or1 (pt_cmpR op_ge (pv 1) (pe_callB call_len_seq (by rfl) T.n_len (by decide +kernel) (pa_cons (pe_fld (pv 0) rfl) pa_nil)) (nomark _))))) (pss_one (Vc.ps_raiseT rfl (takes_of rfl rfl rfl rfl) (pmk_oex T.ox_BadStep T.i_BadStep T.ti_BadStep G_BadStepu_initu (by exact hr.mono (by decide)) T.b_BadStepu_initu .nil pass0 (by rfl) T.g_BadStep (pa_cons (pv 1) pa_nil)))) pss_nil) (pss_one (ps_ret (pe_ix ix_tup (pe_fld (pv 0) rfl) (pv 1) (fun _ _ => rfl))))), ?_⟩
    walk_at "go"
    refine Vc.go_ite (fun h1 => ?_) (fun h1 => ?_)
    · walk_at "go"
      exact fun d H' _ e hd => kE (.inl h1) d H' e hd
    walk_at "go"
    refine Vc.go_ite (fun h2 => ?_) (fun h2 => ?_)
    · walk_at "go"
      exact fun d H' _ e hd => kE (.inr (by omega)) d H' e hd
    obtain ⟨n, rfl⟩ : ∃ n : Nat, i = n := ⟨i.toNat, by omega⟩
    have hd : ds[n]? = some ds[n] := List.getElem?_eq_getElem (by omega)
    obtain ⟨q, hq, hS⟩ := hs.at_ hd
    have hv : atI xs (n : Int) = some (.ref q) := at_of (j := n) (by omega) hq
    walk_at "go"
    exact kQ q _ (by omega) hd hS
theorem ok_Plan_head (T : Txt K mg A) : FnOk PG w K mg base (CX PG w) 4 A.f_Plan_head A.d_Plan_head ["self", "count"] (spPlanHead A K) := by
  have G_BadStepu_initu := ok_BadStepu_initu (w := w) (base := base) T
  have G_Planu_initu := ok_Planu_initu (P := PG) (w := w) (base := base) T
  refine T.F_Plan_head.okX sc_Plan_head (fun vs H Q E h => ?_) (fun cdv Ar outer s H vs Q E hr h => ?_)
  · obtain ⟨p, i, ds, rfl, _⟩ := h
    rfl
  · obtain ⟨p, i, ds, rfl, hP, kE, kQ⟩ := h
    obtain ⟨dx, t, xs, hp, ht, hs, l⟩ := hP.ex
    have cl := T.cl_Plan
    have no1 := T.no_Plan_listed
    have hl := hs.len
    refine ⟨_, (pss_cons (ps_if (PW.pt (pw_or (pt_cmpR op_lt (pv 1) pe_int (nomark _)) (pw_or1 (pt_cmpR op_gt (pv 1) (pe_callB call_len_seq (by rfl) T.n_len (by decide +kernel) (pa_cons (pe_fld (pv 0) rfl) pa_nil)) (nomark _))))) (pss_one (Vc.ps_raiseT rfl (takes_of rfl rfl rfl rfl) (pmk_oex T.ox_BadStep T.i_BadStep T.ti_BadStep G_BadStepu_initu (by exact hr.mono (by decide)) T.b_BadStepu_initu .nil pass0 (by rfl) T.g_BadStep (pa_cons (pv 1) pa_nil)))) pss_nil) (pss_one (ps_ret (pe_make T.mk_Plan G_Planu_initu (by exact hr.mono (by decide)) (by rfl) T.g_Plan T.b_Planu_initu .nil pass0 (pa_cons (pe_slice sl_tupA (pe_fld (pv 0) rfl) po_none (po_some (pv 1))) pa_nil))))), ?_⟩
    walk_at "go"
    refine Vc.go_ite (fun h1 => ?_) (fun h1 => ?_)
    · walk_at "go"
      exact fun d H' _ e hd => kE (.inl h1) d H' e hd
    walk_at "go"
    refine Vc.go_ite (fun h2 => ?_) (fun h2 => ?_)
    · walk_at "go"
      exact fun d H' _ e hd => kE (.inr (by omega)) d H' e hd
    obtain ⟨n, rfl⟩ : ∃ n : Nat, i = n := ⟨i.toNat, by omega⟩
    walk_at "go"
    refine sl_any ht cut_whole fun u H1 e1 hu => ?_
    rw [Vc.cut_take] at hu
    walk_at "go"
    exact mk_plan (R := fun p H' => Q (.ref p) H') (.inr hu) (StepsAt.ed0 e1 (hs.take n)) (by rw [List.length_take]; omega) fun r H2 e2 nr hr2 => kQ n rfl (by omega) r H2 (e1.ex e2) (e1.dom _ nr) hr2
theorem ok_Plan_tail (T : Txt K mg A) : FnOk PG w K mg base (CX PG w) 4 A.f_Plan_tail A.d_Plan_tail ["self", "count"] (spPlanTail A K) := by
  have G_BadStepu_initu := ok_BadStepu_initu (w := w) (base := base) T
  have G_Planu_initu := ok_Planu_initu (P := PG) (w := w) (base := base) T
  refine T.F_Plan_tail.okX sc_Plan_tail (fun vs H Q E h => ?_) (fun cdv Ar outer s H vs Q E hr h => ?_)
  · obtain ⟨p, i, ds, rfl, _⟩ := h
    rfl
  · obtain ⟨p, i, ds, rfl, hP, kE, kQ⟩ := h
    obtain ⟨dx, t, xs, hp, ht, hs, l⟩ := hP.ex
    have cl := T.cl_Plan
    have no1 := T.no_Plan_listed
    have hl := hs.len
    refine ⟨_, (pss_cons (ps_if (PW.pt (pw_or (pt_cmpR op_lt (pv 1) pe_int (nomark _)) (pw_or1 (pt_cmpR op_gt (pv 1) (pe_callB call_len_seq (by rfl) T.n_len (by decide +kernel) (pa_cons (pe_fld (pv 0) rfl) pa_nil)) (nomark _))))) (pss_one (Vc.ps_raiseT rfl (takes_of rfl rfl rfl rfl) (pmk_oex T.ox_BadStep T.i_BadStep T.ti_BadStep G_BadStepu_initu (by exact hr.mono (by decide)) T.b_BadStepu_initu .nil pass0 (by rfl) T.g_BadStep (pa_cons (pv 1) pa_nil)))) pss_nil) (pss_one (ps_ret (pe_make T.mk_Plan G_Planu_initu (by exact hr.mono (by decide)) (by rfl) T.g_Plan T.b_Planu_initu .nil pass0 (pa_cons (pe_slice sl_tupA (pe_fld (pv 0) rfl) (po_some (pv 1)) po_none) pa_nil))))), ?_⟩
    walk_at "go"
    refine Vc.go_ite (fun h1 => ?_) (fun h1 => ?_)
    · walk_at "go"
      exact fun d H' _ e hd => kE (.inl h1) d H' e hd
    walk_at "go"
    refine Vc.go_ite (fun h2 => ?_) (fun h2 => ?_)
    · walk_at "go"
      exact fun d H' _ e hd => kE (.inr (by omega)) d H' e hd
    obtain ⟨n, rfl⟩ : ∃ n : Nat, i = n := ⟨i.toNat, by omega⟩
    walk_at "go"
    refine sl_any ht cut_whole fun u H1 e1 hu => ?_
    rw [Vc.cut_drop] at hu
    walk_at "go"
    exact mk_plan (R := fun p H' => Q (.ref p) H') (.inr hu) (StepsAt.ed0 e1 (hs.drop n)) (by rw [List.length_drop]; omega) fun r H2 e2 nr hr2 => kQ n rfl (by omega) r H2 (e1.ex e2) (e1.dom _ nr) hr2
end
/-! ### readings of what is asked of plans -/
section
variable {K : PySem.W.Frag} {mg : Str → Option Value} {A : Ad} {H : Hp} {Q : VK} {p q : Addr} {ds es : List SD} {d : SD}
theorem eq_plan (T : Txt K mg A) (hP : PlanAt A K H p ds) (hR : PlanAt A K H q es) (k : Q (.bl (decide (ds = es))) H) : Vc.rEqO K A.C_Plan (spPlanEq A K) (.ref p) (.ref q) H Q := by
  obtain ⟨dx, t, xs, hp, _⟩ := id hP.ex
  obtain ⟨dy, u, ys, hq, _⟩ := id hR.ex
  exact Vc.go_eqO hp (Vc.ty_ins hq T.ic_Plan) T.nf_Plan_Plan ⟨p, _, ds, rfl, hP, .inl ⟨q, es, rfl, hR, _, rfl, k⟩⟩
end

end My
namespace My
open PySem PySem.Spec PyProof.Rows L2
/-! ### steps drawn and made -/
/-- a step as the law draws it -/
structure OneAt (H : Hp) (t : Addr) (d : SD) : Prop where
  at_ : match d with
    | .wr a vs => ∃ v, H t = some (.tup [.str "write", .int a, .ref v]) ∧ H v = some (.tup (vs.map V.int))
    | .sy => H t = some (.tup [.str "sync"])
    | .ps s => H t = some (.tup [.str "pass", .int s])
theorem OneAt.ed {S : List Addr} {H H' : Hp} {t : Addr} {d : SD} (e : Vc.Ed S H H') (h : OneAt H t d) : OneAt H' t d := by
  have h := h.at_
  match d, h with
  | .wr a vs, ⟨v, h1, h2⟩ => exact ⟨v, e.tup _ _ h1, e.tup _ _ h2⟩
  | .sy, h => exact ⟨e.tup _ _ h⟩
  | .ps s, h => exact ⟨e.tup _ _ h⟩
/-- within what the law draws -/
def SD.Dr : SD → Prop
  | .wr a vs => 0 ≤ a ∧ a < 24 ∧ 1 ≤ vs.length ∧ vs.length ≤ 4 ∧ ∀ v ∈ vs, 0 ≤ v ∧ v < 256
  | .sy => True
  | .ps s => 0 ≤ s ∧ s < 6
theorem SD.Dr.sm : ∀ {d : SD}, d.Dr → d.Sm
  | .wr a vs, ⟨h1, h2, _, h4, h5⟩ => ⟨show a.natAbs < 10 ^ 40 by omega, show vs.length ≤ 20 by omega, fun v hv => by have := h5 v hv; omega⟩
  | .sy, _ => trivial
  | .ps s, ⟨h1, h2⟩ => show s.natAbs < 10 ^ 40 by omega
theorem wr_none {a : Int} {vs : List Int} (h : (SD.wr a vs).Dr) : wrErr a vs = none := by
  obtain ⟨h1, h2, _, _, h5⟩ := h
  have hb : ∀ v ∈ vs, notByte v = false := fun v hv => by
    have := h5 v hv
    unfold notByte
    rw [decide_eq_true (by omega)]
    rfl
  unfold wrErr
  rw [if_neg (by omega), findIdx_none hb]
  rfl
theorem go_ixG {K : PySem.W.Frag} {H : Hp} {Q : VK} {g : Addr} {xs : List V} {i : Int} {v : V} (hg : SqL K H g xs ∨ SqT K H g xs) (h : atI xs i = some v) (q : Q v H) : rIx K (.ref g) (.int i) H Q :=
  hg.elim (fun hl => .inl ⟨g, xs, i, v, rfl, rfl, hl, h, q⟩) fun ht => .inr (.inl ⟨g, xs, i, v, rfl, rfl, ht, h, q⟩)
/-- the word of a step -/
def SD.kind : SD → Str
  | .wr _ _ => "write"
  | .sy => "sync"
  | .ps _ => "pass"
theorem OneAt.hd {H : Hp} {t : Addr} {d : SD} (h : OneAt H t d) : ∃ r, H t = some (.tup (.str d.kind :: r)) := by
  have ho := h.at_
  match d, ho with
  | .wr a vs, ⟨v, ht, hv⟩ => exact ⟨_, ht⟩
  | .sy, ht => exact ⟨_, ht⟩
  | .ps s, ht => exact ⟨_, ht⟩
abbrev OnesAt (H : Hp) : List V → List SD → Prop := RowR (OneAt H)
theorem OnesAt.ed {S : List Addr} {H H' : Hp} {xs : List V} {ds : List SD} (e : Vc.Ed S H H') (h : OnesAt H xs ds) : OnesAt H' xs ds := RowR.map h fun _ _ s => s.ed e
theorem OneAt.edx {S : List Addr} {H H' : Hp} {t : Addr} {d : SD} (e : Vc.EdX S H H') (h : OneAt H t d) : OneAt H' t d := by
  have h := h.at_
  match d, h with
  | .wr a vs, ⟨v, h1, h2⟩ => exact ⟨v, e.tup _ _ h1, e.tup _ _ h2⟩
  | .sy, h => exact ⟨e.tup _ _ h⟩
  | .ps s, h => exact ⟨e.tup _ _ h⟩
theorem OnesAt.edx {S : List Addr} {H H' : Hp} {xs : List V} {ds : List SD} (e : Vc.EdX S H H') (h : OnesAt H xs ds) : OnesAt H' xs ds := RowR.map h fun _ _ s => s.edx e
theorem StepAt.edx {A : Ad} {H H' : Hp} {p : Addr} {d : SD} (e : Vc.EdX [] H H') (h : StepAt A H p d) : StepAt A H' p d := by
  obtain ⟨dx, t, v, a, b, c⟩ := h.ex
  exact ⟨dx, t, v, e.at0 a, e.tup _ _ b, fun x vs z => e.tup _ _ (c x vs z)⟩
theorem PlanAt.edx {A : Ad} {K : PySem.W.Frag} {H H' : Hp} {p : Addr} {ds : List SD} (e : Vc.EdX [] H H') (h : PlanAt A K H p ds) : PlanAt A K H' p ds := by
  obtain ⟨dx, t, xs, a, b, c, l⟩ := h.ex
  exact ⟨dx, t, xs, e.at0 a, e.sqt b, RowR.map c fun _ _ s => s.edx e, l⟩
def spDrawn : Sp := fun vs H Q _ => ∃ (b c : Addr) (n : Nat), vs = [.ref b] ∧ Pen H b c n ∧ n ≤ 900000 ∧ ∀ t d H', Vc.Ed [b] H H' → Pen H' b c (n + 10) → OneAt H' t d → d.Dr → Q (.ref t) H'
def spLawStep (A : Ad) : Sp := fun vs H Q _ => ∃ (t : Addr) (d : SD), vs = [.ref t] ∧ OneAt H t d ∧ d.Dr ∧ ∀ p H', Vc.Ed [] H H' → H p = none → StepAt A H' p d → Q (.ref p) H'
def spSteps : Sp := fun vs H Q _ => ∃ (b c : Addr) (n m : Nat), vs = [.ref b, .int (m : Int)] ∧ Pen H b c n ∧ n ≤ 800000 ∧ m ≤ 24 ∧ ∀ l xs ds H', Vc.Ed [b] H H' → Pen H' b c (n + 1 + 10 * m) → H l = none → H' l = some (.lst xs) → OnesAt H' xs ds → ds.length ≤ m → (∀ d ∈ ds, d.Dr) → Q (.ref l) H'
/-- the turns of [_law_step(one) for one in ..] -/
theorem made_lc {A : Ad} {K : PySem.W.Frag} {n : Nat} {vs : List Nat} {σ : L2.St} {H : Hp} {l : Addr} {xs : List V} {ds : List SD} {R : Addr → Hp → Prop} (hl : SqL K H l xs) (hO : OnesAt H xs ds) (dr : ∀ d ∈ ds, d.Dr) (l9 : ds.length ≤ 100)
    (k : ∀ D ys H', H D = none → Vc.Ed [] H H' → H' D = some (.lst ys) → StepsAt A H' ys ds → R D H')
    (w1 : ∀ v, wipe ((wipe σ vs).set n (some v)) vs = wipe σ vs) (w2 : ∀ v, ((wipe σ vs).set n (some v))[n]? = some (some v)) :
    ∀ D, H D = none → ∃ W : Nat → Nat → Hp → Prop, (∃ m, W 0 m (upd H D (.lst []))) ∧ ∀ i m H, W i m H →
      ((Itl K l).stop i H ∧ R D H) ∨ ((Itl K l).go i H ∧ ∃ Nx : Hp → Prop, (∀ H', Nx H' → ∃ m', m' < m ∧ W (i + 1) m' H') ∧ ∀ x H', (Itl K l).yld i H x H' → gName n x (wipe σ vs) H' fun σ2 H2 => wipe σ2 vs = wipe σ vs ∧ tYes σ2 H2 fun b H3 =>
        if b = true then tCall (spLawStep A) [] E0 (tCons (tVar n) tNil) σ2 H3 fun y H4 => ∃ acc, H4 D = some (.lst acc) ∧ acc.length < sizeLine ∧ Nx (upd H4 D (.lst (acc ++ [y]))) else Nx H3) := by
  refine Vc.lc_by (walk_list (xs := xs)) (fun D i H' => Vc.Ed [] H H' ∧ ∃ ys, H' D = some (.lst ys) ∧ StepsAt A H' ys (ds.take i)) (fun D H1 nD e1 hD => ⟨e1, [], hD, .nil⟩) (fun D i H' _ _ q => q.1.sql0 hl) (fun D i x H1 H2 nD hi q y => ?_) fun D H1 nD q => ?_
  · obtain ⟨rfl, hx⟩ := y
    obtain ⟨e1, ys, hD, hS⟩ := q
    obtain ⟨t, d, rfl, hd, hT⟩ := hO.get hx
    refine Vc.go_name ?_
    refine ⟨w1 _, ?_⟩
    refine Vc.go_yes ?_
    refine L2.iteT ?_
    refine Vc.go_call ?_
    refine Vc.go_cons ?_
    refine Vc.go_var (w2 _) ?_
    refine Vc.go_nil ?_
    refine ⟨t, d, rfl, hT.ed e1, dr d (List.mem_of_getElem? hd), fun p H3 e3 np hp => ?_⟩
    have hD3 := e3.at0 hD
    have ly := hS.len
    refine ⟨_, hD3, small1000 (by rw [ly, List.length_take]; omega), ?_⟩
    generalize hu5 : upd _ D _ = H5
    obtain ⟨e5, hD5⟩ := Vc.chg hu5 hD3
    refine ⟨(e1.ex e3).one e5 (.inr nD), _, hD5, ?_⟩
    rw [take_suc hd]
    exact (StepsAt.edL hD3 e5 (StepsAt.ed0 e3 hS)).app (.cons (hp.edL hD3 e5) .nil)
  · obtain ⟨e1, ys, hD, hS⟩ := q
    rw [hO.len, List.take_of_length_le (Nat.le_refl _)] at hS
    exact k D ys H1 nD e1 hD hS
section
variable {w : World} {K : PySem.W.Frag} {mg : Str → Option Value} {base : Heap} {A : Ad}
theorem ok__law_step (T : Txt K mg A) : FnOk PG w K mg base CX0 7 A.f__law_step A.d__law_step ["_law_one"] (spLawStep A) := by
  have G_Syncu_initu := ok_Syncu_initu (w := w) (base := base) T
  have G_Passu_initu := ok_Passu_initu (w := w) (base := base) T
  have G_Writeu_initu := ok_Writeu_initu (w := w) (base := base) T
  refine T.F__law_step.ok sc__law_step (fun vs H Q E h => ?_) (fun cdv Ar outer s H vs Q E hr h => ?_)
  · obtain ⟨t, d, rfl, _⟩ := h
    rfl
  · obtain ⟨t, d, rfl, hO, hD, k⟩ := h
    refine ⟨_, (pss_cons (ps_if (pt_cmpR op_ne (pe_ix ix_tup (pv 0) pe_int (fun _ _ => rfl)) pe_str (nomark _)) (pss_one (ps_ret (pe_ifExp (pt_cmpR op_eq (pe_ix ix_tup (pv 0) pe_int (fun _ _ => rfl)) pe_str (nomark _)) (pe_make0 T.mk_Sync G_Syncu_initu (by exact hr.mono (by decide)) (by rfl) T.g_Sync T.b_Syncu_initu .nil pass0) (pe_make T.mk_Pass G_Passu_initu (by exact hr.mono (by decide)) (by rfl) T.g_Pass T.b_Passu_initu .nil pass0 (pa_cons (pe_ix ix_tup (pv 0) pe_int (fun _ _ => rfl)) pa_nil))))) pss_nil) (pss_cons (ps_par (i := 1) (j := 2) (by rfl) sc__law_step.nd rfl rfl (by decide) rfl rfl (pa_cons (pe_ix ix_tup (pv 0) pe_int (fun _ _ => rfl)) (pa_cons (pe_ix ix_tup (pv 0) pe_int (fun _ _ => rfl)) pa_nil)) (by rfl)) (pss_cons (ps_if (pt_cmpR op_lt (pe_callB call_len_seq (by rfl) T.n_len (by decide +kernel) (pa_cons (pv 2) pa_nil)) pe_int (nomark _)) (pss_one (ps_ret (pe_ifExp (pt_cmpR op_eq (pe_callB call_len_seq (by rfl) T.n_len (by decide +kernel) (pa_cons (pv 2) pa_nil)) pe_int (nomark _)) (Vc.pe_makeV T.mk_Write G_Writeu_initu (by exact hr.mono (by decide)) (by rfl) T.g_Write Vc.passSL (pa_cons (pv 1) (pa_cons (pe_ix ix_seq (pv 2) pe_int (fun _ _ => rfl)) pa_nil))) (Vc.pe_makeV T.mk_Write G_Writeu_initu (by exact hr.mono (by decide)) (by rfl) T.g_Write Vc.passSL (pa_cons (pv 1) (pa_cons (pe_ix ix_seq (pv 2) pe_int (fun _ _ => rfl)) (pa_cons (pe_ix ix_seq (pv 2) pe_int (fun _ _ => rfl)) pa_nil))))))) pss_nil) (pss_cons (ps_if (pt_cmpR op_eq (pe_callB call_len_seq (by rfl) T.n_len (by decide +kernel) (pa_cons (pv 2) pa_nil)) pe_int (nomark _)) (pss_one (ps_ret (Vc.pe_makeV T.mk_Write G_Writeu_initu (by exact hr.mono (by decide)) (by rfl) T.g_Write Vc.passSL (pa_cons (pv 1) (pa_cons (pe_ix ix_seq (pv 2) pe_int (fun _ _ => rfl)) (pa_cons (pe_ix ix_seq (pv 2) pe_int (fun _ _ => rfl)) (pa_cons (pe_ix ix_seq (pv 2) pe_int (fun _ _ => rfl)) pa_nil))))))) pss_nil) (pss_one (ps_ret (Vc.pe_makeV T.mk_Write G_Writeu_initu (by exact hr.mono (by decide)) (by rfl) T.g_Write Vc.passSL (pa_cons (pv 1) (pa_cons (pe_ix ix_seq (pv 2) pe_int (fun _ _ => rfl)) (pa_cons (pe_ix ix_seq (pv 2) pe_int (fun _ _ => rfl)) (pa_cons (pe_ix ix_seq (pv 2) pe_int (fun _ _ => rfl)) (pa_cons (pe_ix ix_seq (pv 2) pe_int (fun _ _ => rfl)) pa_nil)))))))))))), ?_⟩
    have ho := hO.at_
    match d, hD, ho with
    | .wr a ns, hD, ⟨g, ht, hg⟩ =>
      have n0 := wr_none hD
      obtain ⟨d1, d2, l1, l4, d5⟩ := hD
      have mk : ∀ (p px v : Addr) (H1 : Hp), H p = none → H px = none → px ≠ p → upd (upd H px (.own p)) p (.ins A.C_Write px []) = H1 → H1 v = none → ∀ E9, spWrite A [.ref p, .int a, .ref v] (upd H1 v (.tup (ns.map V.int))) (fun v H2 => v = .non ∧ Q (.ref p) H2) E9 := fun p px v H1 np npx ne hu nv E9 => by
        obtain ⟨e1, hp, _⟩ := Vc.allocI hu np npx ne
        generalize hu2 : upd _ v _ = H2
        obtain ⟨e2, hv⟩ := Vc.alloc hu2 nv
        refine ⟨p, px, v, a, ns, rfl, e2.at0 hp, hv, by omega, fun b i he => (by rw [n0] at he; cases he), fun he H' e hS => ⟨rfl, k p H' ((e1.ex e2).one e (.inr np)) np hS⟩⟩
      have hg : SqL K H g (ns.map V.int) ∨ SqT K H g (ns.map V.int) := .inr (.of hg)
      rcases ns with _ | ⟨n1, _ | ⟨n2, _ | ⟨n3, _ | ⟨n4, _ | ⟨n5, r⟩⟩⟩⟩⟩
      · exact absurd l1 (by decide)
      · walk_at "go"
        refine Vc.go_par ?_
        walk_at "go"
        refine ⟨_, _, rfl, ?_⟩
        walk_at "go"
        refine Vc.go_iteT' (by show (1 : Int) < 3; decide) ?_
        walk_at "go"
        refine Vc.go_iteT' (by show (1 : Int) = 1; rfl) ?_
        walk_at "go"
        refine go_ixG hg rfl ?_
        walk_at "go"
        intro p px np npx ne
        refine ⟨[.ref p, .int a], [.int n1], rfl, rfl, by show 1 ≤ sizeLine; decide, fun v nv => ?_⟩
        exact mk p px v _ np npx ne rfl nv _
      · walk_at "go"
        refine Vc.go_par ?_
        walk_at "go"
        refine ⟨_, _, rfl, ?_⟩
        walk_at "go"
        refine Vc.go_iteT' (by show (2 : Int) < 3; decide) ?_
        walk_at "go"
        refine Vc.go_iteF' (by show ¬ (2 : Int) = 1; decide) ?_
        walk_at "go"
        refine go_ixG hg rfl ?_
        walk_at "go"
        refine go_ixG hg rfl ?_
        walk_at "go"
        intro p px np npx ne
        refine ⟨[.ref p, .int a], [.int n1, .int n2], rfl, rfl, by show 2 ≤ sizeLine; decide, fun v nv => ?_⟩
        exact mk p px v _ np npx ne rfl nv _
      · walk_at "go"
        refine Vc.go_par ?_
        walk_at "go"
        refine ⟨_, _, rfl, ?_⟩
        walk_at "go"
        refine Vc.go_iteF' (by show ¬ (3 : Int) < 3; decide) ?_
        walk_at "go"
        refine Vc.go_iteT' (by show (3 : Int) = 3; rfl) ?_
        walk_at "go"
        refine go_ixG hg rfl ?_
        walk_at "go"
        refine go_ixG hg rfl ?_
        walk_at "go"
        refine go_ixG hg rfl ?_
        walk_at "go"
        intro p px np npx ne
        refine ⟨[.ref p, .int a], [.int n1, .int n2, .int n3], rfl, rfl, by show 3 ≤ sizeLine; decide, fun v nv => ?_⟩
        exact mk p px v _ np npx ne rfl nv _
      · walk_at "go"
        refine Vc.go_par ?_
        walk_at "go"
        refine ⟨_, _, rfl, ?_⟩
        walk_at "go"
        refine Vc.go_iteF' (by show ¬ (4 : Int) < 3; decide) ?_
        walk_at "go"
        refine Vc.go_iteF' (by show ¬ (4 : Int) = 3; decide) ?_
        walk_at "go"
        refine go_ixG hg rfl ?_
        walk_at "go"
        refine go_ixG hg rfl ?_
        walk_at "go"
        refine go_ixG hg rfl ?_
        walk_at "go"
        refine go_ixG hg rfl ?_
        walk_at "go"
        intro p px np npx ne
        refine ⟨[.ref p, .int a], [.int n1, .int n2, .int n3, .int n4], rfl, rfl, by show 4 ≤ sizeLine; decide, fun v nv => ?_⟩
        exact mk p px v _ np npx ne rfl nv _
      · simp only [List.length_cons] at l4
        omega
    | .sy, hD, ht =>
      have ht : H t = some (.tup [.str "sync"]) := ht
      walk_at "go"
      refine Vc.go_itenT' (by decide +kernel) ?_
      walk_at "go"
      intro p px np npx ne
      generalize hu1 : upd _ p _ = H1
      obtain ⟨e1, hp1, _⟩ := Vc.allocI hu1 np npx ne
      exact ⟨p, px, rfl, hp1, fun H' e hS => ⟨rfl, k p _ (e1.one e (.inr np)) np hS⟩⟩
    | .ps s, hD, ht =>
      have ht : H t = some (.tup [.str "pass", .int s]) := ht
      walk_at "go"
      refine Vc.go_itenT' (by decide +kernel) ?_
      walk_at "go"
      refine Vc.go_iteF' (by decide +kernel) ?_
      walk_at "go"
      intro p px np npx ne
      generalize hu1 : upd _ p _ = H1
      obtain ⟨e1, hp1, _⟩ := Vc.allocI hu1 np npx ne
      exact ⟨p, px, s, rfl, hp1, fun H' e hS => ⟨rfl, k p _ (e1.one e (.inr np)) np hS⟩⟩
end

end My
namespace My
open PySem PySem.Spec PyProof.Rows L2
/-! ### numbers and lines of texts that are right -/
def numS (n : Int) : Str := Str.ofString (toString n)
theorem numS_nat {n : Int} (h : 0 ≤ n) : ∃ m : Nat, n = m ∧ (numS n).cps.toList = TL.numL m := by
  obtain ⟨m, rfl⟩ : ∃ m : Nat, n = m := ⟨n.toNat, by omega⟩
  exact ⟨m, rfl, TL.tl_num m⟩
theorem numS_dig {n : Int} (h : 0 ≤ n) : ∀ c ∈ (numS n).cps.toList, 48 ≤ c ∧ c ≤ 57 := by
  obtain ⟨m, rfl, e⟩ := numS_nat h
  rw [e]
  exact TL.numL_digits m
theorem numS_ok (i : Fin 256) : 1 ≤ (numS (i.val : Int)).length ∧ (numS (i.val : Int)).length ≤ 3 ∧ (decide (numS (i.val : Int) = "0") || (match (numS (i.val : Int)).cps.toList with | c :: _ => decide (c ≠ 48) | [] => false)) = true := by
  revert i
  decide +kernel
theorem numS_len {n : Int} (h : 0 ≤ n) (h2 : n ≤ 255) : 1 ≤ (numS n).length ∧ (numS n).length ≤ 3 := by
  have := numS_ok ⟨n.toNat, by omega⟩
  rw [show ((⟨n.toNat, by omega⟩ : Fin 256).val : Int) = n by simp; omega] at this
  exact ⟨this.1, this.2.1⟩
theorem numS_hd {n : Int} (h : 0 ≤ n) (h2 : n ≤ 255) (h3 : numS n ≠ "0") : ∃ c r, (numS n).cps.toList = c :: r ∧ c ≠ 48 := by
  have := (numS_ok ⟨n.toNat, by omega⟩).2.2
  rw [show ((⟨n.toNat, by omega⟩ : Fin 256).val : Int) = n by simp; omega] at this
  rw [decide_eq_false h3, Bool.false_or] at this
  cases e : (numS n).cps.toList with
  | nil => rw [e] at this; cases this
  | cons c r =>
    rw [e] at this
    exact ⟨c, r, rfl, of_decide_eq_true this⟩
theorem numS_int {n : Int} (h : 0 ≤ n) (h2 : n ≤ 255) : PySem.intText? (numS n) = some n := by
  obtain ⟨m, rfl, e⟩ := numS_nat h
  refine TL.int_num (n := m) (Nat.le_trans (TL.numL_len (k := 3) (by decide) (by omega)) (by decide))
inductive Stand : Str → Str → Prop
  | num {n : Int} : 0 ≤ n → n ≤ 255 → Stand (numS n) "n"
  | wr : Stand "write" "=write"
  | ps : Stand "pass" "=pass"
  | sy : Stand "sync" "=sync"
  | no : Stand "none" "=none"
inductive Stands : List Str → List Str → Prop
  | nil : Stands [] []
  | cons {w k : Str} {ws ks : List Str} : Stand w k → Stands ws ks → Stands (w :: ws) (k :: ks)
theorem Stands.len {ws ks : List Str} (h : Stands ws ks) : ws.length = ks.length := by
  induction h with
  | nil => rfl
  | cons _ _ ih => rw [List.length_cons, List.length_cons, ih]
theorem Stands.at_ {ws ks : List Str} (h : Stands ws ks) : ∀ {i : Nat} {k : Str}, ks[i]? = some k → ∃ w, ws[i]? = some w ∧ Stand w k := by
  induction h with
  | nil => intro i k h; simp at h
  | cons a _ ih =>
    intro i k h
    cases i with
    | zero =>
      rw [List.getElem?_cons_zero] at h
      cases h
      exact ⟨_, rfl, a⟩
    | succ i =>
      rw [List.getElem?_cons_succ] at h
      obtain ⟨w, e, s⟩ := ih h
      exact ⟨w, by rw [List.getElem?_cons_succ]; exact e, s⟩
def spIsNum : Sp := fun vs H Q _ => ∃ n : Int, vs = [.str (numS n)] ∧ 0 ≤ n ∧ n ≤ 255 ∧ ∀ H', Vc.Ed [] H H' → Q (.bl true) H'
def spStands : Sp := fun vs H Q _ => ∃ w k : Str, vs = [.str w, .str k] ∧ Stand w k ∧ ∀ H', Vc.Ed [] H H' → Q (.bl true) H'
def spCheckLine (K : PySem.W.Frag) : Sp := fun vs H Q _ => ∃ (n : Int) (a b : Addr) (ws ks : List Str), vs = [.int n, .ref a, .ref b] ∧ SqL K H a (ws.map V.str) ∧ SqL K H b (ks.map V.str) ∧ Stands ws ks ∧ ∀ H', Vc.Ed [] H H' → Q .non H'
def spReadNums (K : PySem.W.Frag) : Sp := fun vs H Q _ => ∃ (n : Int) (a : Addr) (w1 w2 : Str) (ns : List Int), vs = [.int n, .ref a, .int 2, .int 1, .bl false] ∧ SqL K H a ((w1 :: w2 :: ns.map numS).map V.str) ∧ (∀ x ∈ ns, 0 ≤ x ∧ x ≤ 255) ∧ 1 ≤ ns.length ∧ ns.length ≤ 20 ∧
  ∀ p H', Vc.Ed [] H H' → H p = none → H' p = some (.lst (ns.map V.int)) → Q (.ref p) H'
def spSplitLines : Sp := fun vs H Q _ => ∃ z : Str, vs = [.str z] ∧ z.length ≤ 100000 ∧ (∀ l ∈ Txt.split z "\n", l.length ≤ 100000) ∧ (Txt.split z "\n").length ≤ 900 ∧ ∀ p (as : List Addr) H', Vc.Ed [] H H' → H p = none → H' p = some (.lst (as.map V.ref)) → as.length = (Txt.split z "\n").length →
  (∀ (i : Nat) (a : Addr) (l : Str), as[i]? = some a → (Txt.split z "\n")[i]? = some l → H' a = some (.lst ((Txt.split l " ").map V.str))) → Q (.ref p) H'
section
variable {P : Program} {w : World} {K : PySem.W.Frag} {mg : Str → Option Value} {base : Heap} {A : Ad}
theorem ok_is_number (T : Txt K mg A) : FnOk P w K mg base CX0 1 A.f_is_number A.d_is_number ["word"] spIsNum := by
  obtain ⟨_, gc_MOST_DIGITS⟩ := T.g_MOST_DIGITS
  obtain ⟨_, gc_MOST_NUMBER⟩ := T.g_MOST_NUMBER
  obtain ⟨_, gc_DIGITS⟩ := T.g_DIGITS
  refine T.F_is_number.ok sc_is_number (fun vs H Q E h => ?_) (fun cdv Ar outer s H vs Q E hr h => ?_)
  · obtain ⟨n, rfl, _⟩ := h
    rfl
  · obtain ⟨n, rfl, n0, n1, k⟩ := h
    obtain ⟨l1, l3⟩ := numS_len n0 n1
    have dg := numS_dig n0
    have ez := numS_int n0 n1
    have hd := numS_hd n0 n1
    revert l1 l3 dg ez hd
    generalize numS n = z
    intro l1 l3 dg ez hd
    have l9 : z.length ≤ 1000 := by omega
    have l6 : z.length ≤ 640 := by omega
    refine ⟨_, (pss_cons (ps_if (PW.pt (pw_or (pt_cmpR op_lt (pe_callB call_len_str (by rfl) T.n_len (by decide +kernel) (pa_cons (pv 0) pa_nil)) pe_int (nomark _)) (pw_or (pt_cmpR op_gt (pe_callB call_len_str (by rfl) T.n_len (by decide +kernel) (pa_cons (pv 0) pa_nil)) (pe_glob (v := .int 3) (by rfl) gc_MOST_DIGITS ⟨_, rfl⟩) (nomark _)) (pw_or1 (pt_not (pt_val (pe_callB (cr_all rfl) (by rfl) T.n_all (by decide +kernel) (pa_cons (pe_lc (own := [("sign", 1)]) (g := gName 1) rfl sc_is_number.nd (pi_str (pv 0)) (blkOk_by (own := [("sign", 1)]) (N := ["word", "sign"]) (sc := defScope s_is_number) (by decide +kernel)) (fun _ _ _ _ _ => by exact (pg_name (i := 1) sc_is_number.nd rfl (Or.inl rfl))) (fun _ _ _ _ _ => by exact pts_nil) (fun _ _ _ _ _ => by (refine' Vc.blkE ?h ?q; (case h => exact (pe_cmpR op_in_sign (pv 1) (pe_glob (v := .str "0123456789") (by rfl) gc_DIGITS ⟨_, rfl⟩) rfl)); (case q => first | exact rfl | (dsimp only; done) | (dsimp only; exact rfl))))) pa_nil)))))))) (pss_one (ps_ret pe_bl)) pss_nil) (pss_one (ps_ret (pe_or (pe_cmpR op_eq (pv 0) pe_str (nomark _)) (pe_one (pe_and (pe_cmpR op_ne (pe_ix ix_str (pv 0) pe_int (fun _ _ => rfl)) pe_str (nomark _)) (pe_one (pe_cmpR op_le (pe_callTy call_int_str (by rfl) T.n_int (by decide +kernel) (pa_cons (pv 0) pa_nil)) (pe_glob (v := .int 255) (by rfl) gc_MOST_NUMBER ⟨_, rfl⟩) (nomark _))))))))), ?_⟩
    walk_at "go"
    refine Vc.go_iteF' (by omega) ?_
    walk_at "go"
    refine Vc.go_iteF' (by omega) ?_
    walk_at "go"
    refine Vc.lc_by walk_str (fun L i H' => Vc.Ed [] H H' ∧ H' L = some (.lst (((z.cps.toList.take i).map fun _ => true).map V.bl))) (fun L H2 nL e hL => ⟨e, hL⟩) (fun _ _ _ _ _ _ => trivial) ?_ ?_
    · rintro L i x H1 H' nL hi ⟨e1, hL⟩ ⟨rfl, c, hc, rfl⟩
      have hc' : z.cps.toList[i]? = some c := by rw [Array.getElem?_toList]; exact hc
      have dc : decide (c ∈ ("0123456789" : Str).cps.toList) = true := by
        have hd := dg c (List.mem_of_getElem? hc')
        have e : ("0123456789" : Str).cps.toList = [48, 49, 50, 51, 52, 53, 54, 55, 56, 57] := by decide +kernel
        rw [e]
        refine decide_eq_true ?_
        simp only [List.mem_cons, List.not_mem_nil, or_false]
        omega
      walk_at "go"
      refine ⟨rfl, ?_⟩
      walk_at "go"
      refine ⟨_, hL, by rw [List.length_map, List.length_map, List.length_take]; exact small1000 (by have : z.cps.size = z.length := rfl; omega), ?_⟩
      rw [dc]
      generalize hu : upd _ L _ = H2
      obtain ⟨e2, hL2⟩ := Vc.chg hu hL
      refine ⟨by walk_at "ed", ?_⟩
      rw [hL2, List.take_add_one, hc', List.map_append, List.map_append]; rfl
    rintro L H' nL ⟨e1, hL⟩
    walk_at "go"
    refine ⟨L, (z.cps.toList.take z.cps.size).map fun _ => true, rfl, SqL.of hL, ?_⟩
    have e : ((z.cps.toList.take z.cps.size).map fun _ => true).all id = true := by
      rw [List.all_map, List.all_eq_true]
      exact fun _ _ => rfl
    rw [e]
    walk_at "go"
    by_cases h0 : z = "0"
    · rw [decide_eq_true h0]
      walk_at "go"
      exact k _ e1
    · obtain ⟨c, r, hz, c0⟩ := hd h0
      rw [decide_eq_false h0]
      have z0 : atI z.cps.toList 0 = some c := atI_nat (by rw [hz]; rfl)
      walk_at "go"
      have nc : ¬ ((⟨#[c]⟩ : Str) = "0") := fun h => c0 (by
        have := congrArg (fun s : Str => s.cps.toList) h
        have e1 : ("0" : Str).cps.toList = [48] := by decide +kernel
        simp only [e1] at this
        exact (List.cons.inj this).1)
      rw [decide_eq_false nc]
      walk_at "go"
      refine ⟨z, n, rfl, ez, l6, ?_⟩
      walk_at "go"
      rw [decide_eq_true n1]
      exact k _ e1
theorem ok_stands (T : Txt K mg A) : FnOk P w K mg base CX0 2 A.f_stands A.d_stands ["word", "kind"] spStands := by
  have G_is_number := ok_is_number (P := P) (w := w) (base := base) T
  refine T.F_stands.ok sc_stands (fun vs H Q E h => ?_) (fun cdv Ar outer s H vs Q E hr h => ?_)
  · obtain ⟨w, k, rfl, _⟩ := h
    rfl
  · obtain ⟨z, c, rfl, hS, k⟩ := h
    refine ⟨_, (pss_cons (ps_if (pt_cmpR op_eq (pv 1) pe_str (nomark _)) (pss_one (ps_ret (pe_call G_is_number (by exact hr.mono (by decide)) (by rfl) T.g_is_number T.F_is_number.kp T.b_is_number .nil pass0 (pa_cons (pv 0) pa_nil)))) pss_nil) (pss_cons (ps_if (pt_cmpR op_eq (pv 1) pe_str (nomark _)) (pss_one (ps_ret (pe_cmpR op_ne (pv 0) pe_str (nomark _)))) pss_nil) (pss_one (ps_ret (pe_cmpR op_eq (pv 0) (pe_slice sl_str (pv 1) (po_some pe_int) po_none) (nomark _)))))), ?_⟩
    cases hS with
    | num n0 n1 =>
      walk_at "go"
      exact ⟨_, rfl, n0, n1, k⟩
    | wr =>
      walk_at "go"
      refine Vc.go_iteF' (by decide +kernel) ?_
      walk_at "go"
      refine Vc.go_iteF' (by decide +kernel) ?_
      walk_at "go"
      rw [show cutS "=write" (some 1) none = "write" by decide +kernel, decide_eq_true rfl]
      exact k _ .refl
    | ps =>
      walk_at "go"
      refine Vc.go_iteF' (by decide +kernel) ?_
      walk_at "go"
      refine Vc.go_iteF' (by decide +kernel) ?_
      walk_at "go"
      rw [show cutS "=pass" (some 1) none = "pass" by decide +kernel, decide_eq_true rfl]
      exact k _ .refl
    | sy =>
      walk_at "go"
      refine Vc.go_iteF' (by decide +kernel) ?_
      walk_at "go"
      refine Vc.go_iteF' (by decide +kernel) ?_
      walk_at "go"
      rw [show cutS "=sync" (some 1) none = "sync" by decide +kernel, decide_eq_true rfl]
      exact k _ .refl
    | no =>
      walk_at "go"
      refine Vc.go_iteF' (by decide +kernel) ?_
      walk_at "go"
      refine Vc.go_iteF' (by decide +kernel) ?_
      walk_at "go"
      rw [show cutS "=none" (some 1) none = "none" by decide +kernel, decide_eq_true rfl]
      exact k _ .refl
theorem ok_check_line (T : Txt K mg A) : FnOk P w K mg base CX0 3 A.f_check_line A.d_check_line ["line", "words", "kinds"] (spCheckLine K) := by
  have G_stands := ok_stands (P := P) (w := w) (base := base) T
  refine T.F_check_line.ok sc_check_line (fun vs H Q E h => ?_) (fun cdv Ar outer s H vs Q E hr h => ?_)
  · obtain ⟨n, a, b, ws, ks, rfl, _⟩ := h
    rfl
  · obtain ⟨n, a, b, ws, ks, rfl, ha, hb, hS, k⟩ := h
    have hl := hS.len
    refine ⟨_, (pss_cons (ps_for PassesOwn.never rfl (pi_enum (by rfl) T.n_enumerate (pa_cons (pv 2) pa_nil)) (pg_tup rfl (pgs_cons (pg_name (i := 3) sc_check_line.nd rfl (Or.inl rfl)) (pgs_cons (pg_name (i := 4) sc_check_line.nd rfl (Or.inl rfl)) pgs_nil))) (pss_one (ps_if (PW.pt (pw_or (pt_cmpR op_ge (pv 3) (pe_callB call_len_seq (by rfl) T.n_len (by decide +kernel) (pa_cons (pv 1) pa_nil)) (nomark _)) (pw_or1 (pt_not (pt_val (pe_call G_stands (by exact hr.mono (by decide)) (by rfl) T.g_stands T.F_stands.kp T.b_stands .nil pass0 (pa_cons (pe_ix ix_list (pv 1) (pv 3) (fun _ _ => rfl)) (pa_cons (pv 4) pa_nil)))))))) (pss_one ps_never) pss_nil))) (pss_one (ps_if (pt_cmpR op_gt (pe_callB call_len_seq (by rfl) T.n_len (by decide +kernel) (pa_cons (pv 1) pa_nil)) (pe_callB call_len_seq (by rfl) T.n_len (by decide +kernel) (pa_cons (pv 2) pa_nil)) (nomark _)) (pss_one ps_never) pss_nil))), ?_⟩
    walk_at "go"
    show tCons (tVar 2) tNil _ H _
    walk_at "go"
    refine ⟨b, _, rfl, hb, for_it walk_enum (fun i σ H' => (∃ y z : Option V, σ = [some (.int n), some (.ref a), some (.ref b), y, z]) ∧ Vc.Ed [] H H') ⟨⟨_, _, rfl⟩, .refl⟩ (fun i σ' H' _ h => h.2.sql0 hb) (fun i v σ' H' H2 hi hp hy => ?_) fun σ' H' hp => ?_⟩
    · obtain ⟨⟨y, z, rfl⟩, e⟩ := hp
      obtain ⟨t, x, c, rfl, nt, rfl, hx, hc⟩ := hy
      cases hx
      have hc : (ks.map V.str)[i]? = some c := hc
      rw [List.getElem?_map] at hc
      obtain ⟨kw, hk, rfl⟩ := Option.map_eq_some_iff.mp hc
      obtain ⟨wd, hw, st⟩ := hS.at_ hk
      have li := (List.getElem?_eq_some_iff.mp hw).1
      have hv : atI (ws.map V.str) ((i : Nat) : Int) = some (.str wd) := at_of (j := i) (by omega) (by rw [List.getElem?_map, hw]; rfl)
      generalize hu : upd _ t _ = H3
      obtain ⟨e3, ht⟩ := Vc.alloc hu nt
      have ha3 : SqL K H3 a (ws.map V.str) := (e.ex e3).sql0 ha
      refine ⟨t, _, rfl, .of ht, rfl, _, _, rfl, ?_⟩
      walk_at "go"
      refine ⟨_, _, rfl, ?_⟩
      walk_at "go"
      refine ⟨rfl, ?_⟩
      walk_at "go"
      refine Vc.go_iteF' (by rw [List.length_map]; omega) ?_
      walk_at "go"
      refine ⟨_, _, rfl, st, fun H4 e4 => ?_⟩
      walk_at "go"
      exact ⟨⟨_, _, rfl⟩, (e.ex e3).ex e4⟩
    · obtain ⟨⟨y, z, rfl⟩, e⟩ := hp
      have ha3 : SqL K H' a (ws.map V.str) := e.sql0 ha
      have hb3 : SqL K H' b (ks.map V.str) := e.sql0 hb
      walk_at "go"
      refine Vc.go_iteF' (by rw [List.length_map, List.length_map]; omega) ?_
      walk_at "go"
      exact k H' e
theorem ok_read_numbers (T : Txt K mg A) : FnOk P w K mg base CX0 2 A.f_read_numbers A.d_read_numbers ["line", "words", "low", "least", "ascending"] (spReadNums K) := by
  have G_is_number := ok_is_number (P := P) (w := w) (base := base) T
  refine T.F_read_numbers.ok sc_read_numbers (fun vs H Q E h => ?_) (fun cdv Ar outer s H vs Q E hr h => ?_)
  · obtain ⟨n, a, w1, w2, ns, rfl, _⟩ := h
    rfl
  · obtain ⟨n, a, w1, w2, ns, rfl, ha, hn, l1, l20, k⟩ := h
    refine ⟨_, (pss_cons (ps_set (i := 5) sc_read_numbers.nd rfl (Or.inl rfl) (pe_lst pa_nil)) (pss_cons (ps_for (passes_of rfl) rfl (pi_range2 (by rfl) T.n_range (pa_cons (pv 2) (pa_cons (pe_callB call_len_seq (by rfl) T.n_len (by decide +kernel) (pa_cons (pv 1) pa_nil)) pa_nil))) (pg_name (i := 6) sc_read_numbers.nd rfl (Or.inl rfl)) (pss_cons (ps_if (pt_not (pt_val (pe_call G_is_number (by exact hr.mono (by decide)) (by rfl) T.g_is_number T.F_is_number.kp T.b_is_number .nil pass0 (pa_cons (pe_ix ix_list (pv 1) (pv 6) (fun _ _ => rfl)) pa_nil)))) (pss_one ps_never) pss_nil) (pss_cons (ps_set (i := 7) sc_read_numbers.nd rfl (Or.inl rfl) (pe_callTy call_int_str (by rfl) T.n_int (by decide +kernel) (pa_cons (pe_ix ix_list (pv 1) (pv 6) (fun _ _ => rfl)) pa_nil))) (pss_cons (ps_if (PW.pt (pw_and (pt_val (pv 4)) (pw_and (pt_cmpR op_gt (pe_callB call_len_seq (by rfl) T.n_len (by decide +kernel) (pa_cons (pv 5) pa_nil)) pe_int (nomark _)) (pw_and1 (pt_cmpR op_le (pv 7) (pe_ix ix_list (pv 5) (pe_un un_neg pe_int) (fun _ _ => rfl)) (nomark _)))))) (pss_one ps_never) pss_nil) (pss_one (ps_expr (pe_bm PySem.F.plainAttrs_list PySem.F.slot_list_append PySem.F.type_list_append mt_append (pv 5) (pa_cons (pv 7) pa_nil)))))))) (pss_cons (ps_if (pt_cmpR op_lt (pe_callB call_len_seq (by rfl) T.n_len (by decide +kernel) (pa_cons (pv 5) pa_nil)) (pv 3) (nomark _)) (pss_one ps_never) pss_nil) (pss_one (ps_ret (pv 5)))))), ?_⟩
    walk_at "go"
    intro L nL
    generalize hu1 : upd _ L _ = H1
    obtain ⟨e1, hL⟩ := Vc.alloc hu1 nL
    have ha1 : SqL K H1 a ((w1 :: w2 :: ns.map numS).map V.str) := e1.sql0 ha
    have ll : ((w1 :: w2 :: ns.map numS).map V.str).length = ns.length + 2 := by simp
    have naL : ∀ H', Vc.Ed [] H1 H' → True := fun _ _ => trivial
    walk_at "go"
    rw [ll]
    refine ⟨2, _, rfl, ⟨by omega, by omega, by omega, by omega⟩, for_it walk_range (fun i σ H' => (∃ y z : Option V, σ = [some (.int n), some (.ref a), some (.int 2), some (.int 1), some (.bl false), some (.ref L), y, z]) ∧ Vc.Ed [] H H' ∧ H' L = some (.lst ((ns.take i).map V.int))) ⟨⟨_, _, rfl⟩, e1, hL⟩ (fun _ _ _ _ _ => trivial) (fun i v σ' H' H2 hi hp hy => ?_) fun σ' H' hp => ?_⟩
    · obtain ⟨⟨y, z, rfl⟩, e, hL'⟩ := hp
      obtain ⟨rfl, rfl⟩ := hy
      have hi : i < ns.length := by
        have : i < (((ns.length : Nat) + 2 : Int) - 2).toNat := hi
        omega
      obtain ⟨x, hx⟩ : ∃ x, ns[i]? = some x := ⟨_, List.getElem?_eq_getElem hi⟩
      obtain ⟨x0, x1⟩ := hn x (List.mem_of_getElem? hx)
      have hv : atI ((w1 :: w2 :: ns.map numS).map V.str) (2 + (i : Int)) = some (.str (numS x)) := at_of (j := i + 2) (by omega) (by
        rw [List.map_cons, List.map_cons, List.getElem?_cons_succ, List.getElem?_cons_succ, List.getElem?_map, List.getElem?_map, hx]; rfl)
      have ha2 : SqL K H2 a ((w1 :: w2 :: ns.map numS).map V.str) := e.sql0 ha
      walk_at "go"
      refine ⟨x, rfl, x0, x1, fun H3 e3 => ?_⟩
      have ha3 : SqL K H3 a ((w1 :: w2 :: ns.map numS).map V.str) := (e.ex e3).sql0 ha
      have hL3 := e3.at0 hL'
      walk_at "go"
      refine ⟨_, x, rfl, numS_int x0 x1, by have := (numS_len x0 x1).2; omega, ?_⟩
      walk_at "go"
      refine Vc.go_append hL3 (by rw [List.length_map, List.length_take]; omega) ?_
      generalize hu4 : upd _ L _ = H4
      obtain ⟨e4, hL4⟩ := Vc.chg hu4 hL3
      refine ⟨⟨_, _, rfl⟩, (e.ex e3).one e4 (.inr nL), ?_⟩
      rw [hL4, List.take_add_one, hx, List.map_append]
      rfl
    · obtain ⟨⟨y, z, rfl⟩, e, hL'⟩ := hp
      have e2 : (((ns.length + 2 : Nat) : Int) - 2).toNat = ns.length := by omega
      rw [e2, List.take_of_length_le (Nat.le_refl _)] at hL'
      walk_at "go"
      refine Vc.go_iteF' (by rw [List.length_map]; omega) ?_
      walk_at "go"
      exact k L H' e nL hL'
end

end My
namespace My
open PySem PySem.Spec PyProof.Rows L2
def gkb_read_numbers_3_least {α : Type} (us mv ws : List α) : List α := match us, mv, ws with
  | [u0, u1, u2], [m0], [w0] => [u0, u1, u2, w0, m0]
  | _, _, _ => []
theorem kb_read_numbers_3_least {K : PySem.W.Frag} {A : Ad} {f : Addr} {fd : FuncData} (F : FunD K "read_numbers" "read_numbers" (defArgs s_read_numbers) (defBody s_read_numbers) (defScope s_read_numbers) [] [("least", .int 0), ("ascending", .bl false)] f fd) : ∃ mv : List Value, KBn K fd ["line", "words", "low", "least", "ascending"] 3 ["least"] (fun us ws => gkb_read_numbers_3_least us mv ws) (fun vs zs => gkb_read_numbers_3_least vs ([("ascending", .bl false)].map (·.2)) zs) := by
  refine F.kbinds0 (ps := ["line", "words", "low", "least", "ascending"]) 3 ["least"] [("ascending", .bl false)] gkb_read_numbers_3_least (by simp) (by intro q hq; revert hq; simp only [List.mem_cons, List.not_mem_nil, or_false]; intro hq; first | (rcases hq with rfl | rfl | rfl | rfl <;> simp) | (rcases hq with rfl | rfl | rfl <;> simp) | (rcases hq with rfl | rfl <;> simp) | (subst hq; simp) | exact hq.elim) (fun {vs mz zs us mv ws} r rm rz => ?_) (fun D doc pm an cdv ct us mv ws l1 l2 l3 => ?_)
  · rcases r with _ | ⟨hu0, _ | ⟨hu1, _ | ⟨hu2, _ | ⟨_, _⟩⟩⟩⟩ <;> rcases rm with _ | ⟨hm0, _ | ⟨_, _⟩⟩ <;> rcases rz with _ | ⟨hw0, _ | ⟨_, _⟩⟩ <;> first | exact .nil | exact (.cons hu0 (.cons hu1 (.cons hu2 (.cons hw0 (.cons hm0 .nil)))))
  · match us, mv, ws, l1, l2, l3 with
    | [_, _, _], [_], [_], _, _, _ => exact ⟨_, _, _, _, _, _, rfl, rfl, rfl⟩
/-! ### a plan's text, read -/
def SD.nums : SD → List Int
  | .wr a vs => a :: vs
  | .sy => []
  | .ps s => [s]
theorem ws_kind : ∀ d : SD, d.ws = d.kind :: d.nums.map numS
  | .wr _ _ => rfl
  | .sy => rfl
  | .ps _ => rfl
/-- what a text may hold -/
def SD.Rd : SD → Prop
  | .wr a vs => 0 ≤ a ∧ a ≤ 23 ∧ 1 ≤ vs.length ∧ vs.length ≤ 16 ∧ ∀ v ∈ vs, 0 ≤ v ∧ v ≤ 255
  | .sy => True
  | .ps s => 0 ≤ s ∧ s ≤ 255
theorem SD.Dr.rd : ∀ {d : SD}, d.Dr → d.Rd
  | .wr a vs, ⟨h1, h2, h3, h4, h5⟩ => ⟨h1, by omega, h3, by omega, fun v hv => by have := h5 v hv; omega⟩
  | .sy, _ => trivial
  | .ps s, ⟨h1, h2⟩ => ⟨h1, by omega⟩
def spReadParts (K : PySem.W.Frag) : Sp := fun vs H Q _ => ∃ (n : Int) (a : Addr) (d : SD), vs = [.int n, .ref a] ∧ SqL K H a (d.ws.map V.str) ∧ d.Rd ∧ ∀ t l H', Vc.Ed [] H H' → H l = none → H' t = some (.tup [.str d.kind, .ref l]) → H' l = some (.lst (d.nums.map V.int)) → Q (.ref t) H'
def spStepOf (A : Ad) : Sp := fun vs H Q _ => ∃ (l : Addr) (d : SD), vs = [.str d.kind, .ref l] ∧ H l = some (.lst (d.nums.map V.int)) ∧ d.Rd ∧ ∀ p H', Vc.Ed [] H H' → H p = none → StepAt A H' p d → Q (.ref p) H'
/-- the text of some steps -/
def planText (ds : List SD) : Str := Txt.join "\n" (ds.map SD.text)
theorem ws_free : ∀ {d : SD}, d.Rd → ∀ z ∈ d.ws, ∀ c ∈ z.cps.toList, c ≠ 32 ∧ c ≠ 10
  | .wr a vs, ⟨d1, d2, d3, d4, d5⟩, z, h, c, hc => by
    rcases List.mem_cons.mp h with rfl | h
    · have e : ("write" : Str).cps.toList = [119, 114, 105, 116, 101] := by decide +kernel
      rw [e] at hc
      simp only [List.mem_cons, List.not_mem_nil, or_false] at hc
      omega
    rcases List.mem_cons.mp h with rfl | h
    · have := numS_dig d1 c hc
      omega
    · obtain ⟨n, hn, rfl⟩ := List.mem_map.mp h
      have := numS_dig (d5 n hn).1 c hc
      omega
  | .sy, _, z, h, c, hc => by
    rw [List.mem_singleton.mp h] at hc
    have e : ("sync" : Str).cps.toList = [115, 121, 110, 99] := by decide +kernel
    rw [e] at hc
    simp only [List.mem_cons, List.not_mem_nil, or_false] at hc
    omega
  | .ps s, ⟨d1, d2⟩, z, h, c, hc => by
    rcases List.mem_cons.mp h with rfl | h
    · have e : ("pass" : Str).cps.toList = [112, 97, 115, 115] := by decide +kernel
      rw [e] at hc
      simp only [List.mem_cons, List.not_mem_nil, or_false] at hc
      omega
    · rw [List.mem_singleton.mp h] at hc
      have := numS_dig d1 c hc
      omega
theorem ws_ne : ∀ d : SD, d.ws ≠ []
  | .wr _ _ => by simp [SD.ws]
  | .sy => by simp [SD.ws]
  | .ps _ => by simp [SD.ws]
theorem split_text {d : SD} (h : d.Rd) : Txt.split d.text " " = d.ws :=
  TL.split_join (y := " ") (s := 32) (S := []) (by decide +kernel) (by decide +kernel) (ws_ne d) fun z hz hc => (ws_free h z hz 32 hc).1 rfl
theorem mem_join {S : List Nat} {c : Nat} : ∀ {l : List (List Nat)}, c ∈ TL.joinL S l → c ∈ S ∨ ∃ p ∈ l, c ∈ p
  | [], h => nomatch h
  | [p], h => .inr ⟨p, List.mem_singleton.mpr rfl, h⟩
  | p :: q :: r, h => by
    have h : c ∈ p ++ (S ++ TL.joinL S (q :: r)) := h
    rcases List.mem_append.mp h with h | h
    · exact .inr ⟨p, List.mem_cons_self, h⟩
    · rcases List.mem_append.mp h with h | h
      · exact .inl h
      · rcases mem_join h with h | ⟨x, hx, h⟩
        · exact .inl h
        · exact .inr ⟨x, List.mem_cons_of_mem _ hx, h⟩
theorem text_free {d : SD} (h : d.Rd) : (10 : Nat) ∉ d.text.cps.toList := fun hc => by
  have e : d.text.cps.toList = TL.joinL ((" " : Str).cps.toList) (d.ws.map fun z : Str => z.cps.toList) := by
    have := TL.tl_join " " d.ws
    rw [← TL.join_eq] at this
    exact this
  rw [e] at hc
  rcases mem_join hc with hc | ⟨p, hp, hc⟩
  · have e : (" " : Str).cps.toList = [32] := by decide +kernel
    rw [e] at hc
    simp at hc
  · obtain ⟨z, hz, rfl⟩ := List.mem_map.mp hp
    exact (ws_free h z hz 10 hc).2 rfl
theorem split_plan {ds : List SD} (h : ∀ d ∈ ds, d.Rd) (ne : ds ≠ []) : Txt.split (planText ds) "\n" = ds.map SD.text :=
  TL.split_join (y := "\n") (s := 10) (S := []) (by decide +kernel) (by decide +kernel) (fun z => ne (List.map_eq_nil_iff.mp z)) fun z hz hc => by
    obtain ⟨d, hd, rfl⟩ := List.mem_map.mp hz
    exact text_free (h d hd) hc
theorem SD.Rd.sm : ∀ {d : SD}, d.Rd → d.Sm
  | .wr a vs, ⟨h1, h2, _, h4, h5⟩ => ⟨show a.natAbs < 10 ^ 40 by omega, show vs.length ≤ 20 by omega, fun v hv => by have := h5 v hv; omega⟩
  | .sy, _ => trivial
  | .ps s, ⟨h1, h2⟩ => show s.natAbs < 10 ^ 40 by omega
theorem planText_len {ds : List SD} (h : ∀ d ∈ ds, d.Rd) (l : ds.length ≤ 90) : (planText ds).length ≤ 100000 := by
  have hh := size_glued "\n" (ds.map SD.text)
  have e1 : ("\n" : Str).length = 1 := by decide +kernel
  have l1 := sum_le (n := 1000) (ys := ds.map SD.text) fun z hz => by
    obtain ⟨d, hd, rfl⟩ := List.mem_map.mp hz
    exact text_len (h d hd).sm
  have hh : (planText ds).length = _ := hh
  rw [List.length_map] at l1
  rw [hh, e1, List.length_map]
  have : ds.length * 1000 ≤ 90 * 1000 := Nat.mul_le_mul_right _ l
  omega
def spPlanRead (A : Ad) (K : PySem.W.Frag) : Sp := fun vs H Q _ => ∃ ds : List SD, vs = [.ref A.C_Plan, .str (planText ds)] ∧ (∀ d ∈ ds, d.Rd) ∧ ds ≠ [] ∧ ds.length ≤ 90 ∧ ∀ p H', Vc.Ed [] H H' → H p = none → PlanAt A K H' p ds → Q (.ref p) H'
section
variable {w : World} {K : PySem.W.Frag} {mg : Str → Option Value} {base : Heap} {A : Ad}
theorem ok_split_lines {P : Program} (T : Txt K mg A) : FnOk P w K mg base CX0 1 A.f_split_lines A.d_split_lines ["text"] spSplitLines := by
  refine T.F_split_lines.ok sc_split_lines (fun vs H Q E h => ?_) (fun cdv Ar outer s H vs Q E hr h => ?_)
  · obtain ⟨z, rfl, _⟩ := h
    rfl
  · obtain ⟨z, rfl, lz, ll, l9, k⟩ := h
    refine ⟨_, (pss_one (ps_ret (pe_lc (own := [("line", 1)]) (g := gName 1) rfl sc_split_lines.nd (pi_list (pe_bm PySem.F.plainAttrs_str PySem.F.slot_str_split PySem.F.type_str_split mt_split (pv 0) (pa_cons pe_str pa_nil))) (blkOk_by (own := [("line", 1)]) (N := ["text", "line"]) (sc := defScope s_split_lines) (by decide +kernel)) (fun _ _ _ _ _ => by exact (pg_name (i := 1) sc_split_lines.nd rfl (Or.inl rfl))) (fun _ _ _ _ _ => by exact pts_nil) (fun _ _ _ _ _ => by (refine' Vc.blkE ?h ?q; (case h => exact (pe_bm PySem.F.plainAttrs_str PySem.F.slot_str_split PySem.F.type_str_split mt_split (pv 1) (pa_cons pe_str pa_nil))); (case q => first | exact rfl | (dsimp only; done) | (dsimp only; exact rfl))))))), ?_⟩
    walk_at "go"
    refine ⟨rfl, ?_⟩
    walk_at "go"
    refine ⟨z, "\n", rfl, rfl, by decide +kernel, by rw [sizeLine_eq]; omega, fun L0 nL0 => ?_⟩
    generalize hu1 : upd _ L0 _ = H1
    obtain ⟨e1, hL0⟩ := Vc.alloc hu1 nL0
    revert ll l9 k hu1 hL0
    generalize Txt.split z "\n" = ls
    intro ll l9 k hu1 hL0
    walk_at "go"
    refine ⟨⟨_, .of hL0⟩, Vc.lc_by (walk_list (xs := ls.map V.str)) (fun D i H' => Vc.Ed [] H1 H' ∧ ∃ as : List Addr, as.length = i ∧ H' D = some (.lst (as.map V.ref)) ∧ ∀ (j : Nat) (a : Addr) (l : Str), as[j]? = some a → ls[j]? = some l → H' a = some (.lst ((Txt.split l " ").map V.str)) ∧ a ≠ D) (fun D H2 nD e hD => ⟨e, [], rfl, hD, fun j a l z => by simp at z⟩) (fun D i H' _ _ q => .of (q.1.at0 hL0)) (fun D i x H2 H3 nD hi q y => ?_) fun D H2 nD q => ?_⟩
    · obtain ⟨rfl, hx⟩ := y
      obtain ⟨e2, as, la, hD, hA⟩ := q
      rw [List.getElem?_map] at hx
      obtain ⟨l, hl, rfl⟩ := Option.map_eq_some_iff.mp hx
      have hll := ll l (List.mem_of_getElem? hl)
      walk_at "go"
      refine ⟨rfl, ?_⟩
      walk_at "go"
      refine ⟨rfl, ?_⟩
      walk_at "go"
      refine ⟨l, " ", rfl, rfl, by decide +kernel, by rw [sizeLine_eq]; omega, fun a na => ?_⟩
      generalize hu4 : upd _ a _ = H4
      obtain ⟨e4, ha⟩ := Vc.alloc hu4 na
      have hD4 := e4.at0 hD
      refine ⟨_, hD4, small1000 (by rw [List.length_map, la]; rw [List.length_map] at hi; omega), ?_⟩
      generalize hu5 : upd _ D _ = H5
      obtain ⟨e5, hD5⟩ := Vc.chg hu5 hD4
      have naD : a ≠ D := (ne_of_none hD na).symm
      refine ⟨(e2.ex e4).one e5 (.inr nD), as ++ [a], by rw [List.length_append, la]; rfl, by rw [hD5, List.map_append]; rfl, fun j b m hj hm => ?_⟩
      by_cases c : j < as.length
      · rw [List.getElem?_append_left c] at hj
        obtain ⟨h1, h2⟩ := hA j b m hj hm
        exact ⟨e5.at1 h2 (e4.at0 h1), h2⟩
      · rw [List.getElem?_append_right (by omega)] at hj
        have : j - as.length = 0 := by
          have := (List.getElem?_eq_some_iff.mp hj).1
          simp at this
          omega
        rw [this] at hj
        cases hj
        obtain rfl : j = i := by omega
        rw [hl] at hm
        cases hm
        exact ⟨e5.at1 naD ha, naD⟩
    · obtain ⟨e2, as, la, hD, hA⟩ := q
      rw [List.length_map] at la
      exact k D as H2 (e1.ex e2) (e1.dom _ nD) hD la fun i a l h1 h2 => (hA i a l h1 h2).1
theorem ok_read_parts (T : Txt K mg A) : FnOk PG w K mg base CX0 4 A.f_read_parts A.d_read_parts ["line", "words"] (spReadParts K) := by
  have G_check_line := ok_check_line (P := PG) (w := w) (base := base) T
  have G_read_numbers := ok_read_numbers (P := PG) (w := w) (base := base) T
  obtain ⟨_, hkb_read_numbers_3_least⟩ := kb_read_numbers_3_least (A := A) T.F_read_numbers
  refine T.F_read_parts.ok sc_read_parts (fun vs H Q E h => ?_) (fun cdv Ar outer s H vs Q E hr h => ?_)
  · obtain ⟨n, a, d, rfl, _⟩ := h
    rfl
  · obtain ⟨n, a, d, rfl, ha, hd, k⟩ := h
    refine ⟨_, (pss_cons (ps_if (pt_cmpR op_eq (pe_ix ix_list (pv 1) pe_int (fun _ _ => rfl)) pe_str (nomark _)) (pss_cons (ps_expr (pe_call G_check_line (by exact hr.mono (by decide)) (by rfl) T.g_check_line T.F_check_line.kp T.b_check_line .nil pass0 (pa_cons (pv 0) (pa_cons (pe_slice sl_list (pv 1) po_none (po_some pe_int)) (pa_cons (pe_lst (pa_cons pe_str (pa_cons pe_str pa_nil))) pa_nil))))) (pss_one (ps_ret (pe_tup (pa_cons (pe_ix ix_list (pv 1) pe_int (fun _ _ => rfl)) (pa_cons (pe_lst (pa_cons (pe_callTy call_int_str (by rfl) T.n_int (by decide +kernel) (pa_cons (pe_ix ix_list (pv 1) pe_int (fun _ _ => rfl)) pa_nil)) (Vc.pa_starK (K := K) rfl (pe_callN G_read_numbers (by exact hr.mono (by decide)) (by rfl) T.g_read_numbers T.F_read_numbers.kp hkb_read_numbers_3_least pass0 (pa_cons (pv 0) (pa_cons (pv 1) (pa_cons pe_int pa_nil))) (pk_cons pe_int pk_nil)) pa_nil (by rfl)))) pa_nil)))))) pss_nil) (pss_cons (ps_if (pt_cmpR op_eq (pe_ix ix_list (pv 1) pe_int (fun _ _ => rfl)) pe_str (nomark _)) (pss_cons (ps_expr (pe_call G_check_line (by exact hr.mono (by decide)) (by rfl) T.g_check_line T.F_check_line.kp T.b_check_line .nil pass0 (pa_cons (pv 0) (pa_cons (pv 1) (pa_cons (pe_lst (pa_cons pe_str (pa_cons pe_str pa_nil))) pa_nil))))) (pss_one (ps_ret (pe_tup (pa_cons (pe_ix ix_list (pv 1) pe_int (fun _ _ => rfl)) (pa_cons (pe_lst (pa_cons (pe_callTy call_int_str (by rfl) T.n_int (by decide +kernel) (pa_cons (pe_ix ix_list (pv 1) pe_int (fun _ _ => rfl)) pa_nil)) pa_nil)) pa_nil)))))) pss_nil) (pss_cons (ps_expr (pe_call G_check_line (by exact hr.mono (by decide)) (by rfl) T.g_check_line T.F_check_line.kp T.b_check_line .nil pass0 (pa_cons (pv 0) (pa_cons (pv 1) (pa_cons (pe_lst (pa_cons pe_str pa_nil)) pa_nil))))) (pss_one (ps_ret (pe_tup (pa_cons (pe_ix ix_list (pv 1) pe_int (fun _ _ => rfl)) (pa_cons (pe_lst pa_nil) pa_nil)))))))), ?_⟩
    cases d with
    | wr at_ ns =>
      obtain ⟨d1, d2, d3, d4, d5⟩ := hd
      have ha : SqL K H a ((("write" : Str) :: numS at_ :: ns.map numS).map V.str) := ha
      have i0 : atI ((("write" : Str) :: numS at_ :: ns.map numS).map V.str) 0 = some (.str "write") := at_of (j := 0) (by omega) rfl
      have i1 : atI ((("write" : Str) :: numS at_ :: ns.map numS).map V.str) 1 = some (.str (numS at_)) := at_of (j := 1) (by omega) rfl
      walk_at "go"
      intro q nq
      generalize hu1 : upd _ q _ = H1
      obtain ⟨e1, hq⟩ := Vc.alloc hu1 nq
      rw [show (some 2 : Option Int) = some ((2 : Nat) : Int) from rfl, Vc.cut_take] at hq
      walk_at "go"
      intro kd nkd
      generalize hu2 : upd _ kd _ = H2
      obtain ⟨e2, hkd⟩ := Vc.alloc hu2 nkd
      refine ⟨n, q, kd, ["write", numS at_], ["=write", "n"], rfl, .of (e2.at0 hq), .of hkd, .cons .wr (.cons (.num d1 (by omega)) .nil), fun H3 e3 => ?_⟩
      have ha3 : SqL K H3 a (((("write" : Str) :: numS at_ :: ns.map numS)).map V.str) := ((e1.ex e2).ex e3).sql0 ha
      walk_at "go"
      refine ⟨_, at_, rfl, numS_int d1 (by omega), by have := (numS_len d1 (by omega : at_ ≤ 255)).2; omega, ?_⟩
      walk_at "go"
      refine Vc.go_star ?_
      show tCons (tVar 0) (tCons (tVar 1) (tCons (tC (.int 2)) tNil)) _ _ _
      walk_at "go"
      refine ⟨rfl, rfl, n, a, "write", numS at_, ns, rfl, ha3, d5, d3, by omega, fun r H4 e4 nr hr4 => ?_⟩
      refine ⟨r, _, rfl, .inr (.of hr4), ?_⟩
      walk_at "go"
      rw [List.append_nil]
      intro l nl
      generalize hu5 : upd _ l _ = H5
      obtain ⟨e5, hl⟩ := Vc.alloc hu5 nl
      walk_at "go"
      intro t nt
      generalize hu6 : upd _ t _ = H6
      obtain ⟨e6, ht⟩ := Vc.alloc hu6 nt
      exact k t l H6 (((((e1.ex e2).ex e3).ex e4).ex e5).ex e6) ((((e1.ex e2).ex e3).ex e4).dom _ nl) ht (e6.at0 hl)
    | sy =>
      have ha : SqL K H a ([V.str "sync"]) := ha
      walk_at "go"
      refine Vc.go_iteF' (by decide +kernel) ?_
      walk_at "go"
      refine Vc.go_iteF' (by decide +kernel) ?_
      walk_at "go"
      intro kd nkd
      generalize hu2 : upd _ kd _ = H2
      obtain ⟨e2, hkd⟩ := Vc.alloc hu2 nkd
      refine ⟨n, a, kd, ["sync"], ["=sync"], rfl, e2.sql0 ha, .of hkd, .cons .sy .nil, fun H3 e3 => ?_⟩
      have ha3 : SqL K H3 a ([V.str "sync"]) := (e2.ex e3).sql0 ha
      walk_at "go"
      intro l nl
      generalize hu5 : upd _ l _ = H5
      obtain ⟨e5, hl⟩ := Vc.alloc hu5 nl
      walk_at "go"
      intro t nt
      generalize hu6 : upd _ t _ = H6
      obtain ⟨e6, ht⟩ := Vc.alloc hu6 nt
      exact k t l H6 (((e2.ex e3).ex e5).ex e6) ((e2.ex e3).dom _ nl) ht (e6.at0 hl)
    | ps s =>
      have ha : SqL K H a ([V.str "pass", .str (numS s)]) := ha
      obtain ⟨d1, d2⟩ := hd
      walk_at "go"
      refine Vc.go_iteF' (by decide +kernel) ?_
      walk_at "go"
      intro kd nkd
      generalize hu2 : upd _ kd _ = H2
      obtain ⟨e2, hkd⟩ := Vc.alloc hu2 nkd
      refine ⟨n, a, kd, ["pass", numS s], ["=pass", "n"], rfl, e2.sql0 ha, .of hkd, .cons .ps (.cons (.num d1 d2) .nil), fun H3 e3 => ?_⟩
      have ha3 : SqL K H3 a ([V.str "pass", .str (numS s)]) := (e2.ex e3).sql0 ha
      walk_at "go"
      refine ⟨_, s, rfl, numS_int d1 d2, by have := (numS_len d1 d2).2; omega, ?_⟩
      walk_at "go"
      intro l nl
      generalize hu5 : upd _ l _ = H5
      obtain ⟨e5, hl⟩ := Vc.alloc hu5 nl
      walk_at "go"
      intro t nt
      generalize hu6 : upd _ t _ = H6
      obtain ⟨e6, ht⟩ := Vc.alloc hu6 nt
      exact k t l H6 (((e2.ex e3).ex e5).ex e6) ((e2.ex e3).dom _ nl) ht (e6.at0 hl)
theorem ok_step_of (T : Txt K mg A) : FnOk PG w K mg base CX0 6 A.f_step_of A.d_step_of ["word", "numbers"] (spStepOf A) := by
  have G_Syncu_initu := ok_Syncu_initu (w := w) (base := base) T
  have G_Passu_initu := ok_Passu_initu (w := w) (base := base) T
  have G_Writeu_initu := ok_Writeu_initu (w := w) (base := base) T
  refine T.F_step_of.ok sc_step_of (fun vs H Q E h => ?_) (fun cdv Ar outer s H vs Q E hr h => ?_)
  · obtain ⟨l, d, rfl, _⟩ := h
    rfl
  · obtain ⟨l, d, rfl, hl, hd, k⟩ := h
    refine ⟨_, (pss_one (Vc.ps_match (pv 0) (Vc.pm_case (pss_one (ps_ret (Vc.pe_makeV1 T.mk_Write G_Writeu_initu (by exact hr.mono (by decide)) (by rfl) T.g_Write Vc.passSL (pv 1)))) (Vc.pm_case (pss_one (ps_ret (pe_make T.mk_Pass G_Passu_initu (by exact hr.mono (by decide)) (by rfl) T.g_Pass T.b_Passu_initu .nil pass0 (pa_cons (pe_ix ix_list (pv 1) pe_int (fun _ _ => rfl)) pa_nil)))) (Vc.pm_else (pss_one (ps_ret (pe_make0 T.mk_Sync G_Syncu_initu (by exact hr.mono (by decide)) (by rfl) T.g_Sync T.b_Syncu_initu .nil pass0)))))))), ?_⟩
    cases d with
    | wr a ns =>
      obtain ⟨d1, d2, d3, d4, d5⟩ := hd
      have hl : H l = some (.lst ((a :: ns).map V.int)) := hl
      refine Vc.go_match ?_
      walk_at "go"
      refine Vc.go_caseT ?_
      walk_at "go"
      refine Vc.go_star ?_
      walk_at "go"
      refine ⟨l, _, rfl, .inr (.of hl), ?_⟩
      walk_at "go"
      intro p px np npx ne
      rw [List.append_nil]
      generalize hu1 : upd (upd H px (.own p)) p _ = H1
      obtain ⟨e1, hp, _⟩ := Vc.allocI hu1 np npx ne
      refine ⟨[.ref p, .int a], ns.map V.int, rfl, rfl, by rw [List.length_map]; exact Nat.le_of_lt (small1000 (by omega)), fun v nv => ?_⟩
      generalize hu2 : upd _ v _ = H2
      obtain ⟨e2, hv⟩ := Vc.alloc hu2 nv
      have nb : wrErr a ns = none := by
        have hb : ∀ v ∈ ns, notByte v = false := fun v hv => by
          have := d5 v hv
          unfold notByte
          rw [decide_eq_true (by omega)]
          rfl
        unfold wrErr
        rw [if_neg (by omega), findIdx_none hb]
        rfl
      exact ⟨p, px, v, a, ns, rfl, e2.at0 hp, hv, by omega, fun b i he => (by rw [nb] at he; cases he), fun _ H' e hS => ⟨rfl, k p H' ((e1.ex e2).one e (.inr np)) np hS⟩⟩
    | sy =>
      refine Vc.go_match ?_
      walk_at "go"
      refine Vc.go_caseF (by decide +kernel) ?_
      refine Vc.go_caseF (by decide +kernel) ?_
      show tRet _ _ _ _
      walk_at "go"
      intro p px np npx ne
      generalize hu1 : upd _ p _ = H1
      obtain ⟨e1, hp1, _⟩ := Vc.allocI hu1 np npx ne
      exact ⟨p, px, rfl, hp1, fun H' e hS => ⟨rfl, k p _ (e1.one e (.inr np)) np hS⟩⟩
    | ps s =>
      have hl : H l = some (.lst [.int s]) := hl
      refine Vc.go_match ?_
      walk_at "go"
      refine Vc.go_caseF (z := "pass") (by decide +kernel) ?_
      refine Vc.go_caseT ?_
      walk_at "go"
      intro p px np npx ne
      generalize hu1 : upd _ p _ = H1
      obtain ⟨e1, hp1, _⟩ := Vc.allocI hu1 np npx ne
      exact ⟨p, px, s, rfl, hp1, fun H' e hS => ⟨rfl, k p _ (e1.one e (.inr np)) np hS⟩⟩
theorem ok_Plan_read (T : Txt K mg A) : FnOk PG w K mg base CX0 7 A.f_Plan_read A.d_Plan_read ["cls", "text"] (spPlanRead A K) := by
  have G_split_lines := ok_split_lines (P := PG) (w := w) (base := base) T
  have G_check_line := ok_check_line (P := PG) (w := w) (base := base) T
  have G_read_parts := ok_read_parts (w := w) (base := base) T
  have G_step_of := ok_step_of (w := w) (base := base) T
  have G_Planu_initu := ok_Planu_initu (P := PG) (w := w) (base := base) T
  refine T.F_Plan_read.ok sc_Plan_read (fun vs H Q E h => ?_) (fun cdv Ar outer s H vs Q E hr h => ?_)
  · obtain ⟨ds, rfl, _⟩ := h
    rfl
  · obtain ⟨ds, rfl, hd, l1, l9, k⟩ := h
    refine ⟨_, (pss_cons (ps_set (i := 2) sc_Plan_read.nd rfl (Or.inl rfl) (pe_call G_split_lines (by exact hr.mono (by decide)) (by rfl) T.g_split_lines T.F_split_lines.kp T.b_split_lines .nil pass0 (pa_cons (pv 1) pa_nil))) (pss_cons (ps_if (pt_cmpR op_eq (pe_ix ix_list (pe_ix ix_list (pv 2) pe_int (fun _ _ => rfl)) pe_int (fun _ _ => rfl)) pe_str (nomark _)) (pss_cons (ps_expr (pe_call G_check_line (by exact hr.mono (by decide)) (by rfl) T.g_check_line T.F_check_line.kp T.b_check_line .nil pass0 (pa_cons pe_int (pa_cons (pe_ix ix_list (pv 2) pe_int (fun _ _ => rfl)) (pa_cons (pe_lst (pa_cons pe_str pa_nil)) pa_nil))))) (pss_cons (ps_if (pt_cmpR op_gt (pe_callB call_len_seq (by rfl) T.n_len (by decide +kernel) (pa_cons (pv 2) pa_nil)) pe_int (nomark _)) (pss_one ps_never) pss_nil) (pss_one ps_never))) pss_nil) (pss_cons (ps_setLc (i := 3) (own := [("at", 4), ("words", 5)]) (g := gTup K 2 (gCons (gName 4) (gCons (gName 5) gNil))) rfl sc_Plan_read.nd rfl rfl (sw_true rfl rfl rfl (by decide +kernel)) (pi_enum (by rfl) T.n_enumerate (pa_cons (pv 2) pa_nil)) (blkOk_by (own := [("at", 4), ("words", 5)]) (N := ["cls", "text", "lines", "parts", "at", "words", "word", "numbers"]) (sc := defScope s_Plan_read) (by decide +kernel)) (fun _ _ _ _ _ => by exact (pg_tup rfl (pgs_cons (pg_name (i := 4) sc_Plan_read.nd rfl (Or.inl rfl)) (pgs_cons (pg_name (i := 5) sc_Plan_read.nd rfl (Or.inl rfl)) pgs_nil)))) (fun _ _ _ _ _ => by exact pts_nil) (fun _ _ _ _ _ => by (refine' Vc.blkE ?h ?q; (case h => exact (pe_call G_read_parts (by exact hr.mono (by decide)) (by rfl) T.g_read_parts T.F_read_parts.kp T.b_read_parts .nil pass0 (pa_cons (pv 4) (pa_cons (pv 5) pa_nil)))); (case q => first | exact rfl | (dsimp only; done) | (dsimp only; exact rfl))))) (pss_one (ps_ret (Vc.pe_makeC T.mk_Plan G_Planu_initu (by exact hr.mono (by decide)) T.b_Planu_initu (Vc.passS0 (E := fun _ => E0)) (pv 0) (pa_cons (pe_lc (own := [("word", 6), ("numbers", 7)]) (g := gTup K 2 (gCons (gName 6) (gCons (gName 7) gNil))) rfl sc_Plan_read.nd (pi_list (pv 3)) (blkOk_by (own := [("word", 6), ("numbers", 7)]) (N := ["cls", "text", "lines", "parts", "at", "words", "word", "numbers"]) (sc := defScope s_Plan_read) (by decide +kernel)) (fun _ _ _ _ _ => by exact (pg_tup rfl (pgs_cons (pg_name (i := 6) sc_Plan_read.nd rfl (Or.inl rfl)) (pgs_cons (pg_name (i := 7) sc_Plan_read.nd rfl (Or.inl rfl)) pgs_nil)))) (fun _ _ _ _ _ => by exact pts_nil) (fun _ _ _ _ _ => by (refine' Vc.blkE ?h ?q; (case h => exact (pe_call G_step_of (by exact hr.mono (by decide)) (by rfl) T.g_step_of T.F_step_of.kp T.b_step_of .nil pass0 (pa_cons (pv 6) (pa_cons (pv 7) pa_nil)))); (case q => first | exact rfl | (dsimp only; done) | (dsimp only; exact rfl))))) pa_nil))))))), ?_⟩
    walk_at "go"
    refine ⟨planText ds, rfl, planText_len hd l9, ?_, ?_, ?_⟩
    · intro l hl
      rw [split_plan hd l1] at hl
      obtain ⟨d, hm, rfl⟩ := List.mem_map.mp hl
      exact Nat.le_trans (text_len (hd d hm).sm) (by decide)
    · rw [split_plan hd l1, List.length_map]; omega
    rw [split_plan hd l1]
    intro L as H1 e1 nL hL la hA
    rw [List.length_map] at la
    have hA : ∀ (i : Nat) (a : Addr) (d : SD), as[i]? = some a → ds[i]? = some d → H1 a = some (.lst (d.ws.map V.str)) := fun i a d h1 h2 => by
      have := hA i a d.text h1 (by rw [List.getElem?_map, h2]; rfl)
      rw [split_text (hd d (List.mem_of_getElem? h2))] at this
      exact this
    obtain ⟨d0, hd0⟩ : ∃ d, ds[0]? = some d := ⟨_, List.getElem?_eq_getElem (List.length_pos_iff.mpr l1)⟩
    obtain ⟨a0, ha0⟩ : ∃ a, as[0]? = some a := ⟨_, List.getElem?_eq_getElem (by rw [la]; exact List.length_pos_iff.mpr l1)⟩
    have h0 := hA 0 a0 d0 ha0 hd0
    have x0 : atI (as.map V.ref) 0 = some (.ref a0) := at_of (j := 0) (by omega) (by rw [List.getElem?_map, ha0]; rfl)
    have x1 : atI (d0.ws.map V.str) 0 = some (.str d0.kind) := at_of (j := 0) (by omega) (by rw [ws_kind]; rfl)
    have nk : ¬ (d0.kind = "none") := by
      cases d0 with
      | wr _ _ => show ¬ (("write" : Str) = "none"); decide +kernel
      | sy => show ¬ (("sync" : Str) = "none"); decide +kernel
      | ps _ => show ¬ (("pass" : Str) = "none"); decide +kernel
    walk_at "go"
    refine Vc.go_iteF' nk ?_
    walk_at "go"
    show tCons (tVar 2) tNil _ _ _
    walk_at "go"
    refine ⟨L, _, rfl, .of hL, Vc.lc_by (walk_enum (xs := as.map V.ref)) (fun D i H' => Vc.Ed [] H1 H' ∧ ∃ ts : List Addr, ts.length = i ∧ H' D = some (.lst (ts.map V.ref)) ∧ ∀ (j : Nat) (t : Addr) (d : SD), ts[j]? = some t → ds[j]? = some d → ∃ l, H' t = some (.tup [.str d.kind, .ref l]) ∧ H' l = some (.lst (d.nums.map V.int)) ∧ l ≠ D) (fun D H2 nD e hD => ⟨e, [], rfl, hD, fun j a l z => by simp at z⟩) (fun D i H' _ _ q => .of (q.1.at0 hL)) (fun D i x H2 H3 nD hi q y => ?_) fun D H2 nD q => ?_⟩
    · obtain ⟨e2, ts, lt, hD, hT⟩ := q
      obtain ⟨u, x, b, rfl, nu, rfl, hx, hb⟩ := y
      cases hx
      have hb : (as.map V.ref)[i]? = some b := hb
      rw [List.getElem?_map] at hb
      obtain ⟨a, ha, rfl⟩ := Option.map_eq_some_iff.mp hb
      obtain ⟨d, hdi⟩ : ∃ d, ds[i]? = some d := ⟨_, List.getElem?_eq_getElem (by rw [← la]; exact (List.getElem?_eq_some_iff.mp ha).1)⟩
      generalize hu : upd _ u _ = H3
      obtain ⟨e3, hu'⟩ := Vc.alloc hu nu
      have haa := (e2.ex e3).at0 (hA i a d ha hdi)
      have hD3 := e3.at0 hD
      refine ⟨u, _, rfl, .of hu', rfl, _, _, rfl, ?_⟩
      walk_at "go"
      refine ⟨_, _, rfl, ?_⟩
      walk_at "go"
      refine ⟨rfl, ?_⟩
      walk_at "go"
      refine ⟨rfl, ?_⟩
      walk_at "go"
      refine ⟨_, a, d, rfl, .of haa, hd d (List.mem_of_getElem? hdi), fun t l H4 e4 nl ht hl => ?_⟩
      have hD4 := e4.at0 hD3
      have nlD : l ≠ D := (ne_of_none hD3 nl).symm
      refine ⟨_, hD4, small1000 (by rw [List.length_map, lt]; rw [List.length_map] at hi; omega), ?_⟩
      generalize hu5 : upd _ D _ = H5
      obtain ⟨e5, hD5⟩ := Vc.chg hu5 hD4
      refine ⟨((e2.ex e3).ex e4).one e5 (.inr nD), ts ++ [t], by rw [List.length_append, lt]; rfl, by rw [hD5, List.map_append]; rfl, fun j v m hj hm => ?_⟩
      by_cases c : j < ts.length
      · rw [List.getElem?_append_left c] at hj
        obtain ⟨l', g1, g2, g3⟩ := hT j v m hj hm
        exact ⟨l', e5.tup _ _ (e4.tup _ _ (e3.tup _ _ g1)), e5.at1 g3 (e4.at0 (e3.at0 g2)), g3⟩
      · rw [List.getElem?_append_right (by omega)] at hj
        have : j - ts.length = 0 := by
          have := (List.getElem?_eq_some_iff.mp hj).1
          simp at this
          omega
        rw [this] at hj
        cases hj
        obtain rfl : j = i := by omega
        rw [hdi] at hm
        cases hm
        exact ⟨l, e5.tup _ _ ht, e5.at1 nlD hl, nlD⟩
    obtain ⟨e2, ts, lt, hD, hT⟩ := q
    rw [List.length_map] at lt
    clear hA hL
    walk_at "go"
    refine ⟨⟨_, .of hD⟩, Vc.lc_by (walk_list (xs := ts.map V.ref)) (fun M i H' => Vc.Ed [] H2 H' ∧ ∃ ys, H' M = some (.lst ys) ∧ StepsAt A H' ys (ds.take i)) (fun M H3 nM e hM => ⟨e, [], hM, .nil⟩) (fun M i H' _ _ q => .of (q.1.at0 hD)) (fun M i x H3 H4 nM hi q y => ?_) fun M H3 nM q => ?_⟩
    · obtain ⟨rfl, hx⟩ := y
      obtain ⟨e3, ys, hM, hS⟩ := q
      rw [List.getElem?_map] at hx
      obtain ⟨t, ht, rfl⟩ := Option.map_eq_some_iff.mp hx
      obtain ⟨d, hdi⟩ : ∃ d, ds[i]? = some d := ⟨_, List.getElem?_eq_getElem (by rw [← la, ← lt]; exact (List.getElem?_eq_some_iff.mp ht).1)⟩
      obtain ⟨l, g1, g2, _⟩ := hT i t d ht hdi
      have g1 := e3.tup _ _ g1
      have g2 := e3.at0 g2
      refine ⟨t, _, rfl, .of g1, rfl, _, _, rfl, ?_⟩
      walk_at "go"
      refine ⟨_, _, rfl, ?_⟩
      walk_at "go"
      refine ⟨rfl, ?_⟩
      walk_at "go"
      refine ⟨rfl, ?_⟩
      walk_at "go"
      refine ⟨l, d, rfl, g2, hd d (List.mem_of_getElem? hdi), fun p H5 e5 np hp => ?_⟩
      have hM5 := e5.at0 hM
      have ly := hS.len
      refine ⟨_, hM5, small1000 (by rw [ly, List.length_take]; omega), ?_⟩
      generalize hu6 : upd _ M _ = H6
      obtain ⟨e6, hM6⟩ := Vc.chg hu6 hM5
      refine ⟨(e3.ex e5).one e6 (.inr nM), _, hM6, ?_⟩
      rw [take_suc hdi]
      exact (StepsAt.edL hM5 e6 (StepsAt.ed0 e5 hS)).app (.cons (hp.edL hM5 e6) .nil)
    obtain ⟨e3, ys, hM, hS⟩ := q
    rw [List.length_map, lt, la, List.take_of_length_le (Nat.le_refl _)] at hS
    walk_at "go"
    exact mk_plan (R := fun p H' => Q (.ref p) H') (.inl (.of hM)) hS (by omega) fun p H4 e4 np hp => k p H4 (((e1.ex e2).ex e3).ex e4) ((e1.ex e2).dom _ (e3.dom _ np)) hp
end

end My
namespace My
open PySem PySem.Spec PyProof.Rows L2
/-! ### images: made of bytes, walked by a list's iterator, asked for their length -/
def imgF (l : Addr) : List (Str × V) := [("cells", .ref l)]
theorem img_cells {l : Addr} : (imgF l).lookup ("cells" : Str) = some (.ref l) := rfl
structure ImgAt (A : Ad) (H : Hp) (p l : Addr) (vals : List Int) : Prop where
  ob : ∃ dx, H p = some (.ins A.C_Image dx (imgF l))
  ls : H l = some (.lst (vals.map V.int))
theorem ImgAt.ed {A : Ad} {H H' : Hp} {p l : Addr} {vals : List Int} {S : List Addr} (h : ImgAt A H p l vals) (e : Vc.Ed S H H') (n1 : p ∉ S) (n2 : l ∉ S) : ImgAt A H' p l vals := by
  obtain ⟨⟨dx, h1⟩, h2⟩ := h
  exact ⟨⟨dx, e.keep _ _ n1 h1⟩, e.keep _ _ n2 h2⟩
theorem ImgAt.ed0 {A : Ad} {H H' : Hp} {p l : Addr} {vals : List Int} (e : Vc.Ed [] H H') (h : ImgAt A H p l vals) : ImgAt A H' p l vals := h.ed e (fun z => nomatch z) (fun z => nomatch z)
def spImgLen (A : Ad) : Sp := fun vs H Q _ => ∃ (p l : Addr) (vals : List Int), vs = [.ref p] ∧ ImgAt A H p l vals ∧ Q (.int vals.length) H
def spImgIter (A : Ad) : Sp := fun vs H Q _ => ∃ (p l : Addr) (vals : List Int), vs = [.ref p] ∧ ImgAt A H p l vals ∧ ∀ it, H it = none → Q (.ref it) (upd H it (ItO l it 0))
section
variable {P : Program} {w : World} {K : PySem.W.Frag} {mg : Str → Option Value} {base : Heap} {A : Ad}
theorem ok_Imageu_lenu (T : Txt K mg A) : FnOk P w K mg base CX0 1 A.f_Imageu_lenu A.d_Imageu_lenu ["self"] (spImgLen A) := by
  refine T.F_Imageu_lenu.ok sc_Imageu_lenu (fun vs H Q E h => ?_) (fun cdv Ar outer s H vs Q E hr h => ?_)
  · obtain ⟨p, l, vals, rfl, _⟩ := h
    rfl
  · obtain ⟨p, l, vals, rfl, X, k⟩ := h
    have cl := T.cl_Image
    have no1 := T.no_Image_cells
    obtain ⟨⟨dx, hx⟩, ho⟩ := X
    have l1 := img_cells (l := l)
    refine ⟨_, (pss_one (ps_ret (pe_callB call_len_seq (by rfl) T.n_len (by decide +kernel) (pa_cons (pe_fld (pv 0) rfl) pa_nil)))), ?_⟩
    walk_at "go"
    rw [List.length_map]
    exact k
theorem ok_Imageu_iteru (T : Txt K mg A) : FnOk P w K mg base CX0 1 A.f_Imageu_iteru A.d_Imageu_iteru ["self"] (spImgIter A) := by
  refine T.F_Imageu_iteru.ok sc_Imageu_iteru (fun vs H Q E h => ?_) (fun cdv Ar outer s H vs Q E hr h => ?_)
  · obtain ⟨p, l, vals, rfl, _⟩ := h
    rfl
  · obtain ⟨p, l, vals, rfl, X, k⟩ := h
    have cl := T.cl_Image
    have no1 := T.no_Image_cells
    obtain ⟨⟨dx, hx⟩, ho⟩ := X
    have l1 := img_cells (l := l)
    refine ⟨_, (pss_one (ps_ret (pe_callB call_iterL (by rfl) T.n_iter (by decide +kernel) (pa_cons (pe_fld (pv 0) rfl) pa_nil)))), ?_⟩
    walk_at "go"
    exact ⟨l, _, rfl, .of ho, fun it nit => k it nit⟩
/-- an image read by list(..) -/
theorem img_run {H : Hp} {p l q : Addr} {vals : List Int} (X : ImgAt A H p l vals) (l1000 : vals.length ≤ 1000) (hq : l ≠ q) : Vc.LiRun K (spImgIter A) (spImgLen A) p q (vals.map V.int) H fun _ => True := by
  refine ⟨p, l, vals, rfl, X, fun it nit => ⟨l, it, rfl, .new nit, nit, upd_same, .of ?_, hq, ne_of_none X.ls nit, ?_⟩⟩
  · rw [upd_ne (ne_of_none X.ls nit)]; exact X.ls
  · exact ⟨p, l, vals, rfl, X.ed0 (.new nit), _, rfl, by omega, by omega, .refl, trivial⟩
end

end My
namespace My
open PySem PySem.Spec PyProof.Rows L2
/-! ### images made -/
def spCheckB (K : PySem.W.Frag) : Sp := fun vs H Q _ => ∃ (l : Addr) (vals : List Int), vs = [.ref l] ∧ SqL K H l (vals.map V.int) ∧ (∀ x ∈ vals, 0 ≤ x ∧ x ≤ 255) ∧ ∀ H', Vc.Ed [] H H' → Q .non H'
section
variable {P : Program} {w : World} {K : PySem.W.Frag} {mg : Str → Option Value} {base : Heap} {A : Ad}
theorem ok_check_bytes (T : Txt K mg A) : FnOk P w K mg base CX0 2 A.f_check_bytes A.d_check_bytes ["values"] (spCheckB K) := by
  have G_is_byte := ok_is_byte (P := P) (w := w) (base := base) T
  refine T.F_check_bytes.ok sc_check_bytes (fun vs H Q E h => ?_) (fun cdv Ar outer s H vs Q E hr h => ?_)
  · obtain ⟨l, vals, rfl, _⟩ := h
    rfl
  · obtain ⟨l, vals, rfl, hl, hb, k⟩ := h
    refine ⟨_, (pss_one (ps_for PassesOwn.never rfl (pi_enum (by rfl) T.n_enumerate (pa_cons (pv 0) pa_nil)) (pg_tup rfl (pgs_cons (pg_name (i := 1) sc_check_bytes.nd rfl (Or.inl rfl)) (pgs_cons (pg_name (i := 2) sc_check_bytes.nd rfl (Or.inl rfl)) pgs_nil))) (pss_one (ps_if (pt_not (pt_val (pe_call G_is_byte (by exact hr.mono (by decide)) (by rfl) T.g_is_byte T.F_is_byte.kp T.b_is_byte .nil pass0 (pa_cons (pv 2) pa_nil)))) (pss_one ps_never) pss_nil)))), ?_⟩
    walk_at "go"
    show tCons (tVar 0) tNil _ H _
    walk_at "go"
    refine ⟨l, _, rfl, hl, for_it walk_enum (fun i σ H' => ∃ y z : Option V, σ = [some (.ref l), y, z] ∧ Vc.Ed [] H H') ⟨none, none, rfl, .refl⟩ (fun i σ' H' _ h => (by obtain ⟨_, _, _, e⟩ := h; exact Vc.Ed.sql0 e hl)) (fun i v σ' H' H2 hi hp hy => ?_) fun σ' H' hp => ?_⟩
    · obtain ⟨y, z, rfl, e⟩ := hp
      obtain ⟨t, a, b, rfl, nt, rfl, ha, hbx⟩ := hy
      cases ha
      have hbx : (vals.map V.int)[i]? = some b := hbx
      rw [List.getElem?_map] at hbx
      obtain ⟨n, hn, rfl⟩ := Option.map_eq_some_iff.mp hbx
      have hnb := hb n (List.mem_of_getElem? hn)
      generalize hu : upd _ t _ = H3
      obtain ⟨e3, ht⟩ := Vc.alloc hu nt
      refine ⟨t, _, rfl, .of ht, rfl, _, _, rfl, ?_⟩
      walk_at "go"
      refine ⟨_, _, rfl, ?_⟩
      walk_at "go"
      refine ⟨rfl, ?_⟩
      walk_at "go"
      refine ⟨n, rfl, fun H4 e4 => ?_⟩
      rw [decide_eq_true hnb]
      walk_at "go"
      exact ⟨_, _, rfl, by walk_at "ed"⟩
    · obtain ⟨y, z, rfl, e⟩ := hp
      walk_at "go"
      exact k H' e
def spImgInit (A : Ad) (K : PySem.W.Frag) : Sp := fun vs H Q _ => ∃ (p dx h : Addr) (vals : List Int), vs = [.ref p, .ref h] ∧ H p = some (.ins A.C_Image dx []) ∧ SqL K H h (vals.map V.int) ∧ vals.length ≤ 1000 ∧ (∀ x ∈ vals, 0 ≤ x ∧ x ≤ 255) ∧
  ∀ l H', Vc.Ed [p] H H' → H l = none → ImgAt A H' p l vals → Q .non H'
theorem ok_Imageu_initu (T : Txt K mg A) : FnOk P w K mg base CX0 3 A.f_Imageu_initu A.d_Imageu_initu ["self", "values"] (spImgInit A K) := by
  have G_check_bytes := ok_check_bytes (P := P) (w := w) (base := base) T
  refine T.F_Imageu_initu.ok sc_Imageu_initu (fun vs H Q E h => ?_) (fun cdv Ar outer s H vs Q E hr h => ?_)
  · obtain ⟨p, dx, h, vals, rfl, _⟩ := h
    rfl
  · obtain ⟨p, dx, h, vals, rfl, hp, hh, vl, hb, k⟩ := h
    have cl := T.cl_Image
    have no1 := T.no_Image_cells
    refine ⟨_, (pss_cons (ps_set (i := 2) sc_Imageu_initu.nd rfl (Or.inl rfl) (pe_callTy Vc.call_lstD (by rfl) T.n_list (by decide +kernel) (pa_cons (pv 1) pa_nil))) (pss_cons (ps_expr (pe_call G_check_bytes (by exact hr.mono (by decide)) (by rfl) T.g_check_bytes T.F_check_bytes.kp T.b_check_bytes .nil pass0 (pa_cons (pv 2) pa_nil))) (pss_one (ps_fld (pv 0) (pv 2) rfl)))), ?_⟩
    walk_at "go"
    intro L nL
    generalize hu1 : upd _ L _ = H1
    obtain ⟨e1, hL⟩ := Vc.alloc hu1 nL
    walk_at "go"
    refine ⟨L, vals, rfl, .of hL, hb, fun H2 e2 => ?_⟩
    have hp2 := e2.at0 (e1.at0 hp)
    have nLp : L ≠ p := fun z => by rw [z, hp] at nL; cases nL
    walk_at "go"
    generalize hu3 : upd _ p _ = H3
    obtain ⟨e3, hp3⟩ := Vc.chg hu3 hp2
    walk_at "go"
    exact k L H3 (by walk_at "ed") nL ⟨⟨dx, hp3⟩, e3.at1 nLp (e2.at0 hL)⟩
end

end My
namespace My
open PySem PySem.Spec PyProof.Rows L2
/-! ### a byte of an image -/
def spSpan1 : Sp := fun vs H Q _ => ∃ (i size : Int), vs = [.int i, .int size] ∧ 0 ≤ i ∧ i < size ∧ ∀ t H', Vc.Ed [] H H' → H' t = some (.tup [.int i, .int (i + 1)]) → Q (.ref t) H'
def spImgGet1 (A : Ad) : Sp := fun vs H Q _ => ∃ (p l : Addr) (vals : List Int) (i : Nat) (v : Int), vs = [.ref p, .int (i : Int)] ∧ ImgAt A H p l vals ∧ vals[i]? = some v ∧ ∀ H', Vc.Ed [] H H' → Q (.int v) H'
section
variable {P : Program} {w : World} {K : PySem.W.Frag} {mg : Str → Option Value} {base : Heap} {A : Ad}
theorem ok_span_of (T : Txt K mg A) : FnOk P w K mg base CX0 1 A.f_span_of A.d_span_of ["at", "size"] spSpan1 := by
  refine T.F_span_of.ok sc_span_of (fun vs H Q E h => ?_) (fun cdv Ar outer s H vs Q E hr h => ?_)
  · obtain ⟨i, n, rfl, _⟩ := h
    rfl
  · obtain ⟨i, n, rfl, i0, i1, k⟩ := h
    refine ⟨_, (pss_cons (ps_if (pt_not (pt_val (pe_callB call_isi (by rfl) T.n_isinstance (by decide +kernel) (pa_cons (pv 0) (pa_cons (pe_bltn (v := .ty "tuple") (by rfl) T.n_tuple (by decide +kernel) rfl) pa_nil))))) (pss_cons (ps_if (PW.pt (pw_or (pt_cmpR op_lt (pv 0) pe_int (nomark _)) (pw_or1 (pt_cmpR op_ge (pv 0) (pv 1) (nomark _))))) (pss_one ps_never) pss_nil) (pss_one (ps_ret (pe_tup (pa_cons (pv 0) (pa_cons (pe_op op_add (pv 0) pe_int) pa_nil)))))) pss_nil) (pss_cons ps_never (pss_cons ps_never (pss_cons ps_never (pss_one ps_never))))), ?_⟩
    walk_at "go"
    refine Vc.go_iteF' (by omega) ?_
    walk_at "go"
    refine Vc.go_iteF' (by omega) ?_
    walk_at "go"
    intro t nt
    generalize hu1 : upd _ t _ = H1
    obtain ⟨e1, ht⟩ := Vc.alloc hu1 nt
    exact k t H1 e1 ht
theorem ok_Imageu_getitemu (T : Txt K mg A) : FnOk P w K mg base CX0 2 A.f_Imageu_getitemu A.d_Imageu_getitemu ["self", "at"] (spImgGet1 A) := by
  have G_span_of := ok_span_of (P := P) (w := w) (base := base) T
  refine T.F_Imageu_getitemu.ok sc_Imageu_getitemu (fun vs H Q E h => ?_) (fun cdv Ar outer s H vs Q E hr h => ?_)
  · obtain ⟨p, l, vals, i, v, rfl, _⟩ := h
    rfl
  · obtain ⟨p, l, vals, i, v, rfl, X, hv, k⟩ := h
    have cl := T.cl_Image
    have no1 := T.no_Image_cells
    obtain ⟨⟨dx, hx⟩, ho⟩ := id X
    have l1 := img_cells (l := l)
    have li := (List.getElem?_eq_some_iff.mp hv).1
    refine ⟨_, (pss_cons (ps_asg (pe_call G_span_of (by exact hr.mono (by decide)) (by rfl) T.g_span_of T.F_span_of.kp T.b_span_of .nil pass0 (pa_cons (pv 1) (pa_cons (pe_callB call_len_seq (by rfl) T.n_len (by decide +kernel) (pa_cons (pe_fld (pv 0) rfl) pa_nil)) pa_nil))) (pg_tup rfl (pgs_cons (pg_name (i := 2) sc_Imageu_getitemu.nd rfl (Or.inl rfl)) (pgs_cons (pg_name (i := 3) sc_Imageu_getitemu.nd rfl (Or.inl rfl)) pgs_nil)))) (pss_cons (ps_if (pt_val (pe_callB call_isi (by rfl) T.n_isinstance (by decide +kernel) (pa_cons (pv 1) (pa_cons (pe_bltn (v := .ty "tuple") (by rfl) T.n_tuple (by decide +kernel) rfl) pa_nil)))) (pss_one ps_never) pss_nil) (pss_one (ps_ret (pe_ix ix_list (pe_fld (pv 0) rfl) (pv 2) (fun _ _ => rfl)))))), ?_⟩
    walk_at "go"
    rw [List.length_map]
    refine ⟨_, _, rfl, by omega, by omega, fun t H1 e1 ht => ?_⟩
    have hx1 := e1.at0 hx
    have ho1 := e1.at0 ho
    have hi : atI (vals.map V.int) (i : Int) = some (.int v) := at_of (j := i) (by omega) (by rw [List.getElem?_map, hv]; rfl)
    walk_at "go"
    refine ⟨t, _, rfl, .of ht, rfl, _, _, rfl, ?_⟩
    walk_at "go"
    refine ⟨_, _, rfl, ?_⟩
    walk_at "go"
    refine ⟨rfl, ?_⟩
    walk_at "go"
    exact k H1 e1
end

end My
namespace My
open PySem PySem.Spec PyProof.Rows L2
/-! ### what is handed as values of a rewrite: a list, a tuple, an image -/
def Given (A : Ad) (K : PySem.W.Frag) (H : Hp) (h : Addr) (vals : List Int) : Prop := SqL K H h (vals.map V.int) ∨ SqT K H h (vals.map V.int) ∨ ∃ l, ImgAt A H h l vals
theorem Given.ed0 {A : Ad} {K : PySem.W.Frag} {H H' : Hp} {h : Addr} {vals : List Int} (e : Vc.Ed [] H H') (X : Given A K H h vals) : Given A K H' h vals := by
  rcases X with X | X | ⟨l, X⟩
  · exact .inl (e.sql0 X)
  · exact .inr (.inl (e.sqt X))
  · exact .inr (.inr ⟨l, X.ed0 e⟩)
/-- the new instance gets its fields -/
theorem Given.ins {A : Ad} {K : PySem.W.Frag} {H H' : Hp} {h p C dx : Addr} {vals : List Int} (hp : H p = some (.ins C dx [])) (e : Vc.Ed [p] H H') (X : Given A K H h vals) : Given A K H' h vals := by
  rcases X with X | X | ⟨l, X⟩
  · exact .inl (e.sqlk hp (fun ys z => by cases z) X)
  · exact .inr (.inl (e.sqt X))
  · refine .inr (.inr ⟨l, X.ed e (fun z => ?_) (fun z => ?_)⟩)
    · obtain ⟨dy, h1⟩ := X.ob
      rw [List.mem_singleton.mp z, hp] at h1; cases h1
    · have := X.ls
      rw [List.mem_singleton.mp z, hp] at this; cases this
theorem given_any {A : Ad} {K : PySem.W.Frag} {H : Hp} {Q : VK} {h : Addr} {vals : List Int} (X : Given A K H h vals) (l1 : vals.length ≤ 1000) (k : ∀ L H', H L = none → Vc.Ed [] H H' → H' L = some (.lst (vals.map V.int)) → Q (.ref L) H') :
    Vc.rLstOf K [.ref h] H Q ∨ Vc.rListLi K A.C_Image (spImgIter A) (spImgLen A) [.ref h] H Q := by
  rcases X with X | X | ⟨l, X⟩
  · exact .inl (Vc.go_lstD X fun L nL => k L _ nL (.new nL) upd_same)
  · exact .inl (Vc.go_lstDT X fun L nL => k L _ nL (.new nL) upd_same)
  · obtain ⟨dy, h1⟩ := X.ob
    exact .inr ⟨h, dy, imgF l, _, rfl, h1, by rw [List.length_map]; exact l1, fun q H1 nq e => img_run (X.ed0 e) l1 (ne_of_none X.ls nq), k⟩

end My
namespace My
open PySem PySem.Spec PyProof.Rows L2
/-! ### bytes behind steps -/
/-- the first k values put from an address on -/
def putN (a : Nat) (vs : List Int) (cells : List Int) : Nat → List Int
  | 0 => cells
  | k + 1 => (putN a vs cells k).set (a + k) (vs.getD k 0)
theorem putN_len {a : Nat} {vs cells : List Int} : ∀ k, (putN a vs cells k).length = cells.length
  | 0 => rfl
  | k + 1 => by
    show ((putN a vs cells k).set _ _).length = _
    rw [List.length_set, putN_len k]
def aftE (d : SD) (c : List Int) : Except Int (List Int) := match d with
  | .wr a vs => if a.toNat + vs.length ≤ c.length then .ok (putN a.toNat vs c vs.length) else .error (max a c.length)
  | _ => .ok c
def aftP : List SD → List Int → Except Int (List Int)
  | [], c => .ok c
  | d :: r, c => match aftE d c with
    | .ok c' => aftP r c'
    | .error e => .error e
theorem aftE_len {d : SD} {c c' : List Int} (h : aftE d c = .ok c') : c'.length = c.length := by
  cases d with
  | wr a vs =>
    unfold aftE at h
    simp only at h
    split at h
    · cases h; exact putN_len _
    · cases h
  | sy => cases h; rfl
  | ps s => cases h; rfl
theorem aftP_app : ∀ (ds es : List SD) (c : List Int), aftP (ds ++ es) c = (match aftP ds c with | .ok c' => aftP es c' | .error e => .error e)
  | [], es, c => rfl
  | d :: r, es, c => by
    show (match aftE d c with | .ok c' => aftP (r ++ es) c' | .error e => .error e) = (match (match aftE d c with | .ok c' => aftP r c' | .error e => .error e) with | .ok c' => aftP es c' | .error e => .error e)
    cases aftE d c with
    | ok c' => exact aftP_app r es c'
    | error e => rfl
theorem aftP_len : ∀ {ds : List SD} {c c' : List Int}, aftP ds c = .ok c' → c'.length = c.length
  | [], c, c', h => by cases h; rfl
  | d :: r, c, c', h => by
    unfold aftP at h
    cases e : aftE d c with
    | ok c2 => rw [e] at h; rw [aftP_len (ds := r) h, aftE_len e]
    | error z => rw [e] at h; cases h
def spStepAfter (A : Ad) (K : PySem.W.Frag) : Sp := fun vs H Q _ => ∃ (p g : Addr) (vals : List Int), vs = [.ref p, .ref g] ∧ Given A K H g vals ∧ vals.length ≤ 900 ∧ ∀ L H', Vc.Ed [] H H' → H L = none → H' L = some (.lst (vals.map V.int)) → Q (.ref L) H'
def spWriteAfter (A : Ad) (K : PySem.W.Frag) : Sp := fun vs H Q E => ∃ (p g : Addr) (vals : List Int) (a : Int) (ns : List Int), vs = [.ref p, .ref g] ∧ StepAt A H p (.wr a ns) ∧ Given A K H g vals ∧ vals.length ≤ 900 ∧ 0 ≤ a ∧ 1 ≤ ns.length ∧
  (∀ e, aftE (.wr a ns) vals = .error e → ∀ dd H', Vc.Ed [] H H' → H' dd = some (.xd [("at", .int e)]) → E (.ref A.C_BadAddress) (some dd) H') ∧
  (∀ c, aftE (.wr a ns) vals = .ok c → ∀ L H', Vc.Ed [] H H' → H L = none → H' L = some (.lst (c.map V.int)) → Q (.ref L) H')
/-- a write at an address, with bytes -/
def SD.Go : SD → Prop
  | .wr a vs => 0 ≤ a ∧ 1 ≤ vs.length
  | _ => True
theorem SD.Rd.go : ∀ {d : SD}, d.Rd → d.Go
  | .wr a vs, ⟨h1, _, h3, _⟩ => ⟨h1, h3⟩
  | .sy, _ => trivial
  | .ps _, _ => trivial
def spPlanAfter (A : Ad) (K : PySem.W.Frag) : Sp := fun vs H Q E => ∃ (p g : Addr) (vals : List Int) (ds : List SD), vs = [.ref p, .ref g] ∧ PlanAt A K H p ds ∧ Given A K H g vals ∧ vals.length ≤ 900 ∧ (∀ d ∈ ds, d.Go) ∧
  (∀ e, aftP ds vals = .error e → ∀ dd H', Vc.Ed [] H H' → H' dd = some (.xd [("at", .int e)]) → E (.ref A.C_BadAddress) (some dd) H') ∧
  (∀ c, aftP ds vals = .ok c → ∀ L H', Vc.Ed [] H H' → H L = none → H' L = some (.lst (c.map V.int)) → Q (.ref L) H')
theorem set_map {xs : List Int} {j : Nat} {v : Int} : (xs.map V.int).set j (V.int v) = (xs.set j v).map V.int := (List.map_set).symm
section
variable {w : World} {K : PySem.W.Frag} {mg : Str → Option Value} {base : Heap} {A : Ad}
theorem ok_Step_after {P : Program} (T : Txt K mg A) : FnOk P w K mg base CX0 5 A.f_Step_after A.d_Step_after ["self", "values"] (spStepAfter A K) := by
  have G_Imageu_iteru := ok_Imageu_iteru (P := P) (w := w) (base := base) T
  have G_Imageu_lenu := ok_Imageu_lenu (P := P) (w := w) (base := base) T
  refine T.F_Step_after.ok sc_Step_after (fun vs H Q E h => ?_) (fun cdv Ar outer s H vs Q E hr h => ?_)
  · obtain ⟨p, g, vals, rfl, _⟩ := h
    rfl
  · obtain ⟨p, g, vals, rfl, hg, vl, k⟩ := h
    refine ⟨_, (pss_one (ps_ret (pe_callTy (Vc.call_or Vc.call_lstD (Vc.call_listLi (by rfl) G_Imageu_iteru T.sp_Image_Imageu_iteru T.b_Imageu_iteru G_Imageu_lenu T.sp_Image_Imageu_lenu T.b_Imageu_lenu (by exact hr.mono (by decide)))) (by rfl) T.n_list (by decide +kernel) (pa_cons (pv 1) pa_nil)))), ?_⟩
    walk_at "go"
    refine given_any hg (by omega) fun L H1 nL e1 hL => ?_
    exact k L H1 e1 nL hL
theorem ok_Write_after (T : Txt K mg A) : FnOk PG w K mg base (CX PG w) 5 A.f_Write_after A.d_Write_after ["self", "values"] (spWriteAfter A K) := by
  have G_Imageu_iteru := ok_Imageu_iteru (P := PG) (w := w) (base := base) T
  have G_Imageu_lenu := ok_Imageu_lenu (P := PG) (w := w) (base := base) T
  have G_BadAddressu_initu := ok_BadAddressu_initu (w := w) (base := base) T
  refine T.F_Write_after.okX sc_Write_after (fun vs H Q E h => ?_) (fun cdv Ar outer s H vs Q E hr h => ?_)
  · obtain ⟨p, g, vals, a, ns, rfl, _⟩ := h
    rfl
  · obtain ⟨p, g, vals, a, ns, rfl, hS, hg, vl, a0, n1, kE, kQ⟩ := h
    obtain ⟨dx, t, v, hp, ht, hv0⟩ := hS.ex
    have hv := hv0 _ _ rfl
    have hp : H p = some (.ins A.C_Write dx [("shown", .ref t), ("address", .int a), ("given", .ref v)]) := hp
    have cl := T.cl_Write
    have no := T.no_Write_address
    have no2 := T.no_Write_given
    have lk1 : List.lookup ("address" : Str) [(("shown" : Str), V.ref t), ("address", .int a), ("given", .ref v)] = some (.int a) := rfl
    have lk2 : List.lookup ("given" : Str) [(("shown" : Str), V.ref t), ("address", .int a), ("given", .ref v)] = some (.ref v) := rfl
    obtain ⟨b, rfl⟩ : ∃ b : Nat, a = b := ⟨a.toNat, by omega⟩
    refine ⟨_, (pss_cons (ps_set (i := 2) sc_Write_after.nd rfl (Or.inl rfl) (pe_callTy (Vc.call_or Vc.call_lstD (Vc.call_listLi (by rfl) G_Imageu_iteru T.sp_Image_Imageu_iteru T.b_Imageu_iteru G_Imageu_lenu T.sp_Image_Imageu_lenu T.b_Imageu_lenu (by exact hr.mono (by decide)))) (by rfl) T.n_list (by decide +kernel) (pa_cons (pv 1) pa_nil))) (pss_cons (ps_for (passes_of rfl) rfl (Vc.pi_enumT (by rfl) T.n_enumerate (pa_cons (pe_fld (pv 0) rfl) pa_nil)) (pg_tup rfl (pgs_cons (pg_name (i := 3) sc_Write_after.nd rfl (Or.inl rfl)) (pgs_cons (pg_name (i := 4) sc_Write_after.nd rfl (Or.inl rfl)) pgs_nil))) (pss_cons (ps_if (pt_cmpR op_ge (pe_op op_add (pe_fld (pv 0) rfl) (pv 3)) (pe_callB call_len_seq (by rfl) T.n_len (by decide +kernel) (pa_cons (pv 2) pa_nil)) (nomark _)) (pss_one (Vc.ps_raiseT rfl (takes_of rfl rfl rfl rfl) (pmk_oex T.ox_BadAddress T.i_BadAddress T.ti_BadAddress G_BadAddressu_initu (by exact hr.mono (by decide)) T.b_BadAddressu_initu .nil pass0 (by rfl) T.g_BadAddress (pa_cons (pe_op op_add (pe_fld (pv 0) rfl) (pv 3)) pa_nil)))) pss_nil) (pss_one (ps_asg (pv 4) (pg_sub (pv 2) (pe_op op_add (pe_fld (pv 0) rfl) (pv 3)) set_list))))) (pss_one (ps_ret (pv 2))))), ?_⟩
    walk_at "go"
    refine given_any hg (by omega) fun L H1 nL e1 hL => ?_
    have hp1 := e1.at0 hp
    walk_at "go"
    refine Vc.go_iEnumT ?_
    walk_at "go"
    have hv1 := e1.tup _ _ hv
    refine ⟨v, _, rfl, .of hv1, for_it (walk_enumT (xs := ns.map V.int)) (fun i σ H' => (∃ y z : Option V, σ = [some (.ref p), some (.ref g), some (.ref L), y, z]) ∧ Vc.Ed [] H H' ∧ H' L = some (.lst ((putN b ns vals i).map V.int)) ∧ (i = 0 ∨ b + i ≤ vals.length)) ⟨⟨_, _, rfl⟩, e1, hL, .inl rfl⟩ (fun i σ' H' _ h => .of (h.2.1.tup _ _ hv)) (fun i u σ' H5 H6 hi hp1 hy => ?_) fun σ' H5 hp1 => ?_⟩
    · obtain ⟨⟨y, z, rfl⟩, e5, hL5, li⟩ := hp1
      have hi : i < ns.length := by rw [List.length_map] at hi; exact hi
      obtain ⟨t', a', b', rfl, nt, q, ha, hbx⟩ := hy
      subst q
      cases ha
      have hbx : (ns.map V.int)[i]? = some b' := hbx
      rw [List.getElem?_map] at hbx
      obtain ⟨n, hn, rfl⟩ := Option.map_eq_some_iff.mp hbx
      generalize hu6 : upd _ t' _ = H6
      obtain ⟨e6, ht6⟩ := Vc.alloc hu6 nt
      have hp6 := e6.at0 (e5.at0 hp)
      have hL6 := e6.at0 hL5
      refine ⟨t', _, rfl, .of ht6, rfl, _, _, rfl, ?_⟩
      walk_at "go"
      refine ⟨_, _, rfl, ?_⟩
      walk_at "go"
      refine ⟨rfl, ?_⟩
      walk_at "go"
      rw [List.length_map, putN_len]
      refine Vc.go_ite (fun h1 => ?_) (fun h1 => ?_)
      · walk_at "go"
        intro d H8 _ e8 hd
        refine kE ((b : Int) + (i : Nat)) ?_ d H8 ((e5.ex e6).ex e8) hd
        unfold aftE
        simp only
        rw [if_neg (by rw [Int.toNat_natCast]; omega)]
        congr 1
        rcases li with rfl | li
        · omega
        · omega
      · walk_at "go"
        refine Vc.go_setL hL6 (j := b + i) (by unfold ixN; rw [List.length_map, putN_len, if_pos (by omega), if_pos (by omega)]; rfl) ?_
        rw [set_map]
        generalize hu7 : upd _ L _ = H7
        obtain ⟨e7, hL7⟩ := Vc.chg hu7 hL6
        refine ⟨⟨_, _, rfl⟩, (e5.ex e6).one e7 (.inr nL), ?_, .inr (by omega)⟩
        have en : ns.getD i 0 = n := by rw [List.getD_eq_getElem?_getD, hn]; rfl
        rw [hL7, ← en]; rfl
    · obtain ⟨⟨y, z, rfl⟩, e5, hL5, li⟩ := hp1
      rw [List.length_map] at li hL5
      walk_at "go"
      refine kQ _ ?_ L H5 e5 nL hL5
      unfold aftE
      simp only
      rw [if_pos (by rw [Int.toNat_natCast]; omega), Int.toNat_natCast]
theorem fld_af (t v : Addr) : ∀ d : SD, (d.fld t v).lookup ("after" : Str) = none
  | .wr _ _ => rfl
  | .sy => rfl
  | .ps _ => rfl
theorem ok_Plan_after (T : Txt K mg A) : FnOk PG w K mg base (CX PG w) 7 A.f_Plan_after A.d_Plan_after ["self", "values"] (spPlanAfter A K) := by
  have G_Imageu_iteru := ok_Imageu_iteru (P := PG) (w := w) (base := base) T
  have G_Imageu_lenu := ok_Imageu_lenu (P := PG) (w := w) (base := base) T
  have G_Step_after := ok_Step_after (P := PG) (w := w) (base := base) T
  have G_Write_after := ok_Write_after (w := w) (base := base) T
  refine T.F_Plan_after.okX sc_Plan_after (fun vs H Q E h => ?_) (fun cdv Ar outer s H vs Q E hr h => ?_)
  · obtain ⟨p, g, vals, ds, rfl, _⟩ := h
    rfl
  · obtain ⟨p, g, vals, ds, rfl, hP, hg, vl, gd, kE, kQ⟩ := h
    obtain ⟨dx, t, xs, hp, ht, hs, l⟩ := hP.ex
    have cl := T.cl_Plan
    have no1 := T.no_Plan_listed
    refine ⟨_, (pss_cons (ps_set (i := 2) sc_Plan_after.nd rfl (Or.inl rfl) (pe_callTy (Vc.call_or Vc.call_lstD (Vc.call_listLi (by rfl) G_Imageu_iteru T.sp_Image_Imageu_iteru T.b_Imageu_iteru G_Imageu_lenu T.sp_Image_Imageu_lenu T.b_Imageu_lenu (by exact hr.mono (by decide)))) (by rfl) T.n_list (by decide +kernel) (pa_cons (pv 1) pa_nil))) (pss_cons (ps_for (passes_of rfl) rfl (pi_tup (pe_fld (pv 0) rfl)) (pg_name (i := 3) sc_Plan_after.nd rfl (Or.inl rfl)) (pss_one (ps_set (i := 2) sc_Plan_after.nd rfl (Or.inl rfl) (Vc.pe_meth2 (pv 3) G_Step_after (by exact hr.mono (by decide)) T.b_Step_after Vc.passS0 G_Write_after (by exact hr.mono (by decide)) T.b_Write_after (fun σ => passAt (takes_of rfl rfl rfl rfl) σ) (pa_cons (pv 2) pa_nil))))) (pss_one (ps_ret (pv 2))))), ?_⟩
    walk_at "go"
    refine given_any hg (by omega) fun L H1 nL e1 hL => ?_
    have hp1 := e1.at0 hp
    walk_at "go"
    refine ⟨⟨xs, e1.sqt ht⟩, for_it (walk_tup (xs := xs)) (fun i σ H' => ∃ (L' : Addr) (c : List Int) (y : Option V), σ = [some (.ref p), some (.ref g), some (.ref L'), y] ∧ Vc.Ed [] H H' ∧ H L' = none ∧ H' L' = some (.lst (c.map V.int)) ∧ aftP (ds.take i) vals = .ok c) ⟨L, vals, _, rfl, e1, nL, hL, rfl⟩ (fun i σ' H' _ h => (by obtain ⟨_, _, _, _, e, _⟩ := h; exact e.sqt ht)) (fun i u σ' H5 H6 hi hp1 hy => ?_) fun σ' H5 hp1 => ?_⟩
    · obtain ⟨L', c, y, rfl, e5, nL5, hL5, hc⟩ := hp1
      obtain ⟨rfl, hx⟩ := hy
      obtain ⟨p', d, rfl, hd, hS⟩ := hs.get hx
      have hi : i < ds.length := (List.getElem?_eq_some_iff.mp hd).1
      have hS5 := hS.ed0 e5
      obtain ⟨dy, t', v', hp', _⟩ := hS5.ex
      have hc1 := hc
      have e2 : aftP (ds.take (i + 1)) vals = aftE d c := by
        rw [take_suc hd, aftP_app, hc]
        show aftP [d] c = _
        unfold aftP
        cases aftE d c <;> rfl
      have cl5 : c.length ≤ 900 := by rw [aftP_len hc]; exact vl
      have al : ∀ e, aftE d c = .error e → aftP ds vals = .error e := fun e he => by
        rw [← List.take_append_drop (i + 1) ds, aftP_app, e2, he]
      have gl : Given A K H6 L' c := .inl (.of hL5)
      have C := stepC T d
      walk_at "go"
      refine Vc.go_meth2 ?_
      walk_at "go"
      refine ⟨p', _, dy, _, rfl, hp', fld_af t' v' d, C.cl, ?_⟩
      have gd' := gd d (List.mem_of_getElem? hd)
      have fin : ∀ c', aftE d c = .ok c' → ∀ L2 H2, Vc.Ed [] H6 H2 → H6 L2 = none → H2 L2 = some (.lst (c'.map V.int)) → ∃ (L' : Addr) (c : List Int) (y : Option V), [some (V.ref p), some (.ref g), some (.ref L2), some (.ref p')] = [some (.ref p), some (.ref g), some (.ref L'), y] ∧ Vc.Ed [] H H2 ∧ H L' = none ∧ H2 L' = some (.lst (c.map V.int)) ∧ aftP (ds.take (i + 1)) vals = .ok c :=
        fun c' h L2 H2 e n hh => ⟨L2, c', _, rfl, e5.ex e, e5.back n, hh, e2.trans h⟩
      cases d with
      | wr a ns =>
        refine .inr ⟨T.m_Write_after, ?_⟩
        walk_at "go"
        refine ⟨p', L', c, a, ns, rfl, hS5, gl, cl5, gd'.1, gd'.2, fun e he dd H2 e2 hdd => ?_, fun c' he L2 H2 e2 n2 h2 => fin c' he L2 H2 e2 n2 h2⟩
        exact kE e (al e he) dd H2 (e5.ex e2) hdd
      | sy =>
        refine .inl ⟨T.m_Sync_after, ?_⟩
        walk_at "go"
        exact ⟨p', L', c, rfl, gl, cl5, fun L2 H2 e2 n2 h2 => fin c rfl L2 H2 e2 n2 h2⟩
      | ps s =>
        refine .inl ⟨T.m_Pass_after, ?_⟩
        walk_at "go"
        exact ⟨p', L', c, rfl, gl, cl5, fun L2 H2 e2 n2 h2 => fin c rfl L2 H2 e2 n2 h2⟩
    · obtain ⟨L', c, y, rfl, e5, nL5, hL5, hc⟩ := hp1
      rw [hs.len, List.take_length] at hc
      walk_at "go"
      exact kQ c hc L' H5 e5 nL5 hL5
end

end My
namespace My
open PySem PySem.Spec PyProof.Rows L2
/-! ### what a call returns -/
def HeardE (A : Ad) (Q : VK) (cls : Value) (d : Option Addr) (H' : Hp) : Prop := ∃ (i : Int) (dd : Addr), cls = .ref A.C_BadAddress ∧ d = some dd ∧ H' dd = some (.xd [("at", .int i)]) ∧ ∀ H'', Vc.Ed [] H' H'' → Q (.int i) H''
def THeard (A : Ad) (tl : XK → Hp → VK → Prop) (H : Hp) (Q : VK) : Prop := ∀ (E : XK) (R : VK), (∀ cls d H', HeardE A Q cls d H' → E cls d H') → (∀ v H', Q v H' → R v H') → tl E H R
theorem theard_split {A : Ad} {tl : XK → Hp → VK → Prop} {H : Hp} {Q : VK} (F : V → Hp → Prop) (main : THeard A tl H F) (tail : ∀ v H', F v H' → Q v H') : THeard A tl H Q := fun E R hE hR =>
  main E R (fun cls d H' ⟨i, dd, h1, h2, h3, h4⟩ => hE cls d H' ⟨i, dd, h1, h2, h3, fun H'' e' => tail _ _ (h4 H'' e')⟩) (fun v H' h => hR v H' (tail _ _ h))
theorem gives__law_told {X : Cx} {A : Ad} {q : Str} (T : Txt X.K X.mg A) (cdg : Value) : Vc.GivesS 9 X ["_law_ask", "_law_caught", "error"] "_law_told" (defScope s__law_told) A.f__law_told cdg (defBody s__law_told) "_law_ask" q (THeard A) := by
  intro f c' s H Q tl hr act hc h
  refine ⟨_, (pss_cons (ps_set (i := 1) sc__law_told.nd rfl (Or.inl rfl) pe_non) (pss_cons (Vc.ps_tryX (i := 2) rfl rfl sc__law_told.nd rfl rfl ⟨rfl, by decide, .inl T.g_CodeError⟩ takes0 (fun W pn xe tk po => (pss_one (ps_ret (act W pn xe _ _ tk)))) (fun a pn => (pss_one (ps_set (i := 1) sc__law_told.nd rfl (Or.inl rfl) (pv 2))))) (pss_cons (ps_if (PW.pt (pw_or (pt_not (pt_val (pe_callB Vc.call_isT (by rfl) T.n_isinstance (by decide +kernel) (pa_cons (pv 1) (pa_cons (pe_glob (v := .ref A.C_BadAddress) (by rfl) T.g_BadAddress rfl) pa_nil))))) (pw_or1 (pt_not (pt_val (pe_callB Vc.call_isT (by rfl) T.n_isinstance (by decide +kernel) (pa_cons (pv 1) (pa_cons (pe_glob (v := .ref A.C_BadInput) (by rfl) T.g_BadInput rfl) pa_nil)))))))) (pss_one (ps_ret pe_str)) pss_nil) (pss_one (ps_ret (pe_ifExp (pt_val (pe_callB Vc.call_isTT (by rfl) T.n_isinstance (by decide +kernel) (pa_cons (pv 1) (pa_cons (pe_tup (pa_cons (pe_glob (v := .ref A.C_BadByte) (by rfl) T.g_BadByte rfl) (pa_cons (pe_glob (v := .ref A.C_BadStep) (by rfl) T.g_BadStep rfl) pa_nil))) pa_nil)))) pe_str (Vc.pe_xfT (pv 1)))))))), ?_⟩
  walk_at "go"
  refine ⟨rfl, hc, h _ _ (fun cls d H' he => ?_) fun v H' hv => ?_⟩
  · obtain ⟨i, dd, rfl, rfl, hd, k⟩ := he
    refine Vc.go_wX T.exm_BadAddress_CodeError fun a H3 na e3 ha => ?_
    have hE : Vc.ErrAt H3 a A.C_BadAddress [("at", .int i)] := Vc.ErrAt.of ha e3 hd
    have ec := T.ec_BadAddress
    have xf := T.xf_BadAddress
    have no0 := T.no_BadAddress_at
    have kt1 := T.kit_BadAddress_BadAddress
    have kt2 := T.kit_BadAddress_BadInput
    have kt3 := T.kit_BadAddress_BadByte
    have kt4 := T.kit_BadAddress_BadStep
    walk_at "goo"
    intro pt npt
    generalize hu4 : upd _ pt _ = H4
    obtain ⟨e4, hpt⟩ := Vc.alloc hu4 npt
    have hE4 := hE.ed e4 (fun _ z => nomatch z)
    walk_at "go"
    refine Vc.go_isNo (as := [A.C_BadByte, A.C_BadStep]) hE4 ec hpt (fun c hc => ?_) ?_
    · simp only [List.mem_cons, List.not_mem_nil, or_false] at hc
      rcases hc with rfl | rfl <;> assumption
    refine ⟨false, rfl, ?_⟩
    rw [if_neg (by decide)]
    walk_at "goo"
    exact k H4 (e3.ex e4)
  · walk_at "go"
    exact hv
/-! ### what is due -/
def dueN (ds : List SD) (c : List Int) : List Int ⊕ Int := match aftP ds c with
  | .ok c' => .inl c'
  | .error e => .inr e
/-- what comes back: a new list, or an address -/
def DueAt (K : PySem.W.Frag) (H0 H : Hp) (v : V) : Except Int (List Int) → Prop
  | .ok c => ∃ L, v = .ref L ∧ H0 L = none ∧ H L = some (.lst (c.map V.int))
  | .error e => v = .int e
def spDue (A : Ad) (K : PySem.W.Frag) : Sp := fun vs H Q _ => ∃ (g l : Addr) (xs : List V) (vals : List Int) (ds : List SD), vs = [.ref g, .ref l] ∧ H g = some (.lst (vals.map V.int)) ∧ vals.length ≤ 900 ∧ H l = some (.lst xs) ∧ OnesAt H xs ds ∧ ds.length ≤ 100 ∧ (∀ d ∈ ds, d.Go) ∧
  ∀ v H', Vc.Ed [] H H' → DueAt K H H' v (aftP ds vals) → Q v H'
section
variable {P : Program} {w : World} {K : PySem.W.Frag} {mg : Str → Option Value} {base : Heap} {A : Ad}
theorem ok__law_due (T : Txt K mg A) : FnOk P w K mg base CX0 1 A.f__law_due A.d__law_due ["_law_cells", "_law_steps"] (spDue A K) := by
  refine T.F__law_due.ok sc__law_due (fun vs H Q E h => ?_) (fun cdv Ar outer s H vs Q E hr h => ?_)
  · obtain ⟨g, l, xs, vals, ds, rfl, _⟩ := h
    rfl
  · obtain ⟨g, l, xs, vals, ds, rfl, hg, vl, hl, hs, dl, gd, k⟩ := h
    refine ⟨_, (pss_cons (ps_set (i := 2) sc__law_due.nd rfl (Or.inl rfl) (pe_callTy Vc.call_lstD (by rfl) T.n_list (by decide +kernel) (pa_cons (pv 0) pa_nil))) (pss_cons (ps_for PassesOwn.never rfl (pi_list (pv 1)) (pg_name (i := 3) sc__law_due.nd rfl (Or.inl rfl)) (pss_one (ps_if (pt_cmpR op_eq (pe_ix ix_tup (pv 3) pe_int (fun _ _ => rfl)) pe_str (nomark _)) (pss_one (ps_for PassesOwn.never rfl (Vc.pi_enumT (by rfl) T.n_enumerate (pa_cons (pe_ix ix_tup (pv 3) pe_int (fun _ _ => rfl)) pa_nil)) (pg_tup rfl (pgs_cons (pg_name (i := 4) sc__law_due.nd rfl (Or.inl rfl)) (pgs_cons (pg_name (i := 5) sc__law_due.nd rfl (Or.inl rfl)) pgs_nil))) (pss_cons (ps_if (pt_cmpR op_ge (pe_op op_add (pe_ix ix_tup (pv 3) pe_int (fun _ _ => rfl)) (pv 4)) (pe_callB call_len_seq (by rfl) T.n_len (by decide +kernel) (pa_cons (pv 2) pa_nil)) (nomark _)) (pss_one (ps_ret (pe_op op_add (pe_ix ix_tup (pv 3) pe_int (fun _ _ => rfl)) (pv 4)))) pss_nil) (pss_one (ps_asg (pv 5) (pg_sub (pv 2) (pe_op op_add (pe_ix ix_tup (pv 3) pe_int (fun _ _ => rfl)) (pv 4)) set_list)))))) pss_nil))) (pss_one (ps_ret (pv 2))))), ?_⟩
    walk_at "go"
    intro L nL
    generalize hu1 : upd _ L _ = H1
    obtain ⟨e1, hL⟩ := Vc.alloc hu1 nL
    have hl1 := e1.at0 hl
    walk_at "go"
    refine ⟨⟨_, .of hl1⟩, for_it (walk_list (xs := xs)) (fun i σ H' => ∃ (c : List Int) (y3 y4 y5 : Option V), σ = [some (.ref g), some (.ref l), some (.ref L), y3, y4, y5] ∧ Vc.Ed [] H H' ∧ H' L = some (.lst (c.map V.int)) ∧ aftP (ds.take i) vals = .ok c) ⟨vals, _, _, _, rfl, e1, hL, rfl⟩ (fun i σ' H' _ h => .of (by obtain ⟨_, _, _, _, _, e, _⟩ := h; exact e.at0 hl)) (fun i u σ' H5 H6 hi hp1 hy => ?_) fun σ' H5 hp1 => ?_⟩
    · obtain ⟨c, y3, y4, y5, rfl, e5, hL5, hc⟩ := hp1
      obtain ⟨rfl, hx⟩ := hy
      obtain ⟨t, d, rfl, hd, hO⟩ := hs.get hx
      have hi : i < ds.length := (List.getElem?_eq_some_iff.mp hd).1
      have hO6 := hO.ed e5
      have gd' := gd d (List.mem_of_getElem? hd)
      have e2 : aftP (ds.take (i + 1)) vals = aftE d c := by
        rw [take_suc hd, aftP_app, hc]
        show aftP [d] c = _
        unfold aftP
        cases aftE d c <;> rfl
      have cl5 : c.length ≤ 900 := by rw [aftP_len hc]; exact vl
      have al : ∀ e, aftE d c = .error e → aftP ds vals = .error e := fun e he => by
        rw [← List.take_append_drop (i + 1) ds, aftP_app, e2, he]
      have ho := hO6.at_
      match d, ho, gd', e2, al with
      | .sy, ht, _, e2, _ =>
        walk_at "go"
        exact ⟨c, _, _, _, rfl, e5, hL5, e2⟩
      | .ps s, ht, _, e2, _ =>
        walk_at "go"
        exact ⟨c, _, _, _, rfl, e5, hL5, e2⟩
      | .wr a ns, ⟨v, ht, hv⟩, ⟨a0, n1⟩, e2, al =>
        obtain ⟨b, rfl⟩ : ∃ b : Nat, a = b := ⟨a.toNat, by omega⟩
        walk_at "go"
        refine Vc.go_iEnumT ?_
        walk_at "go"
        refine ⟨v, _, rfl, .of hv, for_it (walk_enumT (xs := ns.map V.int)) (fun j σ H' => (∃ y z : Option V, σ = [some (.ref g), some (.ref l), some (.ref L), some (.ref t), y, z]) ∧ Vc.Ed [] H H' ∧ Vc.Ed [L] H6 H' ∧ H' L = some (.lst ((putN b ns c j).map V.int)) ∧ (j = 0 ∨ b + j ≤ c.length)) ⟨⟨_, _, rfl⟩, e5, .refl, hL5, .inl rfl⟩ (fun j σ' H' _ h => .of (h.2.2.1.tup _ _ hv)) (fun j u σ' H7 H8 hj hp1 hy => ?_) fun σ' H7 hp1 => ?_⟩
        · obtain ⟨⟨y, z, rfl⟩, e7, f7, hL7, li⟩ := hp1
          have hj : j < ns.length := by rw [List.length_map] at hj; exact hj
          obtain ⟨t', a', b', rfl, nt, q, ha, hbx⟩ := hy
          subst q
          cases ha
          have hbx : (ns.map V.int)[j]? = some b' := hbx
          rw [List.getElem?_map] at hbx
          obtain ⟨n, hn, rfl⟩ := Option.map_eq_some_iff.mp hbx
          generalize hu8 : upd _ t' _ = H8
          obtain ⟨e8, ht8⟩ := Vc.alloc hu8 nt
          have hL8 := e8.at0 hL7
          have hc8 := e8.tup _ _ (f7.tup _ _ ht)
          refine ⟨t', _, rfl, .of ht8, rfl, _, _, rfl, ?_⟩
          walk_at "go"
          refine ⟨_, _, rfl, ?_⟩
          walk_at "go"
          refine ⟨rfl, ?_⟩
          walk_at "go"
          rw [List.length_map, putN_len]
          refine Vc.go_ite (fun h1 => ?_) (fun h1 => ?_)
          · walk_at "go"
            refine k _ H8 (e7.ex e8) ?_
            rw [al ((b : Int) + (j : Nat)) ?_]
            · rfl
            unfold aftE
            simp only
            rw [if_neg (by rw [Int.toNat_natCast]; omega)]
            congr 1
            rcases li with rfl | li
            · omega
            · omega
          · walk_at "go"
            refine Vc.go_setL hL8 (j := b + j) (by unfold ixN; rw [List.length_map, putN_len, if_pos (by omega), if_pos (by omega)]; rfl) ?_
            rw [set_map]
            generalize hu9 : upd _ L _ = H9
            obtain ⟨e9, hL9⟩ := Vc.chg hu9 hL8
            refine ⟨⟨_, _, rfl⟩, (e7.ex e8).one e9 (.inr nL), (f7.ex e8).one e9 (.inl (List.mem_singleton.mpr rfl)), ?_, .inr (by omega)⟩
            have en : ns.getD j 0 = n := by rw [List.getD_eq_getElem?_getD, hn]; rfl
            rw [hL9, ← en]; rfl
        · obtain ⟨⟨y, z, rfl⟩, e7, f7, hL7, li⟩ := hp1
          rw [List.length_map] at li hL7
          walk_at "go"
          refine ⟨_, _, _, _, rfl, e7, hL7, ?_⟩
          rw [e2]
          unfold aftE
          simp only
          rw [if_pos (by rw [Int.toNat_natCast]; omega), Int.toNat_natCast]
    · obtain ⟨c, y3, y4, y5, rfl, e5, hL5, hc⟩ := hp1
      rw [hs.len, List.take_length] at hc
      walk_at "go"
      exact k _ H5 e5 (by rw [hc]; exact ⟨L, rfl, nL, hL5⟩)
end

end My
namespace My
open PySem PySem.Spec PyProof.Rows L2
/-! ### rows of bytes, and the steps drawn -/
def spShaped (A : Ad) (K : PySem.W.Frag) : Sp := fun vs H Q _ => ∃ (g : Addr) (vals : List Int) (m : Int), vs = [.ref g, .int m] ∧ H g = some (.lst (vals.map V.int)) ∧ vals.length ≤ 900 ∧ (∀ x ∈ vals, 0 ≤ x ∧ x ≤ 255) ∧ ∀ p H', Vc.Ed [] H H' → Given A K H' p vals → Q (.ref p) H'
def spDrawnB : Sp := fun vs H Q _ => ∃ (b c : Addr) (n : Nat) (m : Nat), vs = [.ref b, .int (m : Int)] ∧ Pen H b c n ∧ n ≤ 900000 ∧ m ≤ 24 ∧ ∀ t d H', Vc.Ed [b] H H' → Pen H' b c (n + 10) → OneAt H' t d → d.Dr → Q (.ref t) H'
section
variable {w : World} {K : PySem.W.Frag} {mg : Str → Option Value} {base : Heap} {A : Ad}
theorem ok__law_shaped (T : Txt K mg A) : FnOk PG w K mg base CX0 5 A.f__law_shaped A.d__law_shaped ["_law_cells", "_law_way"] (spShaped A K) := by
  have G_Imageu_initu := ok_Imageu_initu (P := PG) (w := w) (base := base) T
  refine T.F__law_shaped.ok sc__law_shaped (fun vs H Q E h => ?_) (fun cdv Ar outer s H vs Q E hr h => ?_)
  · obtain ⟨g, vals, m, rfl, _⟩ := h
    rfl
  · obtain ⟨g, vals, m, rfl, hg, vl, hb, k⟩ := h
    refine ⟨_, (pss_cons (ps_if (pt_cmpR op_eq (pv 1) pe_int (nomark _)) (pss_one (ps_ret (pe_callTy Vc.call_lstD (by rfl) T.n_list (by decide +kernel) (pa_cons (pv 0) pa_nil)))) pss_nil) (pss_one (ps_ret (pe_ifExp (pt_cmpR op_eq (pv 1) pe_int (nomark _)) (pe_callTy Vc.call_tupD (by rfl) T.n_tuple (by decide +kernel) (pa_cons (pv 0) pa_nil)) (pe_make T.mk_Image G_Imageu_initu (by exact hr.mono (by decide)) (by rfl) T.g_Image T.b_Imageu_initu .nil pass0 (pa_cons (pv 0) pa_nil)))))), ?_⟩
    walk_at "go"
    refine Vc.go_ite (fun h1 => ?_) (fun h1 => ?_)
    · walk_at "go"
      intro L nL
      generalize hu1 : upd _ L _ = H1
      obtain ⟨e1, hL⟩ := Vc.alloc hu1 nL
      exact k L H1 e1 (.inl (.of hL))
    · walk_at "go"
      refine Vc.go_ite (fun h2 => ?_) (fun h2 => ?_)
      · walk_at "go"
        intro L nL
        generalize hu1 : upd _ L _ = H1
        obtain ⟨e1, hL⟩ := Vc.alloc hu1 nL
        exact k L H1 e1 (.inr (.inl (.of hL)))
      · walk_at "go"
        intro p px np npx ne
        generalize hu1 : upd _ _ _ = H1
        obtain ⟨e1, hp, _⟩ := Vc.allocI hu1 np npx ne
        refine ⟨p, px, g, vals, rfl, hp, .of (e1.at0 hg), by omega, hb, fun l H2 e2 nl hI => ⟨rfl, ?_⟩⟩
        exact k p H2 (e1.one e2 (.inr np)) (.inr (.inr ⟨l, hI⟩))
theorem ok__law_drawn (T : Txt K mg A) : FnOk PG w K mg base CX0 2 A.f__law_drawn A.d__law_drawn ["_law_pen_here", "_law_size"] spDrawnB := by
  have G__law_draw := ok__law_draw (P := PG) (w := w) (base := base) T
  refine T.F__law_drawn.ok sc__law_drawn (fun vs H Q E h => ?_) (fun cdv Ar outer s H vs Q E hr h => ?_)
  · obtain ⟨b, c, n, m, rfl, _⟩ := h
    rfl
  · obtain ⟨b, c, n, m, rfl, hB, nl, ml, k⟩ := h
    refine ⟨_, (pss_cons (ps_set (i := 2) sc__law_drawn.nd rfl (Or.inl rfl) (pe_call G__law_draw (by exact hr.mono (by decide)) (by rfl) T.g__law_draw T.F__law_draw.kp T.b__law_draw .nil pass0 (pa_cons (pv 0) (pa_cons pe_int pa_nil)))) (pss_cons (ps_if (pt_cmpR op_lt (pv 2) pe_int (nomark _)) (pss_one (ps_ret (pe_ix ix_list (pe_lst (pa_cons (pe_tup (pa_cons pe_str pa_nil)) (pa_cons (pe_tup (pa_cons pe_str (pa_cons (pe_call G__law_draw (by exact hr.mono (by decide)) (by rfl) T.g__law_draw T.F__law_draw.kp T.b__law_draw .nil pass0 (pa_cons (pv 0) (pa_cons pe_int pa_nil))) pa_nil))) pa_nil))) (pv 2) (fun _ _ => rfl)))) pss_nil) (pss_cons (ps_set (i := 3) sc__law_drawn.nd rfl (Or.inl rfl) (pe_callTy Vc.call_tupD (by rfl) T.n_tuple (by decide +kernel) (pa_cons (pe_lc (own := [("_law_k", 6)]) (g := gName 6) rfl sc__law_drawn.nd (pi_range1 (by rfl) T.n_range (pa_cons (pe_op op_add pe_int (pe_call G__law_draw (by exact hr.mono (by decide)) (by rfl) T.g__law_draw T.F__law_draw.kp T.b__law_draw .nil pass0 (pa_cons (pv 0) (pa_cons pe_int pa_nil)))) pa_nil)) (blkOk_by (own := [("_law_k", 6)]) (N := ["_law_pen_here", "_law_size", "_law_way", "_law_given", "_law_last", "_law_some", "_law_k"]) (sc := defScope s__law_drawn) (by decide +kernel)) (fun _ _ _ _ _ => by exact (pg_name (i := 6) sc__law_drawn.nd rfl (Or.inl rfl))) (fun _ _ _ _ _ => by exact pts_nil) (fun _ _ _ _ _ => by (refine' Vc.blkE ?h ?q; (case h => exact (pe_call G__law_draw (by exact hr.mono (by decide)) (by rfl) T.g__law_draw T.F__law_draw.kp T.b__law_draw .nil pass0 (pa_cons (pv 0) (pa_cons pe_int pa_nil)))); (case q => first | exact rfl | (dsimp only; done) | (dsimp only; exact rfl))))) pa_nil))) (pss_cons (ps_set (i := 4) sc__law_drawn.nd rfl (Or.inl rfl) (pe_callB (call_max2 rfl) (by rfl) T.n_max (by decide +kernel) (pa_cons pe_int (pa_cons (pe_op op_sub (pv 1) (pe_callB call_len_seq (by rfl) T.n_len (by decide +kernel) (pa_cons (pv 3) pa_nil))) pa_nil)))) (pss_cons (ps_set (i := 5) sc__law_drawn.nd rfl (Or.inl rfl) (pe_lst (pa_cons (pv 4) (pa_cons (pe_call G__law_draw (by exact hr.mono (by decide)) (by rfl) T.g__law_draw T.F__law_draw.kp T.b__law_draw .nil pass0 (pa_cons (pv 0) (pa_cons (pe_op op_add (pv 4) pe_int) pa_nil))) (pa_cons (pe_call G__law_draw (by exact hr.mono (by decide)) (by rfl) T.g__law_draw T.F__law_draw.kp T.b__law_draw .nil pass0 (pa_cons (pv 0) (pa_cons pe_int pa_nil))) (pa_cons (pe_call G__law_draw (by exact hr.mono (by decide)) (by rfl) T.g__law_draw T.F__law_draw.kp T.b__law_draw .nil pass0 (pa_cons (pv 0) (pa_cons (pe_op op_add (pv 4) pe_int) pa_nil))) pa_nil)))))) (pss_one (ps_ret (pe_tup (pa_cons pe_str (pa_cons (pe_ix ix_list (pv 5) (pe_op op_sub (pv 2) pe_int) (fun _ _ => rfl)) (pa_cons (pv 3) pa_nil))))))))))), ?_⟩
    walk_at "go"
    refine ⟨b, c, n, 6, rfl, hB, by show n ≤ 1000000; omega, by omega, by omega, fun i H1 i0 i1 e1 hB1 => ?_⟩
    walk_at "go"
    refine Vc.go_ite (fun h1 => ?_) (fun h1 => ?_)
    · walk_at "go"
      intro a1 na1
      generalize hu2 : upd _ a1 _ = H2
      obtain ⟨e2, ha1⟩ := Vc.alloc hu2 na1
      have hB2 := hB1.ed0 e2
      walk_at "go"
      refine ⟨b, c, n + 1, 6, rfl, hB2, by show n + 1 ≤ 1000000; omega, by omega, by omega, fun s H3 s0 s1 e3 hB3 => ?_⟩
      walk_at "go"
      intro a2 na2
      generalize hu4 : upd _ a2 _ = H4
      obtain ⟨e4, ha2⟩ := Vc.alloc hu4 na2
      walk_at "go"
      intro l nl5
      generalize hu5 : upd _ l _ = H5
      obtain ⟨e5, hl⟩ := Vc.alloc hu5 nl5
      have e15 : Vc.Ed [b] H H5 := (((e1.ex e2).trans e3 fun _ z => .inl z).ex e4).ex e5
      have g1 := e5.tup _ _ (e4.tup _ _ (e3.tup _ _ ha1))
      have g2 := e5.tup _ _ ha2
      obtain ⟨a, d, hv, hO, hD⟩ : ∃ (a : Addr) (d : SD), atI [V.ref a1, .ref a2] i = some (.ref a) ∧ OneAt H5 a d ∧ d.Dr := by
        have : i = 0 ∨ i = 1 := by omega
        rcases this with rfl | rfl
        · exact ⟨a1, .sy, rfl, ⟨g1⟩, trivial⟩
        · exact ⟨a2, .ps s, rfl, ⟨g2⟩, s0, s1⟩
      walk_at "go"
      exact k a d H5 e15 (((hB3.ed0 e4).ed0 e5).up (by omega)) hO hD
    walk_at "go"
    refine ⟨b, c, n + 1, 4, rfl, hB1, by show n + 1 ≤ 1000000; omega, by omega, by omega, fun q H3 m0 m1 e3 hB3 => ?_⟩
    walk_at "go"
    refine ⟨by omega, by omega, Vc.lc_by walk_range (fun L j H' => Vc.Ed [b] H3 H' ∧ Pen H' b c (n + 1 + 1 + j) ∧ ∃ vs : List Int, vs.length = j ∧ (∀ v ∈ vs, 0 ≤ v ∧ v < 256) ∧ H' L = some (.lst (vs.map V.int))) (fun L H4 nL e4 hL => ⟨e4.mono (fun _ z => nomatch z), hB3.ed0 e4, [], rfl, (fun _ z => nomatch z), hL⟩) (fun _ _ _ _ _ _ => trivial) ?_ ?_⟩
    · rintro L j x H4 H5 nL hj ⟨e4, hB4, vs, lv, hv, hL⟩ ⟨rfl, rfl⟩
      walk_at "go"
      refine ⟨rfl, ?_⟩
      walk_at "go"
      have j4 : j < 4 := by omega
      refine ⟨b, c, n + 1 + 1 + j, 256, rfl, hB4, by show n + 1 + 1 + j ≤ 1000000; omega, by omega, by omega, fun v H6 v0 v1 e6 hB6 => ?_⟩
      have nb := hB3.fb nL
      have hL6 := e6.at1 nb.1.symm hL
      refine ⟨_, hL6, small1000 (by rw [List.length_map]; omega), ?_⟩
      generalize hu7 : upd _ L _ = H7
      obtain ⟨e7, hL7⟩ := Vc.chg hu7 hL6
      refine ⟨(e4.trans e6 fun _ z => .inl z).one e7 (.inr nL), hB6.ed1 e7 nb.1 nb.2, vs ++ [v], by rw [List.length_append, lv]; rfl, fun u hu => ?_, by rw [List.map_append]; exact hL7⟩
      rcases List.mem_append.mp hu with h | h
      · exact hv u h
      · rw [List.mem_singleton.mp h]; exact ⟨v0, v1⟩
    · rintro L H4 nL ⟨e4, hB4, vs, lv, hv, hL⟩
      walk_at "go"
      intro v nv
      generalize hu5 : upd _ v _ = H5
      obtain ⟨e5, hv5⟩ := Vc.alloc hu5 nv
      have hB5 := hB4.ed0 e5
      have e05 : Vc.Ed [b] H H5 := (((e1.trans e3 fun _ z => .inl z).trans e4 fun _ z => .inl z).ex e5)
      walk_at "go"
      refine ⟨_, _, rfl, ?_⟩
      rw [List.length_map]
      obtain ⟨la, hla, l0, l1⟩ : ∃ la : Int, (if (m : Int) - (vs.length : Nat) > 0 then (m : Int) - (vs.length : Nat) else 0) = la ∧ 0 ≤ la ∧ la ≤ 23 := ⟨_, rfl, by split <;> omega, by split <;> omega⟩
      rw [hla]
      walk_at "go"
      refine ⟨b, c, n + 1 + 1 + (1 + q).toNat, la + 1, rfl, hB5, (by show n + 1 + 1 + (1 + q).toNat ≤ 1000000; omega), by omega, by omega, fun x1 H6 x10 x11 e6 hB6 => ?_⟩
      walk_at "go"
      refine ⟨b, c, n + 1 + 1 + (1 + q).toNat + 1, 24, rfl, hB6, (by show n + 1 + 1 + (1 + q).toNat + 1 ≤ 1000000; omega), by omega, by omega, fun x2 H7 x20 x21 e7 hB7 => ?_⟩
      walk_at "go"
      refine ⟨b, c, n + 1 + 1 + (1 + q).toNat + 1 + 1, la + 1, rfl, hB7, (by show n + 1 + 1 + (1 + q).toNat + 1 + 1 ≤ 1000000; omega), by omega, by omega, fun x3 H8 x30 x31 e8 hB8 => ?_⟩
      walk_at "go"
      intro l nl9
      generalize hu9 : upd _ l _ = H9
      obtain ⟨e9, hl⟩ := Vc.alloc hu9 nl9
      obtain ⟨a, hav, a0, a1⟩ : ∃ a : Int, atI [V.int la, .int x1, .int x2, .int x3] (i - 2) = some (.int a) ∧ 0 ≤ a ∧ a < 24 := by
        have : i = 2 ∨ i = 3 ∨ i = 4 ∨ i = 5 := by omega
        rcases this with rfl | rfl | rfl | rfl
        · exact ⟨la, rfl, l0, by omega⟩
        · exact ⟨x1, rfl, x10, by omega⟩
        · exact ⟨x2, rfl, x20, x21⟩
        · exact ⟨x3, rfl, x30, by omega⟩
      walk_at "go"
      intro t nt
      generalize hu10 : upd _ t _ = H10
      obtain ⟨e10, ht⟩ := Vc.alloc hu10 nt
      have e0A : Vc.Ed [b] H H10 := (((((e05.trans e6 fun _ z => .inl z).trans e7 fun _ z => .inl z).trans e8 fun _ z => .inl z).ex e9).ex e10)
      exact k t (.wr a vs) H10 e0A (((hB8.ed0 e9).ed0 e10).up (by omega)) ⟨v, ht, e10.tup _ _ (e9.tup _ _ (e8.tup _ _ (e7.tup _ _ (e6.tup _ _ hv5))))⟩ ⟨a0, a1, by omega, by omega, hv⟩
end

end My
namespace My
open PySem PySem.Spec PyProof.Rows L2
/-! ### what is told of rows -/
theorem Pen.edx {H H' : Hp} {b c : Addr} {n : Nat} (e : Vc.EdX [] H H') (h : Pen H b c n) : Pen H' b c n := by
  obtain ⟨ns, a, r, B, l⟩ := h
  exact ⟨ns, a, r, ⟨e.at0 B.ob, e.at0 B.cl, B.len, B.a0, B.r0⟩, l⟩
theorem Given.edx {A : Ad} {K : PySem.W.Frag} {H H' : Hp} {h : Addr} {vals : List Int} (e : Vc.EdX [] H H') (X : Given A K H h vals) : Given A K H' h vals := by
  rcases X with X | X | ⟨l, ⟨dx, X⟩, Y⟩
  · exact .inl (e.sql (fun z => nomatch z) X)
  · exact .inr (.inl (e.sqt X))
  · exact .inr (.inr ⟨l, ⟨dx, e.at0 X⟩, e.at0 Y⟩)
theorem Given.edL {A : Ad} {K : PySem.W.Frag} {H H' : Hp} {h L : Addr} {vals : List Int} (nL : Vc.Nw H L) (e : Vc.EdX [L] H H') (X : Given A K H h vals) : Given A K H' h vals := by
  rcases X with X | X | ⟨l, ⟨dx, X⟩, Y⟩
  · rcases X with (q | ⟨ob, q⟩) | q
    · exact .inl (.inl (.inl (e.at1 (nL.ne q) q)))
    · exact .inl (.inl (.inr ⟨ob, e.frz _ _ _ q⟩))
    · exact .inl (.inr q)
  · exact .inr (.inl (e.sqt X))
  · exact .inr (.inr ⟨l, ⟨dx, e.at1 (nL.ne X) X⟩, e.at1 (nL.ne Y) Y⟩)
theorem pen_row {H : Hp} {b c l : Addr} {n : Nat} {xs : List V} {ds : List SD} (hB : Pen H b c n) (hl : H l = some (.lst xs)) (hO : OnesAt H xs ds) : l ≠ b := fun z => by
  obtain ⟨x, a, r, hb⟩ := hB.lst
  subst z
  rw [hl] at hb
  injection hb with hb
  injection hb with hb
  subst hb
  cases hO with
  | cons a r => cases r
theorem pen_ints {H : Hp} {b c l : Addr} {n : Nat} {vs : List Int} (hB : Pen H b c n) (hl : H l = some (.lst (vs.map V.int))) : l ≠ b := fun z => by
  obtain ⟨x, a, r, hb⟩ := hB.lst
  subst z
  rw [hl] at hb
  injection hb with hb
  injection hb with hb
  cases vs with
  | nil => cases hb
  | cons y ys => cases hb
theorem Given.edb {A : Ad} {K : PySem.W.Frag} {H H' : Hp} {h b c : Addr} {n : Nat} {vals : List Int} (hB : Pen H b c n) (e : Vc.Ed [b] H H') (X : Given A K H h vals) : Given A K H' h vals := by
  obtain ⟨x, a, r, hb⟩ := hB.lst
  rcases X with X | X | ⟨l, ⟨dx, X⟩, Y⟩
  · rcases X with (q | ⟨ob, q⟩) | q
    · exact .inl (.inl (.inl (e.at1 (pen_ints hB q) q)))
    · exact .inl (.inl (.inr ⟨ob, e.frz _ _ _ q⟩))
    · exact .inl (.inr q)
  · exact .inr (.inl (e.sqt X))
  · exact .inr (.inr ⟨l, ⟨dx, e.at1 (Vc.nek X hb fun z => by cases z) X⟩, e.at1 (pen_ints hB Y) Y⟩)
theorem Pen.fbN {H : Hp} {b c p : Addr} {n : Nat} (h : Pen H b c n) (q : Vc.Nw H p) : b ≠ p ∧ c ≠ p := by
  obtain ⟨ns, a, r, B, _⟩ := h
  exact ⟨q.ne B.ob, q.ne B.cl⟩
theorem Given.edbx {A : Ad} {K : PySem.W.Frag} {H H' : Hp} {h b c : Addr} {n : Nat} {vals : List Int} (hB : Pen H b c n) (e : Vc.EdX [b] H H') (X : Given A K H h vals) : Given A K H' h vals := by
  obtain ⟨x, a, r, hb⟩ := hB.lst
  rcases X with X | X | ⟨l, ⟨dx, X⟩, Y⟩
  · rcases X with (q | ⟨ob, q⟩) | q
    · exact .inl (.inl (.inl (e.at1 (pen_ints hB q) q)))
    · exact .inl (.inl (.inr ⟨ob, e.frz _ _ _ q⟩))
    · exact .inl (.inr q)
  · exact .inr (.inl (e.sqt X))
  · exact .inr (.inr ⟨l, ⟨dx, e.at1 (Vc.nek X hb fun z => by cases z) X⟩, e.at1 (pen_ints hB Y) Y⟩)
theorem PlanAt.edbx {A : Ad} {K : PySem.W.Frag} {H H' : Hp} {p b : Addr} {ds : List SD} {ys : List V} (hb : H b = some (.lst ys)) (e : Vc.EdX [b] H H') (h : PlanAt A K H p ds) : PlanAt A K H' p ds := by
  obtain ⟨dx, t, xs, a, c, d, l⟩ := h.ex
  refine ⟨dx, t, xs, e.at1 (Vc.nek a hb fun z => by cases z) a, e.sqt c, d.map fun u s h => ?_, l⟩
  obtain ⟨dx, t, v, a, b, c⟩ := h.ex
  exact ⟨dx, t, v, e.at1 (Vc.nek a hb fun z => by cases z) a, e.tup _ _ b, fun x vs z => e.tup _ _ (c x vs z)⟩
/-- a write at an address below 24, of bytes -/
def SD.By : SD → Prop
  | .wr a vs => 0 ≤ a ∧ a < 24 ∧ 1 ≤ vs.length ∧ ∀ v ∈ vs, 0 ≤ v ∧ v ≤ 255
  | _ => True
theorem SD.Dr.by : ∀ {d : SD}, d.Dr → d.By
  | .wr a vs, ⟨h1, h2, h3, _, h5⟩ => ⟨h1, h2, h3, fun v hv => by have := h5 v hv; omega⟩
  | .sy, _ => trivial
  | .ps s, _ => trivial
theorem SD.By.go : ∀ {d : SD}, d.By → d.Go
  | .wr a vs, ⟨h1, _, h3, _⟩ => ⟨h1, h3⟩
  | .sy, _ => trivial
  | .ps s, _ => trivial
/-- a row of bytes -/
def Cells (c : List Int) : Prop := c.length ≤ 24 ∧ ∀ v ∈ c, 0 ≤ v ∧ v ≤ 255
theorem putN_by {a : Nat} {vs c : List Int} (hc : ∀ v ∈ c, 0 ≤ v ∧ v ≤ 255) (hv : ∀ v ∈ vs, 0 ≤ v ∧ v ≤ 255) : ∀ k, ∀ v ∈ putN a vs c k, 0 ≤ v ∧ v ≤ 255
  | 0 => hc
  | k + 1 => fun v h => by
    rcases List.mem_or_eq_of_mem_set h with h | rfl
    · exact putN_by hc hv k v h
    · rw [List.getD_eq_getElem?_getD]
      cases e : vs[k]? with
      | none => exact ⟨by decide, by decide⟩
      | some x => exact hv x (List.mem_of_getElem? e)
def resD : Except Int (List Int) → PyData
  | .ok c => .list (c.map PyData.int)
  | .error e => .int e
def ResOk : Except Int (List Int) → Prop
  | .ok c => Cells c
  | .error e => 0 ≤ e ∧ e ≤ 24
theorem aftE_ok {d : SD} {c : List Int} (hc : Cells c) (hd : d.By) : ResOk (aftE d c) := by
  cases d with
  | wr a vs =>
    obtain ⟨a0, a1, _, hv⟩ := hd
    unfold aftE
    simp only
    split
    · exact ⟨by rw [putN_len]; exact hc.1, putN_by hc.2 hv _⟩
    · exact ⟨by omega, by have := hc.1; omega⟩
  | sy => exact hc
  | ps s => exact hc
theorem aftP_ok : ∀ {ds : List SD} {c : List Int}, Cells c → (∀ d ∈ ds, d.By) → ResOk (aftP ds c)
  | [], c, hc, _ => hc
  | d :: r, c, hc, hd => by
    have h := aftE_ok hc (hd d List.mem_cons_self)
    unfold aftP
    cases e : aftE d c with
    | ok c2 => rw [e] at h; exact aftP_ok (ds := r) h fun x hx => hd x (List.mem_cons_of_mem _ hx)
    | error z => rw [e] at h; exact h
theorem fw_res {R : Except Int (List Int)} (h : ResOk R) : Vc.Fw (resD R) 200 1 := by
  cases R with
  | ok c =>
    refine Vc.fw_lst (w := 4) (k := 0) (fun x hx => ?_) ?_
    · obtain ⟨q, hq, rfl⟩ := List.mem_map.mp hx
      have := h.2 q hq
      exact Vc.fw_int 3 (by omega)
    · rw [List.length_map]
      exact Nat.le_trans (Nat.add_le_add_right (Nat.mul_le_mul_right _ h.1) _) (by decide)
  | error e => exact Vc.fw_int 3 (by have := h.1; have := h.2; omega)
theorem res_fits {R : Except Int (List Int)} (h : ResOk R) : Vc.Fits (resD R) := (fw_res h).fits
theorem res2_fits {R : Except Int (List Int)} (h : ResOk R) : Vc.Fits (.list [resD R, resD R]) := Vc.Fw.fits (w := 1000) (k := 2) (Vc.fw_lst (Vc.fw_cons (fw_res h) (Vc.fw_cons (fw_res h) Vc.fw_nil)) (by decide : 2 * (200 + 2) + 4 ≤ 1000))
/-- a new list, or an address -/
def ResAt (H0 H : Hp) (v : V) : Except Int (List Int) → Prop
  | .ok c => ∃ L, v = .ref L ∧ Vc.Nw H0 L ∧ H L = some (.lst (c.map V.int))
  | .error e => v = .int e
theorem DueAt.res {K : PySem.W.Frag} {H0 H : Hp} {v : V} {R : Except Int (List Int)} (h : DueAt K H0 H v R) : ResAt H0 H v R := by
  cases R with
  | ok c => obtain ⟨L, a, b, d⟩ := h; exact ⟨L, a, .inl b, d⟩
  | error e => exact h
theorem ResAt.edx {H0 H H' : Hp} {v : V} {R : Except Int (List Int)} (e : Vc.EdX [] H H') (h : ResAt H0 H v R) : ResAt H0 H' v R := by
  cases R with
  | ok c => obtain ⟨L, a, b, d⟩ := h; exact ⟨L, a, b, e.at0 d⟩
  | error e => exact h
theorem ResAt.ed0 {H0 H H' : Hp} {v : V} {R : Except Int (List Int)} (e : Vc.Ed [] H H') (h : ResAt H0 H v R) : ResAt H0 H' v R := h.edx (.of e)
theorem ResAt.pre {H0 H1 H : Hp} {v : V} {R : Except Int (List Int)} (e : Vc.EdX [] H0 H1) (h : ResAt H1 H v R) : ResAt H0 H v R := by
  cases R with
  | ok c => obtain ⟨L, a, b, d⟩ := h; exact ⟨L, a, e.new0 b, d⟩
  | error e => exact h
theorem ResAt.dp {K : PySem.W.Frag} {H0 H : Hp} {v : V} {R : Except Int (List Int)} (h : ResAt H0 H v R) : Dp K H v (resD R) := by
  cases R with
  | ok c =>
    obtain ⟨L, rfl, _, d⟩ := h
    exact .lst (.inl (.inl d)) (dp_ints c)
  | error e =>
    obtain rfl : v = .int e := h
    exact .int e
theorem ResAt.ed1 {H0 H H' : Hp} {v : V} {R : Except Int (List Int)} {L : Addr} {ys : List V} (hl : H0 L = some (.lst ys)) (e : Vc.Ed [L] H H') (h : ResAt H0 H v R) : ResAt H0 H' v R := by
  cases R with
  | ok c => obtain ⟨L', a, b, d⟩ := h; exact ⟨L', a, b, e.at1 (b.ne hl).symm d⟩
  | error e => exact h
theorem ResAt.edb {H0 H H' : Hp} {v : V} {R : Except Int (List Int)} {b c : Addr} {n : Nat} (hB : Pen H b c n) (e : Vc.Ed [b] H H') (h : ResAt H0 H v R) : ResAt H0 H' v R := by
  cases R with
  | ok c => obtain ⟨L', a, b, d⟩ := h; exact ⟨L', a, b, e.at1 (pen_ints hB d) d⟩
  | error e => exact h
theorem ResAt.edbx {H0 H H' : Hp} {v : V} {R : Except Int (List Int)} {b c : Addr} {n : Nat} (hB : Pen H b c n) (e : Vc.EdX [b] H H') (h : ResAt H0 H v R) : ResAt H0 H' v R := by
  cases R with
  | ok c => obtain ⟨L', a, b, d⟩ := h; exact ⟨L', a, b, e.at1 (pen_ints hB d) d⟩
  | error e => exact h
theorem res2_dp {K : PySem.W.Frag} {H0 H1 H : Hp} {a : Addr} {u v : V} {R : Except Int (List Int)} (ha : H a = some (.lst [u, v])) (h1 : ResAt H0 H u R) (h2 : ResAt H1 H v R) : Dp K H (.ref a) (.list [resD R, resD R]) := .lst (.inl (.inl ha)) (.cons h1.dp (.cons h2.dp .nil))
/-- what a call behind a lambda tells -/
def ToldF (Tb : List (Addr × Str)) (H0 : Hp) (R : Except Int (List Int)) : V → Hp → Prop := fun x H' => Vc.EdX [] H0 H' ∧ LamX.Tabs Tb H' ∧ ResAt H0 H' x R
theorem told_ok {Tb : List (Addr × Str)} {H0 H8 H' : Hp} {R : Except Int (List Int)} {c : List Int} {L : Addr} (e8 : Vc.EdX [] H0 H8) (t8 : LamX.Tabs Tb H8) (e : Vc.Ed [] H8 H') (hR : R = .ok c) (nL : H8 L = none) (hL : H' L = some (.lst (c.map V.int))) : ToldF Tb H0 R (.ref L) H' := by
  subst hR
  exact ⟨e8.ex (.of e), Vc.tabs_ed0 t8 e, L, rfl, e8.new0 (.inl nL), hL⟩
theorem told_err {Tb : List (Addr × Str)} {H0 H8 H' : Hp} {R : Except Int (List Int)} {e : Int} (e8 : Vc.EdX [] H0 H8) (t8 : LamX.Tabs Tb H8) (d : Vc.Ed [] H8 H') (hR : R = .error e) : ToldF Tb H0 R (.int e) H' := by
  subst hR
  exact ⟨e8.ex (.of d), Vc.tabs_ed0 t8 d, rfl⟩

end My
namespace My
open PySem PySem.Spec PyProof.Rows L2
def gkb_Plan_after_1_values {α : Type} (us ws : List α) : List α := match us, ws with
  | [u0], [w0] => [u0, w0]
  | _, _ => []
theorem kb_Plan_after_1_values {K : PySem.W.Frag} {f : Addr} {fd : FuncData} (F : Fun K "after" "Plan.after" s_Plan_after f fd) : KBinds K fd ["self", "values"] ["values"] gkb_Plan_after_1_values gkb_Plan_after_1_values := by
  refine Vc.kbinds F (fun kV doc pm an cdv ct us ws hl => ?_) (fun {vs us zs ws} r rz => ?_)
  · unfold gkb_Plan_after_1_values at hl ⊢
    split at hl
    · rfl
    · cases hl
  · rcases r with _ | ⟨hu0, _ | ⟨_, _⟩⟩ <;> rcases rz with _ | ⟨hw0, _ | ⟨_, _⟩⟩ <;> first | exact .nil | exact (.cons hu0 (.cons hw0 .nil))
/-! ### a plan and a row of bytes -/
abbrev lamQp : Str := ((("_law_plan_right" : Str) ++ (".<locals>." : Str)) ++ ("<lambda>" : Str))
structure Jp (A : Ad) (K : PySem.W.Frag) (Tb : List (Addr × Str)) (H : Hp) (b c : Addr) (n : Nat) (p l g q : Addr) (xs : List V) (ds : List SD) (vals : List Int) : Prop where
  pen : Pen H b c n
  pl : PlanAt A K H p ds
  hl : H l = some (.lst xs)
  ol : OnesAt H xs ds
  hg : H g = some (.lst (vals.map V.int))
  gv : Given A K H q vals
  tb : LamX.Tabs Tb H
section
variable {A : Ad} {K : PySem.W.Frag} {Tb : List (Addr × Str)} {H H' : Hp} {b c : Addr} {n m : Nat} {p l g q L : Addr} {xs : List V} {ds : List SD} {vals : List Int}
theorem Jp.ed0 (e : Vc.Ed [] H H') (J : Jp A K Tb H b c n p l g q xs ds vals) : Jp A K Tb H' b c n p l g q xs ds vals :=
  ⟨J.pen.ed0 e, J.pl.ed0 e, e.at0 J.hl, OnesAt.ed e J.ol, e.at0 J.hg, J.gv.ed0 e, Vc.tabs_ed0 J.tb e⟩
theorem Jp.edx (e : Vc.EdX [] H H') (t : LamX.Tabs Tb H') (J : Jp A K Tb H b c n p l g q xs ds vals) : Jp A K Tb H' b c n p l g q xs ds vals :=
  ⟨J.pen.edx e, J.pl.edx e, e.at0 J.hl, OnesAt.edx e J.ol, e.at0 J.hg, J.gv.edx e, t⟩
theorem Jp.edb (e : Vc.Ed [b] H H') (hB : Pen H' b c m) (J : Jp A K Tb H b c n p l g q xs ds vals) : Jp A K Tb H' b c m p l g q xs ds vals := by
  obtain ⟨_, _, _, hb⟩ := J.pen.lst
  exact ⟨hB, J.pl.edL hb e, e.at1 (pen_row J.pen J.hl J.ol) J.hl, OnesAt.ed e J.ol, e.at1 (pen_ints J.pen J.hg) J.hg, J.gv.edb J.pen e, Vc.tabs_lst J.tb e hb⟩
theorem Jp.edbx (e : Vc.EdX [b] H H') (hB : Pen H' b c m) (t : LamX.Tabs Tb H') (J : Jp A K Tb H b c n p l g q xs ds vals) : Jp A K Tb H' b c m p l g q xs ds vals := by
  obtain ⟨_, _, _, hb⟩ := J.pen.lst
  exact ⟨hB, J.pl.edbx hb e, e.at1 (pen_row J.pen J.hl J.ol) J.hl, OnesAt.edx e J.ol, e.at1 (pen_ints J.pen J.hg) J.hg, J.gv.edbx J.pen e, t⟩
theorem Jp.up (J : Jp A K Tb H b c n p l g q xs ds vals) (h : n ≤ m) : Jp A K Tb H b c m p l g q xs ds vals := ⟨J.pen.up h, J.pl, J.hl, J.ol, J.hg, J.gv, J.tb⟩
end
theorem given_len {A : Ad} {K : PySem.W.Frag} {H : Hp} {q : Addr} {vals : List Int} {R : VK} (X : Given A K H q vals) (l : vals.length ≤ 1000) (h : R (.int vals.length) H) : Vc.rLenO A.C_Image (spImgLen A) [V.ref q] H R ∨ (∃ p ys, [V.ref q] = [V.ref p] ∧ (SqL K H p ys ∨ SqT K H p ys) ∧ R (.int ys.length) H) := by
  rcases X with X | X | ⟨l', X⟩
  · exact .inr ⟨q, _, rfl, .inl X, by rw [List.length_map]; exact h⟩
  · exact .inr ⟨q, _, rfl, .inr X, by rw [List.length_map]; exact h⟩
  · obtain ⟨⟨dx, hx⟩, ho⟩ := id X
    exact .inl (Vc.go_lenO hx ⟨q, l', vals, rfl, X, vals.length, rfl, by omega, by omega, h⟩)
/-- [given[k] for k in range(len(given))] -/
theorem given_lc {A : Ad} {K K2 : PySem.W.Frag} (hK : K2 = K) {n gi : Nat} {vs : List Nat} {σ : L2.St} {H : Hp} {q : Addr} {vals : List Int} {R : Addr → Hp → Prop} {E : L2.St → XK} (X : Given A K H q vals) (l9 : vals.length ≤ 900)
    (k : ∀ D H', H D = none → Vc.Ed [] H H' → H' D = some (.lst (vals.map V.int)) → R D H')
    (w1 : ∀ v, wipe ((wipe σ vs).set n (some v)) vs = wipe σ vs) (w2 : ∀ v, ((wipe σ vs).set n (some v))[n]? = some (some v)) (w3 : ∀ v, ((wipe σ vs).set n (some v))[gi]? = some (some (.ref q))) :
    ∀ D, H D = none → ∃ W : Nat → Nat → Hp → Prop, (∃ m, W 0 m (upd H D (.lst []))) ∧ ∀ i m H, W i m H →
      ((Itr 0 ((vals.length : Int)).toNat).stop i H ∧ R D H) ∨ ((Itr 0 ((vals.length : Int)).toNat).go i H ∧ ∃ Nx : Hp → Prop, (∀ H', Nx H' → ∃ m', m' < m ∧ W (i + 1) m' H') ∧ ∀ x H', (Itr 0 ((vals.length : Int)).toNat).yld i H x H' → gName n x (wipe σ vs) H' fun σ2 H2 => wipe σ2 vs = wipe σ vs ∧ tYes σ2 H2 fun b H3 =>
        if b = true then Vc.tOrR (tOp (rIx K2) (tVar gi) (tVar n)) (Vc.tIxO A.C_Image (spImgGet1 A) E (tVar gi) (tVar n)) σ2 H3 fun y H4 => ∃ acc, H4 D = some (.lst acc) ∧ acc.length < sizeLine ∧ Nx (upd H4 D (.lst (acc ++ [y]))) else Nx H3) := by
  subst hK
  refine Vc.lc_by walk_range (fun D j H' => Vc.Ed [] H H' ∧ H' D = some (.lst ((vals.take j).map V.int))) (fun D H1 nD e1 hD => ⟨e1, hD⟩) (fun _ _ _ _ _ _ => trivial) (fun D j x H1 H2 nD hj q y => ?_) fun D H1 nD q => ?_
  · obtain ⟨rfl, rfl⟩ := y
    obtain ⟨e1, hD⟩ := q
    have hj : j < vals.length := by omega
    obtain ⟨v, hv⟩ : ∃ v, vals[j]? = some v := ⟨_, List.getElem?_eq_getElem hj⟩
    have hX := X.ed0 e1
    have z0 : (0 + (j : Int)) = (j : Int) := by omega
    have fin : ∀ H3, Vc.Ed [] H2 H3 → ∃ acc, H3 D = some (.lst acc) ∧ acc.length < sizeLine ∧ Vc.Ed [] H (upd H3 D (.lst (acc ++ [V.int v]))) ∧ (upd H3 D (.lst (acc ++ [V.int v]))) D = some (.lst ((vals.take (j + 1)).map V.int)) := fun H3 e3 => by
      have hD3 := e3.at0 hD
      refine ⟨_, hD3, small1000 (by rw [List.length_map]; have := List.length_take_le j vals; omega), ?_⟩
      generalize hu5 : upd _ D _ = H5
      obtain ⟨e5, hD5⟩ := Vc.chg hu5 hD3
      exact ⟨(e1.ex e3).one e5 (.inr nD), by rw [hD5, take_suc hv, List.map_append]; rfl⟩
    have hat : atI (vals.map V.int) (j : Int) = some (.int v) := at_of (j := j) (by omega) (by rw [List.getElem?_map, hv]; rfl)
    refine Vc.go_name ?_
    refine ⟨w1 _, ?_⟩
    refine Vc.go_yes ?_
    refine L2.iteT ?_
    simp only [z0]
    rcases hX with hX | hX | ⟨l', hX⟩
    · refine Vc.go_orL (Vc.go_op (Vc.go_var (w3 _) (Vc.go_var (w2 _) ?_)))
      exact go_ixG (.inl hX) hat (fin _ .refl)
    · refine Vc.go_orL (Vc.go_op (Vc.go_var (w3 _) (Vc.go_var (w2 _) ?_)))
      exact go_ixG (.inr hX) hat (fin _ .refl)
    · obtain ⟨⟨dx, hx⟩, _⟩ := id hX
      refine Vc.go_orG (Vc.go_ixO (Vc.go_var (w3 _) (Vc.go_var (w2 _) ?_)))
      exact ⟨_, dx, _, rfl, hx, _, l', vals, j, v, rfl, hX, hv, fin⟩
  · obtain ⟨e1, hD⟩ := q
    rw [Int.toNat_natCast, List.take_length] at hD
    exact k D H1 nD e1 hD
def spPlanRight (Tb : List (Addr × Str)) : Sp := fun vs H Q _ => ∃ (b c g l : Addr) (n : Nat) (xs : List V) (ds : List SD) (vals : List Int), vs = [.ref b, .ref g, .ref l] ∧ Pen H b c n ∧ n ≤ 700000 ∧ H l = some (.lst xs) ∧ OnesAt H xs ds ∧ (∀ d ∈ ds, d.Dr) ∧ ds.length ≤ 24 ∧ H g = some (.lst (vals.map V.int)) ∧ Cells vals ∧ LamX.Tabs Tb H ∧
  ∀ H', Vc.EdX [b] H H' → Pen H' b c (n + 60) → LamX.Tabs Tb H' → Q (.bl true) H'
section
variable {w : World} {K : PySem.W.Frag} {mg : Str → Option Value} {base : Heap} {A : Ad} {Tb : List (Addr × Str)} {cL PL_ : Addr}
theorem ok__law_plan_right (T : Txt K mg A) (LM : Vc.LamAt K mg base Tb A.f__law_plan_right lamQp cL PL_) : Vc.FnG PG w K mg base CX0 12 A.f__law_plan_right A.d__law_plan_right ["_law_pen_here", "_law_cells", "_law_steps"] (spPlanRight Tb) := by
  have G__law_draw := ok__law_draw (P := PG) (w := w) (base := base) T
  have G__law_step := ok__law_step (w := w) (base := base) T
  have G__law_shaped := ok__law_shaped (w := w) (base := base) T
  have G__law_due := ok__law_due (P := PG) (w := w) (base := base) T
  have G_Planu_initu := ok_Planu_initu (P := PG) (w := w) (base := base) T
  have G_Plan_after := ok_Plan_after (w := w) (base := base) T
  have G_Plan_head := ok_Plan_head (w := w) (base := base) T
  have G_Plan_tail := ok_Plan_tail (w := w) (base := base) T
  have G_Imageu_getitemu := ok_Imageu_getitemu (P := PG) (w := w) (base := base) T
  have G_Imageu_lenu := ok_Imageu_lenu (P := PG) (w := w) (base := base) T
  refine Vc.Fun.okGL T.F__law_plan_right LM.co sc__law_plan_right (fun vs H Q E h => ?_) (fun Ar outer s H vs Q E hgd hr h => ?_)
  · obtain ⟨b, c, g, l, n, xs, ds, vals, rfl, _⟩ := h
    rfl
  · obtain ⟨b, c, g, l, n, xs, ds, vals, rfl, hB, nl, hl, ol, dr, l9, hg, hc, tb, k⟩ := h
    have cl := T.cl_Plan
    have lx := ol.len
    have hc1 := hc.1
    have gb := pen_ints hB hg
    have lb := pen_row hB hl ol
    have hu := hu_of hr
    refine ⟨_, (pss_cons (ps_set (i := 3) sc__law_plan_right.nd rfl (Or.inr rfl) (pe_make T.mk_Plan G_Planu_initu (by exact hr.mono (by decide)) (by rfl) T.g_Plan T.b_Planu_initu .nil pass0 (pa_cons (pe_lc (own := [("_law_one", 11)]) (g := gName 11) rfl sc__law_plan_right.nd (pi_list (pv 2)) (blkOk_by (own := [("_law_one", 11)]) (N := ["_law_pen_here", "_law_cells", "_law_steps", "_law_course", "_law_given", "_law_due_here", "_law_told_here", "_law_many", "_law_half", "_law_ahead", "_law_mine", "_law_one", "_law_k"]) (sc := defScope s__law_plan_right) (by decide +kernel)) (fun _ _ _ _ _ => by exact (pg_name (i := 11) sc__law_plan_right.nd rfl (Or.inl rfl))) (fun _ _ _ _ _ => by exact pts_nil) (fun _ _ _ _ _ => by (refine' Vc.blkE ?h ?q; (case h => exact (pe_call G__law_step (by exact hr.mono (by decide)) (by rfl) T.g__law_step T.F__law_step.kp T.b__law_step .nil pass0 (pa_cons (pv 11) pa_nil))); (case q => first | exact rfl | (dsimp only; done) | (dsimp only; exact rfl))))) pa_nil))) (pss_cons (ps_set (i := 4) sc__law_plan_right.nd rfl (Or.inr rfl) (pe_call G__law_shaped (by exact hr.mono (by decide)) (by rfl) T.g__law_shaped T.F__law_shaped.kp T.b__law_shaped .nil pass0 (pa_cons (pv 1) (pa_cons (pe_call G__law_draw (by exact hr.mono (by decide)) (by rfl) T.g__law_draw T.F__law_draw.kp T.b__law_draw .nil pass0 (pa_cons (pv 0) (pa_cons pe_int pa_nil))) pa_nil)))) (pss_cons (ps_set (i := 5) sc__law_plan_right.nd rfl (Or.inl rfl) (pe_call G__law_due (by exact hr.mono (by decide)) (by rfl) T.g__law_due T.F__law_due.kp T.b__law_due .nil pass0 (pa_cons (pv 1) (pa_cons (pv 2) pa_nil)))) (pss_cons (ps_set (i := 6) sc__law_plan_right.nd rfl (Or.inl rfl) (pe_lst (pa_cons (Vc.pe_lamS (T := Tb) (j := 9) (k := 8) T.F__law_told (by rfl) T.g__law_told T.b__law_told sc__law_told (by rfl) (.inl rfl) (fun cdg => gives__law_told T cdg) LM.tb rfl LM.me LM.un (by exact hr.mono (by decide)) (by decide) (LamX.lamS_by (sc := defScope s__law_plan_right) (by decide +kernel)) rfl (fun _ _ _ _ _ => rfl) (fun A9 outer9 s9 H9 E9 f9 c9 hrl => (Vc.pe_methS (pv 3) T.cl_Plan T.m_Plan_after G_Plan_after (by exact hrl.mono (by decide)) T.b_Plan_after (fun σ => passAt (takes_of rfl rfl rfl rfl) σ) (pa_cons (pv 4) pa_nil)))) pa_nil))) (pss_cons (ps_expr (pe_bm PySem.F.plainAttrs_list PySem.F.slot_list_append PySem.F.type_list_append mt_append (pv 6) (pa_cons (Vc.pe_lamS (T := Tb) (j := 9) (k := 8) T.F__law_told (by rfl) T.g__law_told T.b__law_told sc__law_told (by rfl) (.inl rfl) (fun cdg => gives__law_told T cdg) LM.tb rfl LM.me LM.un (by exact hr.mono (by decide)) (by decide) (LamX.lamS_by (sc := defScope s__law_plan_right) (by decide +kernel)) rfl (fun _ _ _ _ _ => rfl) (fun A9 outer9 s9 H9 E9 f9 c9 hrl => (Vc.pe_methKS0 (pv 3) T.cl_Plan T.m_Plan_after G_Plan_after (by exact hrl.mono (by decide)) (kb_Plan_after_1_values T.F_Plan_after) (fun σ => passAt (takes_of rfl rfl rfl rfl) σ) (pk_cons (pv 4) pk_nil)))) pa_nil))) (pss_cons (ps_if (PW.pt (pw_or (pt_cmpR op_ne (pe_callB (Vc.call_reprD hgd (Vc.room64 hr)) (by rfl) T.n_repr (by decide +kernel) (pa_cons (pv 6) pa_nil)) (pe_callB (Vc.call_reprD hgd (Vc.room64 hr)) (by rfl) T.n_repr (by decide +kernel) (pa_cons (pe_lst (pa_cons (pv 5) (pa_cons (pv 5) pa_nil))) pa_nil)) (nomark _)) (pw_or1 (pt_cmpR (op_neD (by exact hr.units)) (pe_lc (own := [("_law_k", 12)]) (g := gName 12) rfl sc__law_plan_right.nd (pi_range1 (by rfl) T.n_range (pa_cons (pe_callB (Vc.call_or call_len_seq (Vc.call_lenO G_Imageu_lenu (by exact hr.mono (by decide)) T.sp_Image_Imageu_lenu T.b_Imageu_lenu)) (by rfl) T.n_len (by decide +kernel) (pa_cons (pv 4) pa_nil)) pa_nil)) (blkOk_by (own := [("_law_k", 12)]) (N := ["_law_pen_here", "_law_cells", "_law_steps", "_law_course", "_law_given", "_law_due_here", "_law_told_here", "_law_many", "_law_half", "_law_ahead", "_law_mine", "_law_one", "_law_k"]) (sc := defScope s__law_plan_right) (by decide +kernel)) (fun _ _ _ _ _ => by exact (pg_name (i := 12) sc__law_plan_right.nd rfl (Or.inl rfl))) (fun _ _ _ _ _ => by exact pts_nil) (fun _ _ _ _ _ => by (refine' Vc.blkE ?h ?q; (case h => exact (Vc.pe_orR (pe_ix ix_seq (pv 4) (pv 12) (fun _ _ => rfl)) (Vc.pe_ixO (pv 4) (pv 12) T.sp_Image_Imageu_getitemu T.spf_Imageu_getitemu G_Imageu_getitemu (by exact hr.mono (by decide)) T.b_Imageu_getitemu (Vc.passS0 (E := fun _ => E0))))); (case q => first | exact rfl | (dsimp only; done) | (dsimp only; exact rfl))))) (pv 1) (nomark _))))) (pss_one (ps_ret pe_bl)) pss_nil) (pss_cons (ps_set (i := 7) sc__law_plan_right.nd rfl (Or.inr rfl) (pe_call G__law_draw (by exact hr.mono (by decide)) (by rfl) T.g__law_draw T.F__law_draw.kp T.b__law_draw .nil pass0 (pa_cons (pv 0) (pa_cons (pe_op op_add (pe_callB call_len_seq (by rfl) T.n_len (by decide +kernel) (pa_cons (pv 2) pa_nil)) pe_int) pa_nil)))) (pss_cons (ps_set (i := 8) sc__law_plan_right.nd rfl (Or.inl rfl) (pe_call G__law_due (by exact hr.mono (by decide)) (by rfl) T.g__law_due T.F__law_due.kp T.b__law_due .nil pass0 (pa_cons (pv 1) (pa_cons (pe_slice sl_list (pv 2) po_none (po_some (pv 7))) pa_nil)))) (pss_cons (ps_if (pt_not (pt_val (pe_callB call_isi (by rfl) T.n_isinstance (by decide +kernel) (pa_cons (pv 8) (pa_cons (pe_bltn (v := .ty "list") (by rfl) T.n_list (by decide +kernel) rfl) pa_nil))))) (pss_one (ps_ret (pe_cmpR op_eq (pe_callB (Vc.call_reprD hgd (Vc.room64 hr)) (by rfl) T.n_repr (by decide +kernel) (pa_cons (Vc.pe_lamS (T := Tb) (j := 9) (k := 8) T.F__law_told (by rfl) T.g__law_told T.b__law_told sc__law_told (by rfl) (.inl rfl) (fun cdg => gives__law_told T cdg) LM.tb rfl LM.me LM.un (by exact hr.mono (by decide)) (by decide) (LamX.lamS_by (sc := defScope s__law_plan_right) (by decide +kernel)) rfl (fun _ _ _ _ _ => rfl) (fun A9 outer9 s9 H9 E9 f9 c9 hrl => (Vc.pe_methS (Vc.pe_methS (pv 3) T.cl_Plan T.m_Plan_head G_Plan_head (by exact hrl.mono (by decide)) T.b_Plan_head (fun σ => passAt (takes_of rfl rfl rfl rfl) σ) (pa_cons (pv 7) pa_nil)) T.cl_Plan T.m_Plan_after G_Plan_after (by exact hrl.mono (by decide)) T.b_Plan_after (fun σ => passAt (takes_of rfl rfl rfl rfl) σ) (pa_cons (pv 4) pa_nil)))) pa_nil)) (pe_callB (Vc.call_reprD hgd (Vc.room64 hr)) (by rfl) T.n_repr (by decide +kernel) (pa_cons (pv 8) pa_nil)) (nomark _)))) pss_nil) (pss_cons (ps_set (i := 9) sc__law_plan_right.nd rfl (Or.inr rfl) (pe_meth (pe_meth (pv 3) T.cl_Plan T.m_Plan_head G_Plan_head (by exact hr.mono (by decide)) T.b_Plan_head .nil passL (pa_cons (pv 7) pa_nil)) T.cl_Plan T.m_Plan_after G_Plan_after (by exact hr.mono (by decide)) T.b_Plan_after .nil passL (pa_cons (pv 4) pa_nil))) (pss_cons (ps_if (PW.pt (pw_or (pt_cmpR op_ne (pe_callB (Vc.call_reprD hgd (Vc.room64 hr)) (by rfl) T.n_repr (by decide +kernel) (pa_cons (Vc.pe_lamS (T := Tb) (j := 9) (k := 8) T.F__law_told (by rfl) T.g__law_told T.b__law_told sc__law_told (by rfl) (.inl rfl) (fun cdg => gives__law_told T cdg) LM.tb rfl LM.me LM.un (by exact hr.mono (by decide)) (by decide) (LamX.lamS_by (sc := defScope s__law_plan_right) (by decide +kernel)) rfl (fun _ _ _ _ _ => rfl) (fun A9 outer9 s9 H9 E9 f9 c9 hrl => (Vc.pe_methS (Vc.pe_methS (pv 3) T.cl_Plan T.m_Plan_tail G_Plan_tail (by exact hrl.mono (by decide)) T.b_Plan_tail (fun σ => passAt (takes_of rfl rfl rfl rfl) σ) (pa_cons (pv 7) pa_nil)) T.cl_Plan T.m_Plan_after G_Plan_after (by exact hrl.mono (by decide)) T.b_Plan_after (fun σ => passAt (takes_of rfl rfl rfl rfl) σ) (pa_cons (pv 9) pa_nil)))) pa_nil)) (pe_callB (Vc.call_reprD hgd (Vc.room64 hr)) (by rfl) T.n_repr (by decide +kernel) (pa_cons (pv 5) pa_nil)) (nomark _)) (pw_or1 (pt_cmpR op_ne (pe_callB (Vc.call_reprD hgd (Vc.room64 hr)) (by rfl) T.n_repr (by decide +kernel) (pa_cons (pv 9) pa_nil)) (pe_callB (Vc.call_reprD hgd (Vc.room64 hr)) (by rfl) T.n_repr (by decide +kernel) (pa_cons (pv 8) pa_nil)) (nomark _))))) (pss_one (ps_ret pe_bl)) pss_nil) (pss_cons (ps_if (pt_val (pe_callB call_isi (by rfl) T.n_isinstance (by decide +kernel) (pa_cons (pv 5) (pa_cons (pe_bltn (v := .ty "list") (by rfl) T.n_list (by decide +kernel) rfl) pa_nil)))) (pss_cons (ps_set (i := 10) sc__law_plan_right.nd rfl (Or.inl rfl) (pe_ix ix_list (pv 6) pe_int (fun _ _ => rfl))) (pss_cons (ps_expr (pe_bm PySem.F.plainAttrs_list PySem.F.slot_list_append PySem.F.type_list_append mt_append (pv 10) (pa_cons pe_int pa_nil))) (pss_one (ps_ret (pe_and (pe_cmpR op_eq (pe_callB (Vc.call_reprD hgd (Vc.room64 hr)) (by rfl) T.n_repr (by decide +kernel) (pa_cons (pe_meth (pv 3) T.cl_Plan T.m_Plan_after G_Plan_after (by exact hr.mono (by decide)) T.b_Plan_after .nil passL (pa_cons (pv 4) pa_nil)) pa_nil)) (pe_callB (Vc.call_reprD hgd (Vc.room64 hr)) (by rfl) T.n_repr (by decide +kernel) (pa_cons (pv 5) pa_nil)) (nomark _)) (pe_one (pe_cmpR (op_eqD (by exact hr.units)) (pe_lc (own := [("_law_k", 12)]) (g := gName 12) rfl sc__law_plan_right.nd (pi_range1 (by rfl) T.n_range (pa_cons (pe_callB (Vc.call_or call_len_seq (Vc.call_lenO G_Imageu_lenu (by exact hr.mono (by decide)) T.sp_Image_Imageu_lenu T.b_Imageu_lenu)) (by rfl) T.n_len (by decide +kernel) (pa_cons (pv 4) pa_nil)) pa_nil)) (blkOk_by (own := [("_law_k", 12)]) (N := ["_law_pen_here", "_law_cells", "_law_steps", "_law_course", "_law_given", "_law_due_here", "_law_told_here", "_law_many", "_law_half", "_law_ahead", "_law_mine", "_law_one", "_law_k"]) (sc := defScope s__law_plan_right) (by decide +kernel)) (fun _ _ _ _ _ => by exact (pg_name (i := 12) sc__law_plan_right.nd rfl (Or.inl rfl))) (fun _ _ _ _ _ => by exact pts_nil) (fun _ _ _ _ _ => by (refine' Vc.blkE ?h ?q; (case h => exact (Vc.pe_orR (pe_ix ix_seq (pv 4) (pv 12) (fun _ _ => rfl)) (Vc.pe_ixO (pv 4) (pv 12) T.sp_Image_Imageu_getitemu T.spf_Imageu_getitemu G_Imageu_getitemu (by exact hr.mono (by decide)) T.b_Imageu_getitemu (Vc.passS0 (E := fun _ => E0))))); (case q => first | exact rfl | (dsimp only; done) | (dsimp only; exact rfl))))) (pv 1) (nomark _)))))))) pss_nil) (pss_one (ps_ret pe_bl)))))))))))))), ?_⟩
    walk_at "go"
    refine ⟨⟨_, .of hl⟩, made_lc (.of hl) ol dr (by omega) (fun D zs H1 nD e1 hD hS => ?_) (fun _ => rfl) (fun _ => rfl)⟩
    walk_at "go"
    refine mk_plan (.inl (.of hD)) hS (by omega) fun p H2 e2 np hP => ?_
    have e02 := e1.ex e2
    have hB2 := hB.ed0 e02
    walk_at "go"
    refine ⟨b, c, n, 3, rfl, hB2, by show n ≤ 1000000; omega, by omega, by omega, fun way H3 w0 w1 e3 hB3 => ?_⟩
    have hg3 := e3.at1 gb (e02.at0 hg)
    have hl3 := e3.at1 lb (e02.at0 hl)
    have ol3 := OnesAt.ed e3 (OnesAt.ed e02 ol)
    obtain ⟨_, _, _, hb2⟩ := hB2.lst
    have hP3 := hP.edL hb2 e3
    have tb3 := Vc.tabs_lst (Vc.tabs_ed0 tb e02) e3 hb2
    have e03 : Vc.Ed [b] H H3 := (e02.mono fun _ z => nomatch z).trans e3 fun _ z => .inl z
    walk_at "go"
    refine ⟨g, vals, way, rfl, hg3, by have := hc.1; omega, hc.2, fun q H4 e4 hq => ?_⟩
    have J : Jp A K Tb H4 b c (n + 1) p l g q xs ds vals := ⟨hB3.ed0 e4, hP3.ed0 e4, e4.at0 hl3, OnesAt.ed e4 ol3, e4.at0 hg3, hq, Vc.tabs_ed0 tb3 e4⟩
    have e04 := e03.ex e4
    have hgJ := J.hg
    have hlJ := J.hl
    clear hB hB2 hB3 hb2 hl hl3 ol ol3 hg hg3 hP hP3 tb tb3 hD hS e1 e2 e3 e4 e02 e03 hq
    have gd : ∀ d ∈ ds, d.By := fun d hd => (dr d hd).by
    have gg : ∀ d ∈ ds, d.Go := fun d hd => (gd d hd).go
    have rok := aftP_ok (ds := ds) hc gd
    walk_at "go"
    refine ⟨g, l, xs, vals, ds, rfl, hgJ, by have := hc.1; omega, hlJ, J.ol, by omega, gg, fun due H5 e5 hdue => ?_⟩
    have J5 := J.ed0 e5
    have e05a : Vc.EdX [b] H H5 := .of (e04.ex e5)
    have hdue := hdue.res
    walk_at "go"
    refine Vc.go_lam J5.tb fun H6 e6 tb6 => ?_
    have J6 := J5.edx e6 tb6
    obtain ⟨dx6, t6, us6, hp6, _⟩ := id J6.pl.ex
    refine theard_split (ToldF Tb H5 (aftP ds vals)) ?_ ?_
    · intro E9 R9 hE hR
      walk_at "go"
      exact ⟨p, q, vals, ds, rfl, J6.pl, J6.gv, by have := hc.1; omega, gg, fun e he dd H7 e7 hdd => hE _ _ _ ⟨e, dd, rfl, rfl, hdd, fun H8 e8 => told_err e6 tb6 (e7.ex e8) he⟩, fun c he L H7 e7 nL hL => hR _ _ (told_ok e6 tb6 e7 he nL hL)⟩
    clear J6 hp6 e6 tb6
    rintro x2 H6 ⟨e6, tb6, r2⟩
    have J6 := J5.edx e6 tb6
    walk_at "go"
    intro L nL
    generalize hu7 : upd _ L _ = H7
    obtain ⟨e7, hL7⟩ := Vc.alloc hu7 nL
    have J7 := J6.ed0 e7
    walk_at "go"
    refine Vc.go_lam J7.tb fun H8 e8 tb8 => ?_
    have J8 := J7.edx e8 tb8
    obtain ⟨dx8, t8, us8, hp8, _⟩ := id J8.pl.ex
    refine theard_split (ToldF Tb H7 (aftP ds vals)) ?_ ?_
    · intro E9 R9 hE hR
      refine Vc.go_methKS ?_
      walk_at "go"
      exact ⟨p, q, vals, ds, rfl, J8.pl, J8.gv, by have := hc.1; omega, gg, fun e he dd H7 e7 hdd => hE _ _ _ ⟨e, dd, rfl, rfl, hdd, fun H8 e9 => told_err e8 tb8 (e7.ex e9) he⟩, fun c he L H7 e7 nL hL => hR _ _ (told_ok e8 tb8 e7 he nL hL)⟩
    clear J8 hp8 e8 tb8
    rintro x3 H8 ⟨e8, tb8, r3⟩
    have J8 := J7.edx e8 tb8
    have hL8 := e8.at0 hL7
    walk_at "go"
    generalize hu9 : upd _ L _ = H9
    obtain ⟨e9, hL9⟩ := Vc.chg hu9 hL8
    have e69 : Vc.EdX [] H6 H9 := ((Vc.EdX.of e7).ex e8).one (.of e9) (.inr (.inl nL))
    have tb9 := Vc.tabs_lst tb8 e9 hL8
    have J9 := J6.edx e69 tb9
    have r29 := r2.edx e69
    have r39 := r3.ed1 hL7 e9
    have e59 := e6.ex e69
    have nLb := (J6.pen.fb nL).1.symm
    have due9 := hdue.edx e59
    have hL9 : H9 L = some (.lst [x2, x3]) := hL9
    clear J6 J7 J8 e7 e8 e9 e6 hL7 hL8 r2 r3 tb8 tb6 hu7
    refine Vc.go_repr (res2_dp hL9 r29 r39) (res2_fits rok) ?_
    walk_at "go"
    intro L2 nL2
    generalize hu10 : upd _ L2 _ = H10
    obtain ⟨e10, hL10⟩ := Vc.alloc hu10 nL2
    walk_at "go"
    refine Vc.go_repr (res2_dp hL10 (due9.ed0 e10) (due9.ed0 e10)) (res2_fits rok) ?_
    have J10 := J9.ed0 e10
    walk_at "go"
    refine Or.symm (given_len J10.gv (by have := hc.1; omega) ?_)
    walk_at "go"
    refine ⟨by omega, by omega, given_lc rfl J10.gv (by omega) (fun D H11 nD e11 hD => ?_) (fun _ => rfl) (fun _ => rfl) (fun _ => rfl)⟩
    have J11 := J10.ed0 e11
    have hg11 := J11.hg
    walk_at "go"
    refine go_neLs (.of hD) (.of hg11) ?_
    rw [decide_eq_true rfl]
    have hl11 := J11.hl
    have e05 : Vc.EdX [b] H H11 := (Vc.EdX.of (e04.ex e5)).ex ((e59.ex (.of e10)).ex (.of e11))
    have due11 := (due9.ed0 e10).ed0 e11
    have hL11 := e11.at0 (e10.at0 hL9)
    have r211 := (r29.ed0 e10).ed0 e11
    walk_at "go"
    rw [lx]
    refine ⟨b, c, n + 1, (ds.length : Int) + 1, rfl, J11.pen, by show n + 1 ≤ 1000000; omega, by omega, by omega, fun m H12 m0 m1 e12 hB12 => ?_⟩
    have J12 := J11.edb e12 hB12
    have due12 := due11.edb J11.pen e12
    have hL12 := e12.at1 nLb hL11
    have r212 := r211.edb J11.pen e12
    have e012 : Vc.EdX [b] H H12 := e05.trans (.of e12) fun _ z => .inl z
    have e512 : Vc.EdX [b] H5 H12 := (((e59.ex (.of e10)).ex (.of e11)).mono fun _ z => nomatch z).trans (.of e12) fun _ z => .inl z
    obtain ⟨m, rfl⟩ : ∃ k : Nat, m = k := ⟨m.toNat, by omega⟩
    have hl12 := J12.hl
    have hg12 := J12.hg
    clear J9 J10 J11 e05 e10 e11 e12 hB12 due9 due11 r29 r39 r211 hL9 hL10 hL11 hl11 hg11 hD nD e59 e69 tb9 e5 e04 J
    walk_at "go"
    intro q1 nq1
    generalize hu13 : upd _ q1 _ = H13
    obtain ⟨e13, hq1⟩ := Vc.alloc hu13 nq1
    rw [Vc.cut_take] at hq1
    have J13 := J12.ed0 e13
    have hg13 := J13.hg
    walk_at "go"
    refine ⟨g, q1, _, vals, ds.take m, rfl, hg13, by omega, hq1, J13.ol.take m, by rw [List.length_take]; omega, fun d hd => gg d (List.mem_of_mem_take hd), fun half H14 e14 hhalf => ?_⟩
    have hhalf := hhalf.res
    have rok1 := aftP_ok (ds := ds.take m) hc (fun d hd => gd d (List.mem_of_mem_take hd))
    have J14 := J13.ed0 e14
    have e1214 := e13.ex e14
    clear J13 J12 e13 hq1 nq1 hg13 e14 hl12 hg12
    have mle : m ≤ ds.length := by omega
    have app : aftP ds vals = (match aftP (ds.take m) vals with | .ok c' => aftP (ds.drop m) c' | .error e => .error e) := by
      have z := aftP_app (ds.take m) (ds.drop m) vals
      rw [List.take_append_drop] at z
      exact z
    have gd1 : ∀ d ∈ ds.take m, d.Go := fun d hd => gg d (List.mem_of_mem_take hd)
    have gd2 : ∀ d ∈ ds.drop m, d.Go := fun d hd => gg d (List.mem_of_mem_drop hd)
    generalize hR1 : aftP (ds.take m) vals = R1 at *
    walk_at "go"
    cases R1 with
    | error e =>
      obtain rfl : half = .int e := hhalf
      refine Vc.go_isi (b := false) (.base (.int _)) (by decide) ?_
      walk_at "go"
      refine Vc.go_lam J14.tb fun H15 e15 tb15 => ?_
      have J15 := J14.edx e15 tb15
      obtain ⟨dx15, t15, us15, hp15, _⟩ := id J15.pl.ex
      refine theard_split (ToldF Tb H14 (.error e)) ?_ ?_
      · intro E9 R9 hE hR
        walk_at "go"
        refine ⟨p, m, ds, rfl, J15.pl, fun z => by omega, fun i hi il r H16 e16 nr hr => ?_⟩
        obtain rfl : i = m := by omega
        obtain ⟨dxr, tr, usr, hpr, _⟩ := id hr.ex
        walk_at "go"
        exact ⟨r, q, vals, ds.take i, rfl, hr, J15.gv.ed0 e16, by omega, gd1, fun e' he dd H7 e7 hdd => hE _ _ _ ⟨e', dd, rfl, rfl, hdd, fun H8 e9 => told_err e15 tb15 (e16.ex (e7.ex e9)) (hR1.symm.trans he)⟩, fun c he L H7 e7 nL hL => by rw [hR1] at he; cases he⟩
      rintro x H16 ⟨e16, tb16, r16⟩
      walk_at "go"
      refine Vc.go_repr r16.dp (res_fits rok1) ?_
      walk_at "go"
      refine Vc.go_repr (.int e) (res_fits rok1) ?_
      walk_at "go"
      rw [show decide ((resD (Except.error e)).shown = (PyData.int e).shown) = true from decide_eq_true rfl]
      exact k H16 ((e012.ex (.of e1214)).ex e16) ((J14.pen.edx e16).up (by omega)) tb16
    | ok c1 =>
      obtain ⟨Lh, rfl, nLh, hLh⟩ := hhalf
      refine Vc.go_isi (b := true) (Vc.tyL (.of hLh)) (by decide) ?_
      obtain ⟨dx14, t14, us14, hp14, _⟩ := id J14.pl.ex
      walk_at "go"
      refine ⟨p, m, ds, rfl, J14.pl, fun z => by omega, fun i hi il r H15 e15 nr hr => ?_⟩
      obtain rfl : i = m := by omega
      obtain ⟨dxr, tr, usr, hpr, _⟩ := id hr.ex
      walk_at "go"
      refine ⟨r, q, vals, ds.take i, rfl, hr, J14.gv.ed0 e15, by omega, gd1, fun e' he => (by rw [hR1] at he; cases he), fun c' he LA H16 e16 nLA hLA => ?_⟩
      obtain rfl : c1 = c' := by rw [hR1] at he; cases he; rfl
      have J16 := J14.ed0 (e15.ex e16)
      have e1216 := e1214.ex (e15.ex e16)
      have hLh16 := e16.at0 (e15.at0 hLh)
      obtain ⟨dx16, t16, us16, hp16, _⟩ := id J16.pl.ex
      clear J14 hp14 hpr hr e15 e16 hLh
      walk_at "go"
      refine Vc.go_lam J16.tb fun H17 e17 tb17 => ?_
      have J17 := J16.edx e17 tb17
      have hLA17 := e17.at0 hLA
      obtain ⟨dx17, t17, us17, hp17, _⟩ := id J17.pl.ex
      refine theard_split (ToldF Tb H16 (aftP ds vals)) ?_ ?_
      · intro E9 R9 hE hR
        walk_at "go"
        refine ⟨p, i, ds, rfl, J17.pl, fun z => by omega, fun i' hi' il' r2 H18 e18 nr2 hr2 => ?_⟩
        obtain rfl : i' = i := by omega
        obtain ⟨dxr, tr, usr, hpr, _⟩ := id hr2.ex
        walk_at "go"
        exact ⟨r2, LA, c1, ds.drop i', rfl, hr2, .inl (.of (e18.at0 hLA17)), by have := rok1.1; omega, gd2, fun e' he dd H7 e7 hdd => hE _ _ _ ⟨e', dd, rfl, rfl, hdd, fun H8 e9 => told_err e17 tb17 (e18.ex (e7.ex e9)) (app.trans he)⟩, fun c he L H7 e7 nL hL => hR _ _ (told_ok e17 tb17 (e18.ex e7) (app.trans he) (e18.back nL) hL)⟩
      clear J17 hLA17 hp17 e17 tb17
      rintro x H17 ⟨e17, tb17, r17⟩
      have J17 := J16.edx e17 tb17
      have due17 := (due12.ed0 e1216).edx e17
      walk_at "go"
      refine Vc.go_repr r17.dp (res_fits rok) ?_
      walk_at "go"
      refine Vc.go_repr due17.dp (res_fits rok) ?_
      have hLA17 := e17.at0 hLA
      have hLh17 := e17.at0 hLh16
      walk_at "go"
      refine Vc.go_repr (.lst (.of hLA17) (dp_ints c1)) (res_fits rok1) ?_
      walk_at "go"
      refine Vc.go_repr (.lst (.of hLh17) (dp_ints c1)) (res_fits rok1) ?_
      have hL17 := e17.at0 (e1216.at0 hL12)
      have r217 := (r212.ed0 e1216).edx e17
      rcases hR : aftP ds vals with e2 | c2
      · rw [hR] at due17
        obtain rfl : due = .int e2 := due17
        walk_at "go"
        exact k H17 ((e012.ex (.of e1216)).ex e17) (J17.pen.up (by omega)) tb17
      · rw [hR] at due17 r217 rok hdue
        obtain ⟨Ld, rfl, nLd, hLd⟩ := due17
        obtain ⟨Lx, rfl, nLx, hLx⟩ := r217
        walk_at "go"
        refine Vc.go_append hLx (by rw [List.length_map]; have := rok.1; omega) ?_
        generalize hu18 : upd _ Lx _ = H18
        obtain ⟨e18, hLx18⟩ := Vc.chg hu18 hLx
        have e518 : Vc.EdX [b] H5 H18 := ((e512.ex (.of e1216)).ex e17).one (.of e18) (.inr nLx)
        have nb := J5.pen.fbN nLx
        have hB18 := J17.pen.ed1 e18 nb.1 nb.2
        have tb18 := Vc.tabs_lst tb17 e18 hLx
        have J18 := J5.edbx e518 hB18 tb18
        have due18 := hdue.edbx J5.pen e518
        obtain ⟨dx18, t18, us18, hp18, _⟩ := id J18.pl.ex
        have e018 : Vc.EdX [b] H H18 := e05a.trans e518 fun _ z => .inl z
        walk_at "go"
        refine ⟨p, q, vals, ds, rfl, J18.pl, J18.gv, by omega, gg, fun e' he => (by rw [hR] at he; cases he), fun c' he LB H19 e19 nLB hLB => ?_⟩
        obtain rfl : c2 = c' := by rw [hR] at he; cases he; rfl
        have J19 := J18.ed0 e19
        walk_at "go"
        refine Vc.go_repr (.lst (.of hLB) (dp_ints c2)) (res_fits rok) ?_
        walk_at "go"
        refine Vc.go_repr (due18.ed0 e19).dp (res_fits rok) ?_
        walk_at "go"
        rw [if_pos (show decide ((PyData.list (List.map PyData.int c2)).shown = (resD (Except.ok c2)).shown) = true from decide_eq_true rfl)]
        walk_at "go"
        refine Or.symm (given_len J19.gv (by omega) ?_)
        walk_at "go"
        refine ⟨by omega, by omega, given_lc rfl J19.gv (by omega) (fun D' H20 nD' e20 hD' => ?_) (fun _ => rfl) (fun _ => rfl) (fun _ => rfl)⟩
        have J20 := J19.ed0 e20
        have hg20 := J20.hg
        walk_at "go"
        refine go_eqLs (.of hD') (.of hg20) ?_
        rw [decide_eq_true rfl]
        exact k H20 (e018.ex (.of (e19.ex e20))) (J20.pen.up (by omega)) J20.tb
end

end My
namespace My
open PySem PySem.Spec PyProof.Rows L2
/-! ### single steps -/
section
variable {K : PySem.W.Frag} {mg : Str → Option Value} {A : Ad} {H : Hp} {Q : VK}
/-- step.after(row): a step of either class -/
theorem go_stepAfter (T : Txt K mg A) {p q : Addr} {d : SD} {vals : List Int} {t : TA} {σ : L2.St} {E : XK} (hS : StepAt A H p d) (hg : Given A K H q vals) (vl : vals.length ≤ 900) (gd : d.Go) (ht : ∀ R : List V → Hp → Prop, R [.ref q] H → t σ H R)
    (kE : ∀ e, aftE d vals = .error e → ∀ dd H', Vc.Ed [] H H' → H' dd = some (.xd [("at", .int e)]) → E (.ref A.C_BadAddress) (some dd) H')
    (kQ : ∀ c, aftE d vals = .ok c → ∀ L H', Vc.Ed [] H H' → H L = none → H' L = some (.lst (c.map V.int)) → Q (.ref L) H') :
    ∃ a C dx fs, V.ref p = .ref a ∧ H a = some (.ins C dx fs) ∧ fs.lookup ("after" : Str) = none ∧ Cls K C ∧
      ((Meth K C "after" A.f_Step_after ∧ t σ H fun vs H2 => spStepAfter A K (.ref a :: vs) H2 Q E) ∨ (Meth K C "after" A.f_Write_after ∧ t σ H fun vs H2 => spWriteAfter A K (.ref a :: vs) H2 Q E)) := by
  obtain ⟨dy, t', v', hp, _⟩ := id hS.ex
  have C := stepC T d
  refine ⟨p, _, dy, _, rfl, hp, fld_af t' v' d, C.cl, ?_⟩
  cases d with
  | wr a ns => exact .inr ⟨T.m_Write_after, ht _ ⟨p, q, vals, a, ns, rfl, hS, hg, vl, gd.1, gd.2, kE, kQ⟩⟩
  | sy => exact .inl ⟨T.m_Sync_after, ht _ ⟨p, q, vals, rfl, hg, vl, kQ vals rfl⟩⟩
  | ps s => exact .inl ⟨T.m_Pass_after, ht _ ⟨p, q, vals, rfl, hg, vl, kQ vals rfl⟩⟩
end
theorem own_fits : Vc.Fits (.list [.list [.int 7, .int 8, .int 9, .int 4], .list [.int 7, .int 8, .int 9], .list [.int 7, .int 8, .int 9]]) :=
  Vc.Fw.fits (w := 1000) (k := 2) (Vc.fw_lst (Vc.fw_cons (fw_res (R := .ok [7, 8, 9, 4]) ⟨by decide, by decide⟩) (Vc.fw_cons (fw_res (R := .ok [7, 8, 9]) ⟨by decide, by decide⟩) (Vc.fw_cons (fw_res (R := .ok [7, 8, 9]) ⟨by decide, by decide⟩) Vc.fw_nil))) (by decide : 3 * (200 + 2) + 4 ≤ 1000))
def spOwn : Sp := fun vs H Q _ => vs = [] ∧ ∀ H', Vc.Ed [] H H' → Q (.bl true) H'
section
variable {w : World} {K : PySem.W.Frag} {mg : Str → Option Value} {base : Heap} {A : Ad} {Tb : List (Addr × Str)}
theorem ok__law_own_right (T : Txt K mg A) : Vc.FnG PG w K mg base CX0 9 A.f__law_own_right A.d__law_own_right [] spOwn := by
  have G_Syncu_initu := ok_Syncu_initu (w := w) (base := base) T
  have G_Passu_initu := ok_Passu_initu (w := w) (base := base) T
  have G_Writeu_initu := ok_Writeu_initu (w := w) (base := base) T
  have G_Step_after := ok_Step_after (P := PG) (w := w) (base := base) T
  have G_Write_after := ok_Write_after (w := w) (base := base) T
  refine Vc.Fun.okG T.F__law_own_right sc__law_own_right (fun vs H Q E h => ?_) (fun cdv Ar outer s H vs Q E hgd hr h => ?_)
  · obtain ⟨rfl, _⟩ := h
    rfl
  · obtain ⟨rfl, k⟩ := h
    have hu := hu_of hr
    refine ⟨_, (pss_cons (ps_set (i := 0) sc__law_own_right.nd rfl (Or.inl rfl) (pe_lst (pa_cons pe_int (pa_cons pe_int (pa_cons pe_int pa_nil))))) (pss_cons (ps_for PassesOwn.never rfl (pi_tup (pe_tup (pa_cons (pe_make0 T.mk_Sync G_Syncu_initu (by exact hr.mono (by decide)) (by rfl) T.g_Sync T.b_Syncu_initu .nil pass0) (pa_cons (pe_make T.mk_Pass G_Passu_initu (by exact hr.mono (by decide)) (by rfl) T.g_Pass T.b_Passu_initu .nil pass0 (pa_cons pe_int pa_nil)) (pa_cons (Vc.pe_makeV T.mk_Write G_Writeu_initu (by exact hr.mono (by decide)) (by rfl) T.g_Write Vc.passSL (pa_cons pe_int (pa_cons pe_int pa_nil))) pa_nil))))) (pg_name (i := 1) sc__law_own_right.nd rfl (Or.inl rfl)) (pss_cons (ps_set (i := 2) sc__law_own_right.nd rfl (Or.inl rfl) (Vc.pe_meth2 (pv 1) G_Step_after (by exact hr.mono (by decide)) T.b_Step_after Vc.passS0 G_Write_after (by exact hr.mono (by decide)) T.b_Write_after Vc.passSL (pa_cons (pv 0) pa_nil))) (pss_cons (ps_expr (pe_bm PySem.F.plainAttrs_list PySem.F.slot_list_append PySem.F.type_list_append mt_append (pv 2) (pa_cons pe_int pa_nil))) (pss_one (ps_if (pt_cmpR op_ne (pe_callB (Vc.call_reprD hgd (Vc.room64 hr)) (by rfl) T.n_repr (by decide +kernel) (pa_cons (pe_lst (pa_cons (pv 2) (pa_cons (pv 0) (pa_cons (Vc.pe_meth2 (pv 1) G_Step_after (by exact hr.mono (by decide)) T.b_Step_after Vc.passS0 G_Write_after (by exact hr.mono (by decide)) T.b_Write_after Vc.passSL (pa_cons (pv 0) pa_nil)) pa_nil)))) pa_nil)) (pe_callB (Vc.call_reprD hgd (Vc.room64 hr)) (by rfl) T.n_repr (by decide +kernel) (pa_cons (pe_lst (pa_cons (pe_lst (pa_cons pe_int (pa_cons pe_int (pa_cons pe_int (pa_cons pe_int pa_nil))))) (pa_cons (pe_lst (pa_cons pe_int (pa_cons pe_int (pa_cons pe_int pa_nil)))) (pa_cons (pe_lst (pa_cons pe_int (pa_cons pe_int (pa_cons pe_int pa_nil)))) pa_nil)))) pa_nil)) (nomark _)) (pss_one (ps_ret pe_bl)) pss_nil))))) (pss_one (ps_ret pe_bl)))), ?_⟩
    walk_at "go"
    intro r nr
    generalize hu1 : upd _ r _ = H1
    obtain ⟨e1, hr1⟩ := Vc.alloc hu1 nr
    walk_at "go"
    intro p1 px1 np1 npx1 ne1
    generalize hu2 : upd _ p1 _ = H2
    obtain ⟨e2, hp1, _⟩ := Vc.allocI hu2 np1 npx1 ne1
    refine ⟨p1, px1, rfl, hp1, fun H3 e3 hS1 => ⟨rfl, ?_⟩⟩
    have e13 : Vc.Ed [] H1 H3 := e2.one e3 (.inr np1)
    clear e2 hp1 e3 hu2
    walk_at "go"
    intro p2 px2 np2 npx2 ne2
    generalize hu4 : upd _ p2 _ = H4
    obtain ⟨e4, hp2, _⟩ := Vc.allocI hu4 np2 npx2 ne2
    refine ⟨p2, px2, 5, rfl, hp2, fun H5 e5 hS2 => ⟨rfl, ?_⟩⟩
    have e35 : Vc.Ed [] H3 H5 := e4.one e5 (.inr np2)
    clear e4 hp2 e5 hu4
    walk_at "go"
    intro p3 px3 np3 npx3 ne3
    refine ⟨[.ref p3, .int 2], [.int 9], rfl, rfl, by show 1 ≤ sizeLine; decide, fun v nv => ?_⟩
    generalize hu6 : upd (upd H5 px3 _) p3 _ = H5' at nv ⊢
    obtain ⟨e6, hp3, _⟩ := Vc.allocI hu6 np3 npx3 ne3
    generalize hu6' : upd _ v _ = H5''
    obtain ⟨e6', hv⟩ := Vc.alloc hu6' nv
    refine ⟨p3, px3, v, 2, [9], rfl, e6'.at0 hp3, hv, by decide, fun b i he => (by rw [show wrErr 2 [9] = none by decide +kernel] at he; cases he), fun he H6 e6'' hS3 => ⟨rfl, ?_⟩⟩
    have e56 : Vc.Ed [] H5 H6 := (e6.ex e6').one e6'' (.inr np3)
    clear e6 e6' e6'' hp3 hv hu6 hu6'
    walk_at "go"
    intro t nt
    generalize hu7 : upd _ t _ = H7
    obtain ⟨e7, ht⟩ := Vc.alloc hu7 nt
    have e17 : Vc.Ed [] H1 H7 := ((e13.ex e35).ex e56).ex e7
    have hS : StepsAt A H7 [.ref p1, .ref p2, .ref p3] [.sy, .ps 5, .wr 2 [9]] := .cons ((hS1.ed0 (e35.ex e56)).ed0 e7) (.cons ((hS2.ed0 e56).ed0 e7) (.cons (hS3.ed0 e7) .nil))
    have hr7 := e17.at0 hr1
    have e07 := e1.ex e17
    clear e13 e35 e56 e7 hS1 hS2 hS3 hr1 e1 e17 hu7
    walk_at "go"
    refine ⟨⟨_, .of ht⟩, for_it (walk_tup (xs := [.ref p1, .ref p2, .ref p3])) (fun j σ H' => (∃ y1 y2 : Option V, σ = [some (.ref r), y1, y2]) ∧ Vc.Ed [] H7 H') ⟨⟨_, _, rfl⟩, .refl⟩ (fun _ _ _ _ q => .of (q.2.tup _ _ ht)) (fun j x σ H8 H9 hj q y => ?_) fun σ H8 q => ?_⟩
    · obtain ⟨⟨y1, y2, rfl⟩, e8⟩ := q
      obtain ⟨rfl, hx⟩ := y
      obtain ⟨p, d, rfl, hd, hSd⟩ := hS.get hx
      have hS9 := hSd.ed0 e8
      have hr9 := e8.at0 hr7
      have hcd : d.Go ∧ aftE d [7, 8, 9] = .ok [7, 8, 9] := by
        match j, hd with
        | 0, hd => obtain rfl := Option.some.inj hd; exact ⟨trivial, rfl⟩
        | 1, hd => obtain rfl := Option.some.inj hd; exact ⟨trivial, rfl⟩
        | 2, hd => obtain rfl := Option.some.inj hd; exact ⟨⟨by decide, by decide⟩, rfl⟩
      walk_at "go"
      refine Vc.go_meth2 ?_
      walk_at "go"
      refine go_stepAfter T hS9 (vals := [7, 8, 9]) (.inl (.of hr9)) (by decide) hcd.1 (fun R h => Vc.go_cons (Vc.go_var rfl (Vc.go_nil h))) (fun e he => by rw [hcd.2] at he; cases he) fun c hc L H10 e10 nL hL => ?_
      obtain rfl : [7, 8, 9] = c := by rw [hcd.2] at hc; cases hc; rfl
      have hr10 := e10.at0 hr9
      have hS10 := hS9.ed0 e10
      walk_at "go"
      generalize hu11 : upd H10 L _ = H11
      obtain ⟨e11, hL11⟩ := Vc.chg hu11 hL
      have hL11 : H11 L = some (.lst (([7, 8, 9, 4] : List Int).map V.int)) := hL11
      have e911 : Vc.Ed [] H9 H11 := e10.one e11 (.inr nL)
      have hr11 : H11 r = some (.lst (([7, 8, 9] : List Int).map V.int)) := e911.at0 hr9
      have hS11 := hS9.ed0 e911
      clear hS10 hr10 e10 e11 hL hu11
      refine Vc.go_meth2 ?_
      walk_at "go"
      refine go_stepAfter T hS11 (vals := [7, 8, 9]) (.inl (.of hr11)) (by decide) hcd.1 (fun R h => Vc.go_cons (Vc.go_var rfl (Vc.go_nil h))) (fun e he => by rw [hcd.2] at he; cases he) fun c hc L2 H12 e12 nL2 hL2 => ?_
      obtain rfl : [7, 8, 9] = c := by rw [hcd.2] at hc; cases hc; rfl
      walk_at "go"
      intro z nz
      generalize hu13 : upd _ z _ = H13
      obtain ⟨e13, hz⟩ := Vc.alloc hu13 nz
      have e1113 := e12.ex e13
      have hL13 := e1113.at0 hL11
      have hr13 := e1113.at0 hr11
      have hM13 := e13.at0 hL2
      walk_at "go"
      refine Vc.go_repr (d := .list [.list [.int 7, .int 8, .int 9, .int 4], .list [.int 7, .int 8, .int 9], .list [.int 7, .int 8, .int 9]]) (.lst (.of hz) (.cons (.lst (.of hL13) (dp_ints [7, 8, 9, 4])) (.cons (.lst (.of hr13) (dp_ints [7, 8, 9])) (.cons (.lst (.of hM13) (dp_ints [7, 8, 9])) .nil)))) own_fits ?_
      walk_at "go"
      intro a na
      generalize hu14 : upd _ a _ = H14
      obtain ⟨e14, ha⟩ := Vc.alloc hu14 na
      walk_at "go"
      intro b nb
      generalize hu15 : upd _ b _ = H15
      obtain ⟨e15, hb⟩ := Vc.alloc hu15 nb
      walk_at "go"
      intro c nc
      generalize hu16 : upd _ c _ = H16
      obtain ⟨e16, hc16⟩ := Vc.alloc hu16 nc
      walk_at "go"
      intro z2 nz2
      generalize hu17 : upd _ z2 _ = H17
      obtain ⟨e17, hz2⟩ := Vc.alloc hu17 nz2
      have ha : H17 a = some (.lst (([7, 8, 9, 4] : List Int).map V.int)) := e17.at0 (e16.at0 (e15.at0 ha))
      have hb : H17 b = some (.lst (([7, 8, 9] : List Int).map V.int)) := e17.at0 (e16.at0 hb)
      have hc17 : H17 c = some (.lst (([7, 8, 9] : List Int).map V.int)) := e17.at0 hc16
      walk_at "go"
      refine Vc.go_repr (d := .list [.list [.int 7, .int 8, .int 9, .int 4], .list [.int 7, .int 8, .int 9], .list [.int 7, .int 8, .int 9]]) (.lst (.of hz2) (.cons (.lst (.of ha) (dp_ints [7, 8, 9, 4])) (.cons (.lst (.of hb) (dp_ints [7, 8, 9])) (.cons (.lst (.of hc17) (dp_ints [7, 8, 9])) .nil)))) own_fits ?_
      walk_at "go"
      exact ⟨⟨_, _, rfl⟩, (((((e8.ex e911).ex e1113).ex e14).ex e15).ex e16).ex e17⟩
    · obtain ⟨⟨y1, y2, rfl⟩, e8⟩ := q
      walk_at "go"
      exact k H8 (e07.ex e8)
end

end My
namespace My
open PySem PySem.Spec PyProof.Rows L2
/-! ### a wide write, read from its text -/
abbrev lamQw : Str := ((("_law_wide_right" : Str) ++ (".<locals>." : Str)) ++ ("<lambda>" : Str))
def spWideRight (Tb : List (Addr × Str)) : Sp := fun vs H Q _ => ∃ (b c g : Addr) (n : Nat) (vals : List Int), vs = [.ref b, .ref g] ∧ Pen H b c n ∧ n ≤ 700000 ∧ H g = some (.lst (vals.map V.int)) ∧ Cells vals ∧ LamX.Tabs Tb H ∧
  ∀ H', Vc.EdX [b] H H' → Pen H' b c (n + 60) → LamX.Tabs Tb H' → Q (.bl true) H'
section
variable {w : World} {K : PySem.W.Frag} {mg : Str → Option Value} {base : Heap} {A : Ad} {Tb : List (Addr × Str)} {cL PL_ : Addr}
def wideD (a : Int) (vs : List Int) : PyData := .list [.int a, .tuple (vs.map PyData.int), .int 1]
theorem wide_fits {a : Int} {vs : List Int} (a0 : 0 ≤ a) (a1 : a < 24) (l : vs.length ≤ 16) (h : ∀ v ∈ vs, 0 ≤ v ∧ v ≤ 255) : Vc.Fits (wideD a vs) := by
  have ht : Vc.Fw (.tuple (vs.map PyData.int)) 200 1 := by
    refine Vc.fw_tup (w := 4) (k := 0) (fun x hx => ?_) ?_
    · obtain ⟨q, hq, rfl⟩ := List.mem_map.mp hx
      have := h q hq
      exact Vc.fw_int 3 (by omega)
    · rw [List.length_map]
      exact Nat.le_trans (Nat.add_le_add_right (Nat.mul_le_mul_right _ l) _) (by decide)
  exact Vc.Fw.fits (w := 1000) (k := 2) (Vc.fw_lst (Vc.fw_cons (Vc.fw_int 3 (by omega)) (Vc.fw_cons ht (Vc.fw_cons (Vc.fw_int 3 (by decide)) Vc.fw_nil))) (by decide : 3 * (200 + 2) + 4 ≤ 1000))
theorem wide_dp {K : PySem.W.Frag} {H : Hp} {l f : Addr} {a : Int} {vs : List Int} (hl : H l = some (.lst [.int a, .ref f, .int 1])) (hf : H f = some (.tup (vs.map V.int))) : Dp K H (.ref l) (wideD a vs) :=
  .lst (.of hl) (.cons (.int a) (.cons (.tup (.inl (.of hf)) (dp_ints vs)) (.cons (.int 1) .nil)))
theorem plan_one (d : SD) : planText [d] = d.text := rfl
theorem okR_Plan_read (T : Txt K mg A) : FnR PG w K mg base CX0 7 A.f_Plan_read (spPlanRead A K) := by
  have z := (ok_Plan_read (w := w) (base := base) T).raw (dvs := []) T.b_Plan_read .nil
  have e : (fun vs H Q E => spPlanRead A K (vs ++ []) H Q E) = spPlanRead A K := by
    funext vs H Q E
    rw [List.append_nil]
  rw [e] at z
  exact z
theorem ok__law_wide_right (T : Txt K mg A) (LM : Vc.LamAt K mg base Tb A.f__law_wide_right lamQw cL PL_) : Vc.FnG PG w K mg base CX0 12 A.f__law_wide_right A.d__law_wide_right ["_law_pen_here", "_law_cells"] (spWideRight Tb) := by
  have G__law_draw := ok__law_draw (P := PG) (w := w) (base := base) T
  have G__law_due := ok__law_due (P := PG) (w := w) (base := base) T
  have G_Plan_read := okR_Plan_read (w := w) (base := base) T
  have G_Plan_writes := ok_Plan_writes (P := PG) (w := w) (base := base) T
  have G_Planu_getitemu := ok_Planu_getitemu (w := w) (base := base) T
  have G_Plan_after := ok_Plan_after (w := w) (base := base) T
  have G_Step_after := ok_Step_after (P := PG) (w := w) (base := base) T
  have G_Write_after := ok_Write_after (w := w) (base := base) T
  refine Vc.Fun.okGL T.F__law_wide_right LM.co sc__law_wide_right (fun vs H Q E h => ?_) (fun Ar outer s H vs Q E hgd hr h => ?_)
  · obtain ⟨b, c, g, n, vals, rfl, _⟩ := h
    rfl
  · obtain ⟨b, c, g, n, vals, rfl, hB, nl, hg, hc, tb, k⟩ := h
    have cl := T.cl_Plan
    have hu := hu_of hr
    have hc1 := hc.1
    refine ⟨_, (pss_cons (ps_set (i := 2) sc__law_wide_right.nd rfl (Or.inl rfl) (pe_callTy Vc.call_tupD (by rfl) T.n_tuple (by decide +kernel) (pa_cons (pe_lc (own := [("_law_k", 7)]) (g := gName 7) rfl sc__law_wide_right.nd (pi_range1 (by rfl) T.n_range (pa_cons (pe_op op_sub pe_int (pe_call G__law_draw (by exact hr.mono (by decide)) (by rfl) T.g__law_draw T.F__law_draw.kp T.b__law_draw .nil pass0 (pa_cons (pv 0) (pa_cons pe_int pa_nil)))) pa_nil)) (blkOk_by (own := [("_law_k", 7)]) (N := ["_law_pen_here", "_law_cells", "_law_fresh", "_law_at", "_law_course", "_law_due_here", "_law_told_here", "_law_k", "_law_value"]) (sc := defScope s__law_wide_right) (by decide +kernel)) (fun _ _ _ _ _ => by exact (pg_name (i := 7) sc__law_wide_right.nd rfl (Or.inl rfl))) (fun _ _ _ _ _ => by exact pts_nil) (fun _ _ _ _ _ => by (refine' Vc.blkE ?h ?q; (case h => exact (pe_call G__law_draw (by exact hr.mono (by decide)) (by rfl) T.g__law_draw T.F__law_draw.kp T.b__law_draw .nil pass0 (pa_cons (pv 0) (pa_cons pe_int pa_nil)))); (case q => first | exact rfl | (dsimp only; done) | (dsimp only; exact rfl))))) pa_nil))) (pss_cons (ps_set (i := 3) sc__law_wide_right.nd rfl (Or.inl rfl) (pe_call G__law_draw (by exact hr.mono (by decide)) (by rfl) T.g__law_draw T.F__law_draw.kp T.b__law_draw .nil pass0 (pa_cons (pv 0) (pa_cons (pe_callB (call_min2 rfl) (by rfl) T.n_min (by decide +kernel) (pa_cons pe_int (pa_cons (pe_callB (call_max2 rfl) (by rfl) T.n_max (by decide +kernel) (pa_cons pe_int (pa_cons (pe_op op_add (pe_op op_sub (pe_callB call_len_seq (by rfl) T.n_len (by decide +kernel) (pa_cons (pv 1) pa_nil)) (pe_callB call_len_seq (by rfl) T.n_len (by decide +kernel) (pa_cons (pv 2) pa_nil))) pe_int) pa_nil))) pa_nil))) pa_nil)))) (pss_cons (ps_set (i := 4) sc__law_wide_right.nd rfl (Or.inr rfl) (Vc.pe_cmethS (pe_glob (v := .ref A.C_Plan) (by rfl) T.g_Plan rfl) T.cr_Plan T.cm_Plan_read G_Plan_read (by exact hr.mono (by decide)) (Vc.passS0 (E := fun _ => E0)) (pa_cons (pe_join pe_str (pe_op op_cat (pe_lst (pa_cons pe_str (pa_cons (pe_callTy call_str_int (by rfl) T.n_str (by decide +kernel) (pa_cons (pv 3) pa_nil)) pa_nil))) (pe_lc (own := [("_law_value", 8)]) (g := gName 8) rfl sc__law_wide_right.nd (pi_tup (pv 2)) (blkOk_by (own := [("_law_value", 8)]) (N := ["_law_pen_here", "_law_cells", "_law_fresh", "_law_at", "_law_course", "_law_due_here", "_law_told_here", "_law_k", "_law_value"]) (sc := defScope s__law_wide_right) (by decide +kernel)) (fun _ _ _ _ _ => by exact (pg_name (i := 8) sc__law_wide_right.nd rfl (Or.inl rfl))) (fun _ _ _ _ _ => by exact pts_nil) (fun _ _ _ _ _ => by (refine' Vc.blkE ?h ?q; (case h => exact (pe_callTy call_str_int (by rfl) T.n_str (by decide +kernel) (pa_cons (pv 8) pa_nil))); (case q => first | exact rfl | (dsimp only; done) | (dsimp only; exact rfl))))))) pa_nil))) (pss_cons (ps_if (pt_cmpR op_ne (pe_callB (Vc.call_reprD hgd (Vc.room64 hr)) (by rfl) T.n_repr (by decide +kernel) (pa_cons (pe_lst (pa_cons (pe_fld (Vc.pe_ixO (pv 4) pe_int T.sp_Plan_Planu_getitemu T.spf_Planu_getitemu G_Planu_getitemu (by exact hr.mono (by decide)) T.b_Planu_getitemu Vc.passSL) rfl) (pa_cons (pe_fld (Vc.pe_ixO (pv 4) pe_int T.sp_Plan_Planu_getitemu T.spf_Planu_getitemu G_Planu_getitemu (by exact hr.mono (by decide)) T.b_Planu_getitemu Vc.passSL) rfl) (pa_cons (pe_prop (pv 4) T.cl_Plan T.p_Plan_writes G_Plan_writes (by exact hr.mono (by decide)) T.b_Plan_writes .nil pass0 (by rfl)) pa_nil)))) pa_nil)) (pe_callB (Vc.call_reprD hgd (Vc.room64 hr)) (by rfl) T.n_repr (by decide +kernel) (pa_cons (pe_lst (pa_cons (pv 3) (pa_cons (pv 2) (pa_cons pe_int pa_nil)))) pa_nil)) (nomark _)) (pss_one (ps_ret pe_bl)) pss_nil) (pss_cons (ps_set (i := 5) sc__law_wide_right.nd rfl (Or.inl rfl) (pe_call G__law_due (by exact hr.mono (by decide)) (by rfl) T.g__law_due T.F__law_due.kp T.b__law_due .nil pass0 (pa_cons (pv 1) (pa_cons (pe_lst (pa_cons (pe_tup (pa_cons pe_str (pa_cons (pv 3) (pa_cons (pv 2) pa_nil)))) pa_nil)) pa_nil)))) (pss_cons (ps_set (i := 6) sc__law_wide_right.nd rfl (Or.inl rfl) (pe_lst (pa_cons (Vc.pe_lamS (T := Tb) (j := 9) (k := 8) T.F__law_told (by rfl) T.g__law_told T.b__law_told sc__law_told (by rfl) (.inl rfl) (fun cdg => gives__law_told T cdg) LM.tb rfl LM.me LM.un (by exact hr.mono (by decide)) (by decide) (LamX.lamS_by (sc := defScope s__law_wide_right) (by decide +kernel)) rfl (fun _ _ _ _ _ => rfl) (fun A9 outer9 s9 H9 E9 f9 c9 hrl => (Vc.pe_methS (pv 4) T.cl_Plan T.m_Plan_after G_Plan_after (by exact hrl.mono (by decide)) T.b_Plan_after (fun σ => passAt (takes_of rfl rfl rfl rfl) σ) (pa_cons (pv 1) pa_nil)))) pa_nil))) (pss_cons (ps_expr (pe_bm PySem.F.plainAttrs_list PySem.F.slot_list_append PySem.F.type_list_append mt_append (pv 6) (pa_cons (Vc.pe_lamS (t := fun E => Vc.tMeth2 K "after" A.f_Step_after (spStepAfter A K) A.f_Write_after (spWriteAfter A K) (fun _ => E) (Vc.tIxO A.C_Plan (spPlanGet A K) (fun _ => E) (tVar 4) (tC (.int 0))) (tCons (tVar 1) tNil)) (T := Tb) (j := 9) (k := 8) T.F__law_told (by rfl) T.g__law_told T.b__law_told sc__law_told (by rfl) (.inl rfl) (fun cdg => gives__law_told T cdg) LM.tb rfl LM.me LM.un (by exact hr.mono (by decide)) (by decide) (LamX.lamS_by (sc := defScope s__law_wide_right) (by decide +kernel)) rfl (fun _ _ _ _ _ => rfl) (fun A9 outer9 s9 H9 E9 f9 c9 hrl => (Vc.pe_meth2 (Vc.pe_ixO (pv 4) pe_int T.sp_Plan_Planu_getitemu T.spf_Planu_getitemu G_Planu_getitemu (by exact hrl.mono (by decide)) T.b_Planu_getitemu (fun σ => passAt (takes_of rfl rfl rfl rfl) σ)) G_Step_after (by exact hrl.mono (by decide)) T.b_Step_after Vc.passS0 G_Write_after (by exact hrl.mono (by decide)) T.b_Write_after (fun σ => passAt (takes_of rfl rfl rfl rfl) σ) (pa_cons (pv 1) pa_nil)))) pa_nil))) (pss_one (ps_ret (pe_cmpR op_eq (pe_callB (Vc.call_reprD hgd (Vc.room64 hr)) (by rfl) T.n_repr (by decide +kernel) (pa_cons (pv 6) pa_nil)) (pe_callB (Vc.call_reprD hgd (Vc.room64 hr)) (by rfl) T.n_repr (by decide +kernel) (pa_cons (pe_lst (pa_cons (pv 5) (pa_cons (pv 5) pa_nil))) pa_nil)) (nomark _))))))))))), ?_⟩
    walk_at "go"
    refine ⟨b, c, n, 16, rfl, hB, by show n ≤ 1000000; omega, by omega, by omega, fun q H1 q0 q1 e1 hB1 => ?_⟩
    have hg1 := e1.at1 (pen_ints hB hg) hg
    obtain ⟨_, _, _, hb⟩ := hB.lst
    have tb1 := Vc.tabs_lst tb e1 hb
    walk_at "go"
    refine ⟨by omega, by omega, Vc.lc_by walk_range (fun L j H' => Vc.Ed [b] H1 H' ∧ Pen H' b c (n + 1 + j) ∧ ∃ vs : List Int, vs.length = j ∧ (∀ v ∈ vs, 0 ≤ v ∧ v ≤ 255) ∧ H' L = some (.lst (vs.map V.int))) (fun L H4 nL e4 hL => ⟨e4.mono (fun _ z => nomatch z), hB1.ed0 e4, [], rfl, (fun _ z => nomatch z), hL⟩) (fun _ _ _ _ _ _ => trivial) ?_ ?_⟩
    · rintro L j x H4 H5 nL hj ⟨e4, hB4, vs, lv, hv, hL⟩ ⟨rfl, rfl⟩
      walk_at "go"
      refine ⟨rfl, ?_⟩
      walk_at "go"
      have j4 : j < 16 := by omega
      refine ⟨b, c, n + 1 + j, 256, rfl, hB4, by show n + 1 + j ≤ 1000000; omega, by omega, by omega, fun v H6 v0 v1 e6 hB6 => ?_⟩
      have nb := hB1.fb nL
      have hL6 := e6.at1 nb.1.symm hL
      refine ⟨_, hL6, small1000 (by rw [List.length_map]; omega), ?_⟩
      generalize hu7 : upd _ L _ = H7
      obtain ⟨e7, hL7⟩ := Vc.chg hu7 hL6
      refine ⟨(e4.trans e6 fun _ z => .inl z).one e7 (.inr nL), hB6.ed1 e7 nb.1 nb.2, vs ++ [v], by rw [List.length_append, lv]; rfl, fun u hu => ?_, by rw [List.map_append]; exact hL7⟩
      rcases List.mem_append.mp hu with h | h
      · exact hv u h
      · rw [List.mem_singleton.mp h]; exact ⟨v0, by omega⟩
    rintro L H4 nL ⟨e4, hB4, vs, lv, hv, hL⟩
    have v1 : 1 ≤ vs.length := by omega
    have v16 : vs.length ≤ 16 := by omega
    have hg4 := e4.at1 (pen_ints hB1 hg1) hg1
    obtain ⟨_, _, _, hb1⟩ := hB1.lst
    have tb4 := Vc.tabs_lst tb1 e4 hb1
    walk_at "go"
    intro f nf
    generalize hu5 : upd _ f _ = H5
    obtain ⟨e5, hf⟩ := Vc.alloc hu5 nf
    have hB5 := (hB4.ed0 e5).up (m := n + 30) (by omega)
    have hg5 := e5.at0 hg4
    have tb5 := Vc.tabs_ed0 tb4 e5
    have e05 : Vc.Ed [b] H H5 := (e1.trans e4 fun _ z => .inl z).ex e5
    clear hB4 hB1 hg4 hg1 tb4 tb1 tb hb hb1 hB hg e1 e4 e5 hL lv hu5 nf nL
    walk_at "go"
    refine ⟨_, _, rfl, ?_⟩
    rw [List.length_map, List.length_map]
    generalize hx : (if (vals.length : Int) - (vs.length : Int) + 2 > 1 then (vals.length : Int) - (vs.length : Int) + 2 else 1) = x
    have x1 : 1 ≤ x := by rw [← hx]; split <;> omega
    clear hx
    walk_at "go"
    refine ⟨_, _, rfl, ?_⟩
    generalize hy : (if x < 24 then x else 24) = y
    have y1 : 1 ≤ y ∧ y ≤ 24 := by rw [← hy]; split <;> omega
    clear hy
    walk_at "go"
    refine ⟨b, c, n + 30, y, rfl, hB5, by show n + 30 ≤ 1000000; omega, by omega, by omega, fun a H6 a0 a1 e6 hB6 => ?_⟩
    have hg6 := e6.at1 (pen_ints hB5 hg5) hg5
    obtain ⟨_, _, _, hb5⟩ := hB5.lst
    have tb6 := Vc.tabs_lst tb5 e6 hb5
    have hf6 := e6.tup _ _ hf
    have e06 : Vc.Ed [b] H H6 := e05.trans e6 fun _ z => .inl z
    clear hB5 hb5 hg5 tb5 hf e6 e05
    walk_at "go"
    refine ⟨Vc.log10 (k := 3) (by omega) (by decide), ?_⟩
    walk_at "go"
    intro L nL
    generalize hu7 : upd _ L _ = H7
    obtain ⟨e7, hL⟩ := Vc.alloc hu7 nL
    have hf7 := e7.tup _ _ hf6
    walk_at "go"
    refine ⟨⟨_, .of hf7⟩, Vc.lc_by (walk_tup (xs := vs.map V.int)) (fun D i H' => Vc.Ed [] H7 H' ∧ H' D = some (.lst (((vs.map numS).take i).map V.str))) (fun D H1 nD e1 hD => ⟨e1, hD⟩) (fun D i H' _ _ q => .of (q.1.tup _ _ hf7)) (fun D i u H8 H9 nD hi q y => ?_) fun D H8 nD q => ?_⟩
    · obtain ⟨rfl, hx⟩ := y
      obtain ⟨e8, hD⟩ := q
      rw [List.getElem?_map] at hx
      obtain ⟨v, hvi, rfl⟩ := Option.map_eq_some_iff.mp hx
      have hz : (vs.map numS)[i]? = some (numS v) := by rw [List.getElem?_map, hvi]; rfl
      have bv := hv v (List.mem_of_getElem? hvi)
      have hi : i < vs.length := (List.getElem?_eq_some_iff.mp hvi).1
      walk_at "go"
      refine ⟨rfl, ?_⟩
      walk_at "go"
      refine ⟨Vc.log10 (k := 3) (by omega) (by decide), ?_⟩
      refine ⟨_, hD, small1000 (by rw [List.length_map]; have := List.length_take_le i (vs.map numS); omega), ?_⟩
      generalize hu5 : upd _ D _ = H5
      obtain ⟨e5, hD5⟩ := Vc.chg hu5 hD
      exact ⟨e8.one e5 (.inr nD), by rw [hD5, take_suc hz, List.map_append]; rfl⟩
    obtain ⟨e8, hD⟩ := q
    rw [List.length_map, List.take_of_length_le (by rw [List.length_map]; exact Nat.le_refl _)] at hD
    have hL8 := e8.at0 hL
    walk_at "go"
    refine Vc.go_cat hL8 hD (by rw [List.length_map, List.length_map]; show 2 + _ ≤ 1000; omega) fun M nM => ?_
    generalize hu9 : upd _ M _ = H9
    obtain ⟨e9, hM⟩ := Vc.alloc hu9 nM
    have hM : H9 M = some (.lst ((SD.wr a vs).ws.map V.str)) := hM
    have e69 : Vc.Ed [] H6 H9 := (e7.ex e8).ex e9
    have rd : (SD.wr a vs).Rd := ⟨a0, by omega, v1, v16, hv⟩
    have hg9 := e69.at0 hg6
    have hf9 := e69.tup _ _ hf6
    have tb9 := Vc.tabs_ed0 tb6 e69
    have hB9 := hB6.ed0 e69
    have e09 : Vc.Ed [b] H H9 := e06.ex e69
    clear hB6 hg6 hf6 tb6 e06 e69 e7 e8 e9 hL hL8 hD hf7 hu7 hu9 nM nL nD
    refine go_joinN (by decide +kernel) (.of hM) (fun z hz => ?_) (by show _ + 1 + 1 ≤ 1000; rw [List.length_map]; omega) ?_
    · rcases List.mem_cons.mp hz with rfl | hz
      · decide +kernel
      · obtain ⟨v, hv', rfl⟩ : ∃ v : Int, (0 ≤ v ∧ v ≤ 255) ∧ numS v = z := by
          rcases List.mem_cons.mp hz with rfl | hz
          · exact ⟨a, by omega, rfl⟩
          · obtain ⟨v, h, e⟩ := List.mem_map.mp hz
            exact ⟨v, hv v h, e⟩
        have := numS_len hv'.1 hv'.2
        omega
    walk_at "go"
    refine ⟨[.wr a vs], by rw [plan_one]; rfl, fun d hd => by rw [List.mem_singleton.mp hd]; exact rd, List.cons_ne_nil _ _, by show 1 ≤ 90; decide, fun p H10 e10 np hP => ?_⟩
    have hg10 := e10.at0 hg9
    have hf10 := e10.tup _ _ hf9
    have tb10 := Vc.tabs_ed0 tb9 e10
    have hB10 := hB9.ed0 e10
    have e010 : Vc.Ed [b] H H10 := e09.ex e10
    clear hB9 hg9 hf9 tb9 e09 hM e10
    obtain ⟨dx, t, us, hp, _⟩ := id hP.ex
    walk_at "go"
    have get : ∀ {R : VK} {E9 : XK} {H9 : Hp}, PlanAt A K H9 p [.wr a vs] → (∀ q, StepAt A H9 q (.wr a vs) → R (.ref q) H9) → spPlanGet A K [.ref p, .int 0] H9 R E9 := fun {R E9 H9} hP kk =>
      ⟨p, 0, _, rfl, hP, fun z => absurd z (by show ¬ ((0 : Int) < 0 ∨ (1 : Int) ≤ 0); decide), fun q d h0 hd hS => by cases hd; exact kk q hS⟩
    have clW := T.cl_Write
    have no1 := T.no_Write_address
    have no2 := T.no_Write_given
    refine get hP fun q hS => ?_
    obtain ⟨dq, tq, vq, hq, htq, hvq⟩ := id hS.ex
    have hq : H10 q = some (.ins A.C_Write dq [("shown", .ref tq), ("address", .int a), ("given", .ref vq)]) := hq
    have hvq := hvq _ _ rfl
    refine Vc.go_fldV hq rfl clW no1 ?_
    walk_at "go"
    refine get hP fun q2 hS2 => ?_
    obtain ⟨dq2, tq2, vq2, hq2, htq2, hvq2⟩ := id hS2.ex
    have hq2 : H10 q2 = some (.ins A.C_Write dq2 [("shown", .ref tq2), ("address", .int a), ("given", .ref vq2)]) := hq2
    have hvq2 := hvq2 _ _ rfl
    refine Vc.go_fldV hq2 rfl clW no2 ?_
    walk_at "go"
    refine ⟨p, _, rfl, hP, fun H11 e11 => ?_⟩
    have hg11 := e11.at0 hg10
    have hf11 := e11.tup _ _ hf10
    have hv11 := e11.tup _ _ hvq2
    have tb11 := Vc.tabs_ed0 tb10 e11
    have hB11 := hB10.ed0 e11
    have e011 : Vc.Ed [b] H H11 := e010.ex e11
    have hP11 := hP.ed0 e11
    clear hB10 hg10 hf10 tb10 e010 e11 hP hq hq2 hvq hvq2 htq htq2 hp
    walk_at "go"
    intro z1 nz1
    generalize hu12 : upd _ z1 _ = H12
    obtain ⟨e12, hz1⟩ := Vc.alloc hu12 nz1
    walk_at "go"
    refine Vc.go_repr (wide_dp hz1 (e12.tup _ _ hv11)) (wide_fits a0 (by omega) v16 hv) ?_
    walk_at "go"
    intro z2 nz2
    generalize hu13 : upd _ z2 _ = H13
    obtain ⟨e13, hz2⟩ := Vc.alloc hu13 nz2
    walk_at "go"
    refine Vc.go_repr (wide_dp hz2 (e13.tup _ _ (e12.tup _ _ hf11))) (wide_fits a0 (by omega) v16 hv) ?_
    walk_at "go"
    intro t1 nt1
    generalize hu14 : upd _ t1 _ = H14
    obtain ⟨e14, ht1⟩ := Vc.alloc hu14 nt1
    walk_at "go"
    intro l nl1
    generalize hu15 : upd _ l _ = H15
    obtain ⟨e15, hl⟩ := Vc.alloc hu15 nl1
    have e1115 : Vc.Ed [] H11 H15 := ((e12.ex e13).ex e14).ex e15
    have hg15 := e1115.at0 hg11
    have hf15 := e1115.tup _ _ hf11
    have tb15 := Vc.tabs_ed0 tb11 e1115
    have hB15 := hB11.ed0 e1115
    have e015 : Vc.Ed [b] H H15 := e011.ex e1115
    have hP15 := hP11.ed0 e1115
    have ol : OnesAt H15 [.ref t1] [.wr a vs] := .cons ⟨f, e15.tup _ _ ht1, hf15⟩ .nil
    clear hB11 hg11 hf11 tb11 e011 hP11 hv11 e12 e13 e14 e15 e1115 hz1 hz2 ht1 hu12 hu13 hu14 hu15 nz1 nz2 nt1 nl1
    have gd : ∀ d ∈ [SD.wr a vs], d.By := fun d hd => by rw [List.mem_singleton.mp hd]; exact ⟨a0, by omega, v1, hv⟩
    have gg : ∀ d ∈ [SD.wr a vs], d.Go := fun d hd => (gd d hd).go
    have rok := aftP_ok (ds := [SD.wr a vs]) hc gd
    have one : aftP [SD.wr a vs] vals = aftE (.wr a vs) vals := by
      show (match aftE (.wr a vs) vals with | .ok c' => aftP [] c' | .error e => .error e) = _
      cases aftE (.wr a vs) vals <;> rfl
    walk_at "go"
    refine ⟨g, l, _, vals, [.wr a vs], rfl, hg15, by omega, hl, ol, by show 1 ≤ 100; decide, gg, fun due H16 e16 hdue => ?_⟩
    have hdue := hdue.res
    have hg16 := e16.at0 hg15
    have tb16 := Vc.tabs_ed0 tb15 e16
    have hB16 := hB15.ed0 e16
    have e016 : Vc.Ed [b] H H16 := e015.ex e16
    have hP16 := hP15.ed0 e16
    clear hB15 hg15 hf15 tb15 e015 hP15 ol hl e16
    walk_at "go"
    refine Vc.go_lam tb16 fun H17 e17 tb17 => ?_
    have hP17 := hP16.edx e17
    have hg17 := e17.at0 hg16
    obtain ⟨dx17, t17, us17, hp17, _⟩ := id hP17.ex
    refine theard_split (ToldF Tb H16 (aftP [SD.wr a vs] vals)) ?_ ?_
    · intro E9 R9 hE hR
      walk_at "go"
      exact ⟨p, g, vals, [.wr a vs], rfl, hP17, .inl (.of hg17), by omega, gg, fun e he dd H7 e7 hdd => hE _ _ _ ⟨e, dd, rfl, rfl, hdd, fun H8 e8 => told_err e17 tb17 (e7.ex e8) he⟩, fun c he L H7 e7 nL hL => hR _ _ (told_ok e17 tb17 e7 he nL hL)⟩
    clear hP17 hg17 hp17 e17 tb17
    rintro x2 H17 ⟨e17, tb17, r2⟩
    walk_at "go"
    intro L2 nL2
    generalize hu18 : upd _ L2 _ = H18
    obtain ⟨e18, hL18⟩ := Vc.alloc hu18 nL2
    have tb18 := Vc.tabs_ed0 tb17 e18
    have hg18 := e18.at0 (e17.at0 hg16)
    have hP18 := (hP16.edx e17).ed0 e18
    walk_at "go"
    refine Vc.go_lam tb18 fun H19 e19 tb19 => ?_
    have hP19 := hP18.edx e19
    have hg19 := e19.at0 hg18
    obtain ⟨dx19, t19, us19, hp19, _⟩ := id hP19.ex
    refine theard_split (ToldF Tb H18 (aftP [SD.wr a vs] vals)) ?_ ?_
    · intro E9 R9 hE hR
      refine Vc.go_meth2 ?_
      walk_at "go"
      refine get hP19 fun q3 hS3 => ?_
      exact go_stepAfter T hS3 (vals := vals) (.inl (.of hg19)) (by omega) (gg _ (List.mem_singleton.mpr rfl)) (fun R h => Vc.go_cons (Vc.go_var rfl (Vc.go_nil h))) (fun e he dd H7 e7 hdd => hE _ _ _ ⟨e, dd, rfl, rfl, hdd, fun H8 e8 => told_err e19 tb19 (e7.ex e8) (one.trans he)⟩) fun c he L H7 e7 nL hL => hR _ _ (told_ok e19 tb19 e7 (one.trans he) nL hL)
    clear hP19 hg19 hp19 e19 tb19
    rintro x3 H19 ⟨e19, tb19, r3⟩
    have hL19 := e19.at0 hL18
    walk_at "go"
    generalize hu20 : upd _ L2 _ = H20
    obtain ⟨e20, hL20⟩ := Vc.chg hu20 hL19
    have hL20 : H20 L2 = some (.lst [x2, x3]) := hL20
    have e1720 : Vc.EdX [] H17 H20 := ((Vc.EdX.of e18).ex e19).one (.of e20) (.inr (.inl nL2))
    have tb20 := Vc.tabs_lst tb19 e20 hL19
    have r220 := r2.edx e1720
    have r320 := r3.ed1 hL18 e20
    have e1620 := e17.ex e1720
    have due20 := hdue.edx e1620
    refine Vc.go_repr (res2_dp hL20 r220 r320) (res2_fits rok) ?_
    walk_at "go"
    intro L3 nL3
    generalize hu21 : upd _ L3 _ = H21
    obtain ⟨e21, hL21⟩ := Vc.alloc hu21 nL3
    walk_at "go"
    refine Vc.go_repr (res2_dp hL21 (due20.ed0 e21) (due20.ed0 e21)) (res2_fits rok) ?_
    walk_at "go"
    rw [show decide ((PyData.list [resD (aftP [SD.wr a vs] vals), resD (aftP [SD.wr a vs] vals)]).shown = (PyData.list [resD (aftP [SD.wr a vs] vals), resD (aftP [SD.wr a vs] vals)]).shown) = true from decide_eq_true rfl]
    exact k H21 (((Vc.EdX.of e016).ex e1620).ex (.of e21)) (((hB16.edx e1620).ed0 e21).up (by omega)) (Vc.tabs_ed0 tb20 e21)
end

end My
namespace My
open PySem PySem.Spec PyProof.Rows L2
def gkb_Step_after_1_values {α : Type} (us ws : List α) : List α := match us, ws with
  | [u0], [w0] => [u0, w0]
  | _, _ => []
theorem kb_Step_after_1_values {K : PySem.W.Frag} {f : Addr} {fd : FuncData} (F : Fun K "after" "Step.after" s_Step_after f fd) : KBinds K fd ["self", "values"] ["values"] gkb_Step_after_1_values gkb_Step_after_1_values := by
  refine Vc.kbinds F (fun kV doc pm an cdv ct us ws hl => ?_) (fun {vs us zs ws} r rz => ?_)
  · unfold gkb_Step_after_1_values at hl ⊢
    split at hl
    · rfl
    · cases hl
  · rcases r with _ | ⟨hu0, _ | ⟨_, _⟩⟩ <;> rcases rz with _ | ⟨hw0, _ | ⟨_, _⟩⟩ <;> first | exact .nil | exact (.cons hu0 (.cons hw0 .nil))
def gkb_Write_after_1_values {α : Type} (us ws : List α) : List α := match us, ws with
  | [u0], [w0] => [u0, w0]
  | _, _ => []
theorem kb_Write_after_1_values {K : PySem.W.Frag} {f : Addr} {fd : FuncData} (F : Fun K "after" "Write.after" s_Write_after f fd) : KBinds K fd ["self", "values"] ["values"] gkb_Write_after_1_values gkb_Write_after_1_values := by
  refine Vc.kbinds F (fun kV doc pm an cdv ct us ws hl => ?_) (fun {vs us zs ws} r rz => ?_)
  · unfold gkb_Write_after_1_values at hl ⊢
    split at hl
    · rfl
    · cases hl
  · rcases r with _ | ⟨hu0, _ | ⟨_, _⟩⟩ <;> rcases rz with _ | ⟨hw0, _ | ⟨_, _⟩⟩ <;> first | exact .nil | exact (.cons hu0 (.cons hw0 .nil))
/-! ### the law -/
abbrev lamQl : Str := ((("law" : Str) ++ (".<locals>." : Str)) ++ ("<lambda>" : Str))
def spLaw (K : PySem.W.Frag) (Tb : List (Addr × Str)) : Sp := fun vs H Q _ => ∃ (a : Addr) (ns : List Int), vs = [.ref a] ∧ SqL K H a (ns.map V.int) ∧ ns.length ≤ 63 ∧ LamX.Tabs Tb H ∧ ∀ H', Q (.bl true) H'
abbrev ns16 : List Int := [0, 255, 2, 3, 4, 5, 6, 7, 8, 9, 10, 11, 12, 13, 14, 15]
theorem text16 : ("write 8 0 255 2 3 4 5 6 7 8 9 10 11 12 13 14 15" : Str) = planText [.wr 8 ns16] := by decide +kernel
theorem go_tail (k : Nat) (c : List Int) : (c.map V.int).drop k = (c.drop k).map V.int := (List.map_drop).symm
section
variable {K : PySem.W.Frag} {mg : Str → Option Value} {A : Ad} {H : Hp} {Q : VK} {p q : Addr} {ds es : List SD}
theorem ne_plan (T : Txt K mg A) (hP : PlanAt A K H p ds) (hR : PlanAt A K H q es) (k : Q (.bl (!decide (ds = es))) H) : Vc.rNeO K A.C_Plan (spPlanEq A K) (.ref p) (.ref q) H Q := by
  obtain ⟨dx, t, xs, hp, _⟩ := id hP.ex
  obtain ⟨dy, u, ys, hq, _⟩ := id hR.ex
  exact Vc.go_neO rfl hp (Vc.ty_ins hq T.ic_Plan) T.nf_Plan_Plan ⟨p, _, ds, rfl, hP, .inl ⟨q, es, rfl, hR, _, rfl, k⟩⟩
end
/-- step.after(values=row) -/
theorem go_stepAfterK {K : PySem.W.Frag} {mg : Str → Option Value} {A : Ad} {H : Hp} {Q : VK} (T : Txt K mg A) {p q : Addr} {d : SD} {vals : List Int} {t : TA} {σ : L2.St} {E : XK} {gV1 gV2 : List V → List V → List V} (hS : StepAt A H p d) (hg : Given A K H q vals) (vl : vals.length ≤ 900) (gd : d.Go) (ht : ∀ R : List V → Hp → Prop, R [.ref q] H → t σ H R)
    (g1 : gV1 [.ref p] [.ref q] = [.ref p, .ref q]) (g2 : gV2 [.ref p] [.ref q] = [.ref p, .ref q])
    (kE : ∀ e, aftE d vals = .error e → ∀ dd H', Vc.Ed [] H H' → H' dd = some (.xd [("at", .int e)]) → E (.ref A.C_BadAddress) (some dd) H')
    (kQ : ∀ c, aftE d vals = .ok c → ∀ L H', Vc.Ed [] H H' → H L = none → H' L = some (.lst (c.map V.int)) → Q (.ref L) H') :
    ∃ a C dx fs, V.ref p = .ref a ∧ H a = some (.ins C dx fs) ∧ fs.lookup ("after" : Str) = none ∧ Cls K C ∧
      ((Meth K C "after" A.f_Step_after ∧ t σ H fun zs H2 => spStepAfter A K (gV1 [.ref a] zs) H2 Q E) ∨ (Meth K C "after" A.f_Write_after ∧ t σ H fun zs H2 => spWriteAfter A K (gV2 [.ref a] zs) H2 Q E)) := by
  obtain ⟨dy, t', v', hp, _⟩ := id hS.ex
  have C := stepC T d
  refine ⟨p, _, dy, _, rfl, hp, fld_af t' v' d, C.cl, ?_⟩
  cases d with
  | wr a ns => exact .inr ⟨T.m_Write_after, ht _ (by rw [g2]; exact ⟨p, q, vals, a, ns, rfl, hS, hg, vl, gd.1, gd.2, kE, kQ⟩)⟩
  | sy => exact .inl ⟨T.m_Sync_after, ht _ (by rw [g1]; exact ⟨p, q, vals, rfl, hg, vl, kQ vals rfl⟩)⟩
  | ps s => exact .inl ⟨T.m_Pass_after, ht _ (by rw [g1]; exact ⟨p, q, vals, rfl, hg, vl, kQ vals rfl⟩)⟩
theorem StepAt.edbx {A : Ad} {H H' : Hp} {p b : Addr} {d : SD} {ys : List V} (hb : H b = some (.lst ys)) (e : Vc.EdX [b] H H') (h : StepAt A H p d) : StepAt A H' p d := by
  obtain ⟨dx, t, v, a, b, c⟩ := h.ex
  exact ⟨dx, t, v, e.at1 (Vc.nek a hb fun z => by cases z) a, e.tup _ _ b, fun x vs z => e.tup _ _ (c x vs z)⟩
theorem aftP_one {d : SD} {vals : List Int} : aftP [d] vals = aftE d vals := by
  show (match aftE d vals with | .ok c' => aftP [] c' | .error e => .error e) = _
  cases aftE d vals <;> rfl
theorem go_rep24 {H : Hp} {Q : VK} {p : Addr} (hp : H p = some (.lst [.int 0])) (h : ∀ q, H q = none → Q (.ref q) (upd H q (.lst ((List.replicate 24 (0 : Int)).map V.int)))) : rRep (.ref p) (.int 24) H Q :=
  ⟨p, _, _, rfl, rfl, hp, by decide, by decide, (show 1 * 24 ≤ sizeLine by decide), fun q nq => h q nq⟩
/-- step.after([..]): a new row -/
theorem go_stepAfterL {K : PySem.W.Frag} {mg : Str → Option Value} {A : Ad} {H : Hp} {Q : VK} (T : Txt K mg A) {p : Addr} {d : SD} {vals : List Int} {t : TA} {σ : L2.St} {E : XK} (hS : StepAt A H p d) (vl : vals.length ≤ 900) (gd : d.Go)
    (ht : ∀ R : List V → Hp → Prop, (∀ q H2, Vc.Ed [] H H2 → H2 q = some (.lst (vals.map V.int)) → R [.ref q] H2) → t σ H R)
    (kE : ∀ e, aftE d vals = .error e → ∀ dd H', Vc.Ed [] H H' → H' dd = some (.xd [("at", .int e)]) → E (.ref A.C_BadAddress) (some dd) H')
    (kQ : ∀ c, aftE d vals = .ok c → ∀ L H', Vc.Ed [] H H' → H L = none → H' L = some (.lst (c.map V.int)) → Q (.ref L) H') :
    ∃ a C dx fs, V.ref p = .ref a ∧ H a = some (.ins C dx fs) ∧ fs.lookup ("after" : Str) = none ∧ Cls K C ∧
      ((Meth K C "after" A.f_Step_after ∧ t σ H fun vs H2 => spStepAfter A K (.ref a :: vs) H2 Q E) ∨ (Meth K C "after" A.f_Write_after ∧ t σ H fun vs H2 => spWriteAfter A K (.ref a :: vs) H2 Q E)) := by
  obtain ⟨dy, t', v', hp, _⟩ := id hS.ex
  have C := stepC T d
  refine ⟨p, _, dy, _, rfl, hp, fld_af t' v' d, C.cl, ?_⟩
  cases d with
  | wr a ns => exact .inr ⟨T.m_Write_after, ht _ fun q H2 e2 hq => ⟨p, q, vals, a, ns, rfl, hS.ed0 e2, .inl (.of hq), vl, gd.1, gd.2, fun e he dd H' e' => kE e he dd H' (e2.ex e'), fun c he L H' e' n => kQ c he L H' (e2.ex e') (e2.back n)⟩⟩
  | sy => exact .inl ⟨T.m_Sync_after, ht _ fun q H2 e2 hq => ⟨p, q, vals, rfl, .inl (.of hq), vl, fun L H' e' n => kQ vals rfl L H' (e2.ex e') (e2.back n)⟩⟩
  | ps s => exact .inl ⟨T.m_Pass_after, ht _ fun q H2 e2 hq => ⟨p, q, vals, rfl, .inl (.of hq), vl, fun L H' e' n => kQ vals rfl L H' (e2.ex e') (e2.back n)⟩⟩
structure Jq (A : Ad) (K : PySem.W.Frag) (Tb : List (Addr × Str)) (H : Hp) (b c : Addr) (n : Nat) (p g q : Addr) (d : SD) (vals : List Int) : Prop where
  pen : Pen H b c n
  st : StepAt A H p d
  hg : H g = some (.lst (vals.map V.int))
  gv : Given A K H q vals
  tb : LamX.Tabs Tb H
section
variable {A : Ad} {K : PySem.W.Frag} {Tb : List (Addr × Str)} {H H' : Hp} {b c : Addr} {n m : Nat} {p g q : Addr} {d : SD} {vals : List Int}
theorem Jq.edx (e : Vc.EdX [] H H') (t : LamX.Tabs Tb H') (J : Jq A K Tb H b c n p g q d vals) : Jq A K Tb H' b c n p g q d vals :=
  ⟨J.pen.edx e, J.st.edx e, e.at0 J.hg, J.gv.edx e, t⟩
theorem Jq.ed0 (e : Vc.Ed [] H H') (J : Jq A K Tb H b c n p g q d vals) : Jq A K Tb H' b c n p g q d vals := J.edx (.of e) (Vc.tabs_ed0 J.tb e)
end
section
variable {w : World} {K : PySem.W.Frag} {mg : Str → Option Value} {base : Heap} {A : Ad} {Tb : List (Addr × Str)} {c1 P1 c2 P2 c3 P3 : Addr}
theorem ok_law (T : Txt K mg A) (LMp : Vc.LamAt K mg base Tb A.f__law_plan_right lamQp c1 P1) (LMw : Vc.LamAt K mg base Tb A.f__law_wide_right lamQw c2 P2) (LM : Vc.LamAt K mg base Tb A.f_law lamQl c3 P3) : Vc.FnG PG w K mg base CX0 14 A.f_law A.d_law ["_law_script"] (spLaw K Tb) := by
  have G__law_pen := ok__law_pen (P := PG) (w := w) (base := base) T
  have G__law_draw := ok__law_draw (P := PG) (w := w) (base := base) T
  have G__law_step := ok__law_step (w := w) (base := base) T
  have G__law_drawn := ok__law_drawn (w := w) (base := base) T
  have G__law_shaped := ok__law_shaped (w := w) (base := base) T
  have G__law_due := ok__law_due (P := PG) (w := w) (base := base) T
  have G__law_plan_right := ok__law_plan_right (w := w) (base := base) T LMp
  have G__law_wide_right := ok__law_wide_right (w := w) (base := base) T LMw
  have G__law_own_right := ok__law_own_right (w := w) (base := base) T
  have G_Writeu_initu := ok_Writeu_initu (w := w) (base := base) T
  have G_Plan_read := okR_Plan_read (w := w) (base := base) T
  have G_Plan_of := ok_Plan_of (P := PG) (w := w) (base := base) T
  have G_Planu_equ := ok_Planu_equ (P := PG) (w := w) (base := base) T
  have G_Step_after := ok_Step_after (P := PG) (w := w) (base := base) T
  have G_Write_after := ok_Write_after (w := w) (base := base) T
  have G_Imageu_getitemu := ok_Imageu_getitemu (P := PG) (w := w) (base := base) T
  have G_Imageu_lenu := ok_Imageu_lenu (P := PG) (w := w) (base := base) T
  refine Vc.Fun.okGL T.F_law LM.co sc_law (fun vs H Q E h => ?_) (fun Ar outer s H vs Q E hgd hr h => ?_)
  · obtain ⟨a, ns, rfl, _⟩ := h
    rfl
  · obtain ⟨a, ns, rfl, hS, hl, tabs, k⟩ := h
    have hu := hu_of hr
    have cl := T.cl_Plan
    have clW := T.cl_Write
    have no2 := T.no_Write_given
    refine ⟨_, (pss_cons (ps_set (i := 1) sc_law.nd rfl (Or.inr rfl) (pe_call G__law_pen (by exact hr.mono (by decide)) (by rfl) T.g__law_pen T.F__law_pen.kp T.b__law_pen .nil pass0 (pa_cons (pv 0) pa_nil))) (pss_cons (ps_set (i := 2) sc_law.nd rfl (Or.inl rfl) (Vc.pe_makeV T.mk_Write G_Writeu_initu (by exact hr.mono (by decide)) (by rfl) T.g_Write Vc.passSL (pa_cons pe_int (pa_cons pe_int (pa_cons pe_int (pa_cons pe_int (pa_cons pe_int (pa_cons pe_int (pa_cons pe_int (pa_cons pe_int (pa_cons pe_int (pa_cons pe_int (pa_cons pe_int (pa_cons pe_int (pa_cons pe_int (pa_cons pe_int (pa_cons pe_int (pa_cons pe_int (pa_cons pe_int pa_nil))))))))))))))))))) (pss_cons (ps_if (PW.pt (pw_or (pt_cmpR (Vc.op_neO G_Planu_equ (by exact hr.mono (by decide)) T.ne_Plan T.b_Planu_equ) (Vc.pe_cmethS (pe_glob (v := .ref A.C_Plan) (by rfl) T.g_Plan rfl) T.cr_Plan T.cm_Plan_read G_Plan_read (by exact hr.mono (by decide)) (Vc.passS0 (E := fun _ => E0)) (pa_cons pe_str pa_nil)) (Vc.pe_cmethS (pe_glob (v := .ref A.C_Plan) (by rfl) T.g_Plan rfl) T.cr_Plan T.cm_Plan_of G_Plan_of (by exact hr.mono (by decide)) (Vc.passS0 (E := fun _ => E0)) (pa_cons (pv 2) pa_nil)) (nomark _)) (pw_or1 (pt_cmpR op_ne (pe_callB call_len_seq (by rfl) T.n_len (by decide +kernel) (pa_cons (pe_fld (pv 2) rfl) pa_nil)) pe_int (nomark _))))) (pss_one (ps_ret pe_bl)) pss_nil) (pss_cons (ps_for PassesOwn.never rfl (pi_range1 (by rfl) T.n_range (pa_cons pe_int pa_nil)) (pg_name (i := 3) sc_law.nd rfl (Or.inl rfl)) (pss_cons (ps_set (i := 4) sc_law.nd rfl (Or.inr rfl) (pe_ix ix_list (pe_lst (pa_cons (pe_op op_add pe_int (pe_call G__law_draw (by exact hr.mono (by decide)) (by rfl) T.g__law_draw T.F__law_draw.kp T.b__law_draw .nil pass0 (pa_cons (pv 1) (pa_cons pe_int pa_nil)))) (pa_cons pe_int (pa_cons pe_int pa_nil)))) (pe_call G__law_draw (by exact hr.mono (by decide)) (by rfl) T.g__law_draw T.F__law_draw.kp T.b__law_draw .nil pass0 (pa_cons (pv 1) (pa_cons pe_int pa_nil))) (fun _ _ => rfl))) (pss_cons (ps_setLc (i := 5) (own := [("_law_k", 14)]) (g := gName 14) rfl sc_law.nd rfl rfl (sw_true rfl rfl rfl (by decide +kernel)) (pi_range1 (by rfl) T.n_range (pa_cons (pv 4) pa_nil)) (blkOk_by (own := [("_law_k", 14)]) (N := ["_law_script", "_law_pen_here", "_law_wide", "_law_turn", "_law_size", "_law_cells", "_law_many", "_law_steps", "_law_one", "_law_made", "_law_given", "_law_due_here", "_law_told_here", "_law_near", "_law_k"]) (sc := defScope s_law) (by decide +kernel)) (fun _ _ _ _ _ => by exact (pg_name (i := 14) sc_law.nd rfl (Or.inl rfl))) (fun _ _ _ _ _ => by exact pts_nil) (fun _ _ _ _ _ => by (refine' Vc.blkE ?h ?q; (case h => exact (pe_call G__law_draw (by exact hr.mono (by decide)) (by rfl) T.g__law_draw T.F__law_draw.kp T.b__law_draw .nil pass0 (pa_cons (pv 1) (pa_cons pe_int pa_nil)))); (case q => first | exact rfl | (dsimp only; done) | (dsimp only; exact rfl))))) (pss_cons (ps_if (pt_not (pt_val (Vc.pe_callG G__law_wide_right hgd (by exact hr.mono (by decide)) (by rfl) T.g__law_wide_right T.F__law_wide_right.kp T.b__law_wide_right (pa_cons (pv 1) (pa_cons (pv 5) pa_nil))))) (pss_one (ps_ret pe_bl)) pss_nil) (pss_cons (ps_set (i := 6) sc_law.nd rfl (Or.inl rfl) (pe_call G__law_draw (by exact hr.mono (by decide)) (by rfl) T.g__law_draw T.F__law_draw.kp T.b__law_draw .nil pass0 (pa_cons (pv 1) (pa_cons pe_int pa_nil)))) (pss_cons (ps_setLc (i := 7) (own := [("_law_k", 14)]) (g := gName 14) rfl sc_law.nd rfl rfl (sw_true rfl rfl rfl (by decide +kernel)) (pi_range1 (by rfl) T.n_range (pa_cons (pv 6) pa_nil)) (blkOk_by (own := [("_law_k", 14)]) (N := ["_law_script", "_law_pen_here", "_law_wide", "_law_turn", "_law_size", "_law_cells", "_law_many", "_law_steps", "_law_one", "_law_made", "_law_given", "_law_due_here", "_law_told_here", "_law_near", "_law_k"]) (sc := defScope s_law) (by decide +kernel)) (fun _ _ _ _ _ => by exact (pg_name (i := 14) sc_law.nd rfl (Or.inl rfl))) (fun _ _ _ _ _ => by exact pts_nil) (fun _ _ _ _ _ => by (refine' Vc.blkE ?h ?q; (case h => exact (pe_ifExp (pt_cmpR op_eq (pe_op op_mod (pe_callTy call_int1 (by rfl) T.n_int (by decide +kernel) (pa_cons (pv 14) pa_nil)) pe_int) pe_int (nomark _)) (pe_tup (pa_cons pe_str pa_nil)) (pe_call G__law_drawn (by exact hr.mono (by decide)) (by rfl) T.g__law_drawn T.F__law_drawn.kp T.b__law_drawn .nil pass0 (pa_cons (pv 1) (pa_cons (pv 4) pa_nil))))); (case q => first | exact rfl | (dsimp only; done) | (dsimp only; exact rfl))))) (pss_cons (ps_if (pt_not (pt_val (Vc.pe_callG G__law_plan_right hgd (by exact hr.mono (by decide)) (by rfl) T.g__law_plan_right T.F__law_plan_right.kp T.b__law_plan_right (pa_cons (pv 1) (pa_cons (pv 5) (pa_cons (pv 7) pa_nil)))))) (pss_one (ps_ret pe_bl)) pss_nil) (pss_one (ps_for PassesOwn.never rfl (pi_list (pv 7)) (pg_name (i := 8) sc_law.nd rfl (Or.inl rfl)) (pss_cons (ps_asg (pe_tup (pa_cons (pe_call G__law_step (by exact hr.mono (by decide)) (by rfl) T.g__law_step T.F__law_step.kp T.b__law_step .nil pass0 (pa_cons (pv 8) pa_nil)) (pa_cons (pe_call G__law_shaped (by exact hr.mono (by decide)) (by rfl) T.g__law_shaped T.F__law_shaped.kp T.b__law_shaped .nil pass0 (pa_cons (pv 5) (pa_cons (pe_call G__law_draw (by exact hr.mono (by decide)) (by rfl) T.g__law_draw T.F__law_draw.kp T.b__law_draw .nil pass0 (pa_cons (pv 1) (pa_cons pe_int pa_nil))) pa_nil))) pa_nil))) (pg_tup rfl (pgs_cons (pg_name (i := 9) sc_law.nd rfl (Or.inr rfl)) (pgs_cons (pg_name (i := 10) sc_law.nd rfl (Or.inr rfl)) pgs_nil)))) (pss_cons (ps_set (i := 11) sc_law.nd rfl (Or.inl rfl) (pe_call G__law_due (by exact hr.mono (by decide)) (by rfl) T.g__law_due T.F__law_due.kp T.b__law_due .nil pass0 (pa_cons (pv 5) (pa_cons (pe_lst (pa_cons (pv 8) pa_nil)) pa_nil)))) (pss_cons (ps_set (i := 12) sc_law.nd rfl (Or.inl rfl) (pe_lst (pa_cons (Vc.pe_lamS (t := fun E => Vc.tMeth2 K "after" A.f_Step_after (spStepAfter A K) A.f_Write_after (spWriteAfter A K) (fun _ => E) (tVar 9) (tCons (tVar 10) tNil)) (T := Tb) (j := 9) (k := 8) T.F__law_told (by rfl) T.g__law_told T.b__law_told sc__law_told (by rfl) (.inl rfl) (fun cdg => gives__law_told T cdg) LM.tb rfl LM.me LM.un (by exact hr.mono (by decide)) (by decide) (LamX.lamS_by (sc := defScope s_law) (by decide +kernel)) rfl (fun _ _ _ _ _ => rfl) (fun A9 outer9 s9 H9 E9 f9 c9 hrl => (Vc.pe_meth2 (pv 9) G_Step_after (by exact hrl.mono (by decide)) T.b_Step_after Vc.passS0 G_Write_after (by exact hrl.mono (by decide)) T.b_Write_after (fun σ => passAt (takes_of rfl rfl rfl rfl) σ) (pa_cons (pv 10) pa_nil)))) pa_nil))) (pss_cons (ps_expr (pe_bm PySem.F.plainAttrs_list PySem.F.slot_list_append PySem.F.type_list_append mt_append (pv 12) (pa_cons (Vc.pe_lamS (t := fun E => Vc.tMeth2K K "after" A.f_Step_after (spStepAfter A K) A.f_Write_after (spWriteAfter A K) _ _ (fun _ => E) (tVar 9) _) (T := Tb) (j := 9) (k := 8) T.F__law_told (by rfl) T.g__law_told T.b__law_told sc__law_told (by rfl) (.inl rfl) (fun cdg => gives__law_told T cdg) LM.tb rfl LM.me LM.un (by exact hr.mono (by decide)) (by decide) (LamX.lamS_by (sc := defScope s_law) (by decide +kernel)) rfl (fun _ _ _ _ _ => rfl) (fun A9 outer9 s9 H9 E9 f9 c9 hrl => (Vc.pe_meth2K (pv 9) G_Step_after (by exact hrl.mono (by decide)) (kb_Step_after_1_values T.F_Step_after) Vc.passS0 G_Write_after (by exact hrl.mono (by decide)) (kb_Write_after_1_values T.F_Write_after) (fun σ => passAt (takes_of rfl rfl rfl rfl) σ) (pk_cons (pv 10) pk_nil)))) pa_nil))) (pss_cons (ps_if (PW.pt (pw_or (pt_cmpR op_ne (pe_callB (Vc.call_reprD hgd (Vc.room64 hr)) (by rfl) T.n_repr (by decide +kernel) (pa_cons (pv 12) pa_nil)) (pe_callB (Vc.call_reprD hgd (Vc.room64 hr)) (by rfl) T.n_repr (by decide +kernel) (pa_cons (pe_lst (pa_cons (pv 11) (pa_cons (pv 11) pa_nil))) pa_nil)) (nomark _)) (pw_or1 (pt_cmpR (op_neD (by exact hr.units)) (pe_lc (own := [("_law_k", 14)]) (g := gName 14) rfl sc_law.nd (pi_range1 (by rfl) T.n_range (pa_cons (pe_callB (Vc.call_or call_len_seq (Vc.call_lenO G_Imageu_lenu (by exact hr.mono (by decide)) T.sp_Image_Imageu_lenu T.b_Imageu_lenu)) (by rfl) T.n_len (by decide +kernel) (pa_cons (pv 10) pa_nil)) pa_nil)) (blkOk_by (own := [("_law_k", 14)]) (N := ["_law_script", "_law_pen_here", "_law_wide", "_law_turn", "_law_size", "_law_cells", "_law_many", "_law_steps", "_law_one", "_law_made", "_law_given", "_law_due_here", "_law_told_here", "_law_near", "_law_k"]) (sc := defScope s_law) (by decide +kernel)) (fun _ _ _ _ _ => by exact (pg_name (i := 14) sc_law.nd rfl (Or.inl rfl))) (fun _ _ _ _ _ => by exact pts_nil) (fun _ _ _ _ _ => by (refine' Vc.blkE ?h ?q; (case h => exact (Vc.pe_orR (pe_ix ix_seq (pv 10) (pv 14) (fun _ _ => rfl)) (Vc.pe_ixO (pv 10) (pv 14) T.sp_Image_Imageu_getitemu T.spf_Imageu_getitemu G_Imageu_getitemu (by exact hr.mono (by decide)) T.b_Imageu_getitemu (Vc.passS0 (E := fun _ => E0))))); (case q => first | exact rfl | (dsimp only; done) | (dsimp only; exact rfl))))) (pv 5) (nomark _))))) (pss_one (ps_ret pe_bl)) pss_nil) (pss_one (ps_if (pt_val (pe_callB call_isi (by rfl) T.n_isinstance (by decide +kernel) (pa_cons (pv 11) (pa_cons (pe_bltn (v := .ty "list") (by rfl) T.n_list (by decide +kernel) rfl) pa_nil)))) (pss_cons (ps_expr (pe_bm PySem.F.plainAttrs_list PySem.F.slot_list_append PySem.F.type_list_append mt_append (pe_ix ix_list (pv 12) pe_int (fun _ _ => rfl)) (pa_cons pe_int pa_nil))) (pss_one (ps_if (PW.pt (pw_or (pt_cmpR (op_neD (by exact hr.units)) (pe_lc (own := [("_law_k", 14)]) (g := gName 14) rfl sc_law.nd (pi_range1 (by rfl) T.n_range (pa_cons (pe_callB (Vc.call_or call_len_seq (Vc.call_lenO G_Imageu_lenu (by exact hr.mono (by decide)) T.sp_Image_Imageu_lenu T.b_Imageu_lenu)) (by rfl) T.n_len (by decide +kernel) (pa_cons (pv 10) pa_nil)) pa_nil)) (blkOk_by (own := [("_law_k", 14)]) (N := ["_law_script", "_law_pen_here", "_law_wide", "_law_turn", "_law_size", "_law_cells", "_law_many", "_law_steps", "_law_one", "_law_made", "_law_given", "_law_due_here", "_law_told_here", "_law_near", "_law_k"]) (sc := defScope s_law) (by decide +kernel)) (fun _ _ _ _ _ => by exact (pg_name (i := 14) sc_law.nd rfl (Or.inl rfl))) (fun _ _ _ _ _ => by exact pts_nil) (fun _ _ _ _ _ => by (refine' Vc.blkE ?h ?q; (case h => exact (Vc.pe_orR (pe_ix ix_seq (pv 10) (pv 14) (fun _ _ => rfl)) (Vc.pe_ixO (pv 10) (pv 14) T.sp_Image_Imageu_getitemu T.spf_Imageu_getitemu G_Imageu_getitemu (by exact hr.mono (by decide)) T.b_Imageu_getitemu (Vc.passS0 (E := fun _ => E0))))); (case q => first | exact rfl | (dsimp only; done) | (dsimp only; exact rfl))))) (pv 5) (nomark _)) (pw_or1 (pt_cmpR op_ne (pe_callB (Vc.call_reprD hgd (Vc.room64 hr)) (by rfl) T.n_repr (by decide +kernel) (pa_cons (Vc.pe_meth2 (pv 9) G_Step_after (by exact hr.mono (by decide)) T.b_Step_after Vc.passS0 G_Write_after (by exact hr.mono (by decide)) T.b_Write_after Vc.passSL (pa_cons (pv 10) pa_nil)) pa_nil)) (pe_callB (Vc.call_reprD hgd (Vc.room64 hr)) (by rfl) T.n_repr (by decide +kernel) (pa_cons (pv 11) pa_nil)) (nomark _))))) (pss_one (ps_ret pe_bl)) pss_nil))) pss_nil)))))))))))))))) (pss_cons (ps_asg (pe_tup (pa_cons (Vc.pe_makeV T.mk_Write G_Writeu_initu (by exact hr.mono (by decide)) (by rfl) T.g_Write Vc.passSL (pa_cons pe_int (pa_cons pe_int (pa_cons pe_int (pa_cons pe_int pa_nil))))) (pa_cons (Vc.pe_makeV T.mk_Write G_Writeu_initu (by exact hr.mono (by decide)) (by rfl) T.g_Write Vc.passSL (pa_cons pe_int (pa_cons pe_int (pa_cons pe_int (pa_cons pe_int pa_nil))))) pa_nil))) (pg_tup rfl (pgs_cons (pg_name (i := 9) sc_law.nd rfl (Or.inr rfl)) (pgs_cons (pg_name (i := 13) sc_law.nd rfl (Or.inl rfl)) pgs_nil)))) (pss_cons (ps_if (PW.pt (pw_or (pt_cmpR op_ne (Vc.pe_lamS (t := fun E => Vc.tMeth2 K "after" A.f_Step_after (spStepAfter A K) A.f_Write_after (spWriteAfter A K) (fun _ => E) (tVar 9) _) (T := Tb) (j := 9) (k := 8) T.F__law_told (by rfl) T.g__law_told T.b__law_told sc__law_told (by rfl) (.inl rfl) (fun cdg => gives__law_told T cdg) LM.tb rfl LM.me LM.un (by exact hr.mono (by decide)) (by decide) (LamX.lamS_by (sc := defScope s_law) (by decide +kernel)) rfl (fun _ _ _ _ _ => rfl) (fun A9 outer9 s9 H9 E9 f9 c9 hrl => (Vc.pe_meth2 (pv 9) G_Step_after (by exact hrl.mono (by decide)) T.b_Step_after Vc.passS0 G_Write_after (by exact hrl.mono (by decide)) T.b_Write_after (fun σ => passAt (takes_of rfl rfl rfl rfl) σ) (pa_cons (pe_op op_rep (pe_lst (pa_cons pe_int pa_nil)) pe_int) pa_nil)))) pe_int (nomark _)) (pw_or1 (pt_cmpR (op_neD (by exact hr.units)) (pe_slice sl_list (Vc.pe_meth2 (pv 13) G_Step_after (by exact hr.mono (by decide)) T.b_Step_after Vc.passS0 G_Write_after (by exact hr.mono (by decide)) T.b_Write_after Vc.passSL (pa_cons (pe_op op_rep (pe_lst (pa_cons pe_int pa_nil)) pe_int) pa_nil)) (po_some pe_int) po_none) (pe_lst (pa_cons pe_int (pa_cons pe_int (pa_cons pe_int (pa_cons pe_int pa_nil))))) (nomark _))))) (pss_one (ps_ret pe_bl)) pss_nil) (pss_one (ps_ret (Vc.pe_callG0 G__law_own_right hgd (by exact hr.mono (by decide)) (by rfl) T.g__law_own_right T.F__law_own_right.kp T.b__law_own_right))))))))), ?_⟩
    walk_at "go"
    refine ⟨a, ns, rfl, hS, hl, fun b c H1 e1 hB1 nb nc => ?_⟩
    have tabs1 := Vc.tabs_ed0 tabs e1
    clear hS tabs e1
    walk_at "go"
    intro p3 px3 np3 npx3 ne3
    refine ⟨[.ref p3, .int 8], ns16.map V.int, rfl, rfl, by show 16 ≤ sizeLine; decide, fun v nv => ?_⟩
    generalize hu6 : upd (upd H1 px3 _) p3 _ = H2 at nv ⊢
    obtain ⟨e6, hp3, _⟩ := Vc.allocI hu6 np3 npx3 ne3
    generalize hu6' : upd _ v _ = H3
    obtain ⟨e6', hv⟩ := Vc.alloc hu6' nv
    refine ⟨p3, px3, v, 8, ns16, rfl, e6'.at0 hp3, hv, by decide, fun b i he => (by rw [show wrErr 8 ns16 = none by decide +kernel] at he; cases he), fun he H4 e6'' hS3 => ⟨rfl, ?_⟩⟩
    have e14 : Vc.Ed [] H1 H4 := (e6.ex e6').one e6'' (.inr np3)
    have hB4 := hB1.ed0 e14
    have tabs4 := Vc.tabs_ed0 tabs1 e14
    clear e6 e6' e6'' hp3 hv hu6 hu6' e14 hB1 tabs1
    walk_at "go"
    refine ⟨[.wr 8 ns16], by rw [text16], fun d hd => by rw [List.mem_singleton.mp hd]; exact ⟨by decide, by decide, by decide, by decide, by decide⟩, List.cons_ne_nil _ _, by show 1 ≤ 90; decide, fun p H5 e5 np hP => ?_⟩
    have hS5 := hS3.ed0 e5
    have hB5 := hB4.ed0 e5
    have tabs5 := Vc.tabs_ed0 tabs4 e5
    clear hS3 hB4 tabs4 e5
    walk_at "go"
    refine ⟨[.ref A.C_Plan], [.ref p3], rfl, rfl, by show 1 ≤ sizeLine; decide, fun u nu => ?_⟩
    generalize hu15 : upd _ u _ = H15
    obtain ⟨e15, hu'⟩ := Vc.alloc hu15 nu
    refine ⟨u, _, [.wr 8 ns16], rfl, hu', .cons (hS5.ed0 e15) .nil, by show 1 ≤ 100; decide, fun q H16 e16 nq hQ => ?_⟩
    have e516 := e15.ex e16
    have hS16 := hS5.ed0 e516
    have hB16 := hB5.ed0 e516
    have tabs16 := Vc.tabs_ed0 tabs5 e516
    have hP16 := hP.ed0 e516
    clear hS5 hB5 tabs5 hP hu' e15 e16 e516 hu15
    refine ne_plan T hP16 hQ ?_
    rw [decide_eq_true rfl]
    obtain ⟨dq, tq, vq, hq, htq, hvq⟩ := id hS16.ex
    have hq : H16 p3 = some (.ins A.C_Write dq [("shown", .ref tq), ("address", .int 8), ("given", .ref vq)]) := hq
    have hvq := hvq _ _ rfl
    walk_at "go"
    rw [if_neg (show ¬ (!decide (((ns16.map V.int).length : Int) = 16)) = true by decide +kernel)]
    clear hS16 hP16 hQ hq hvq htq
    walk_at "go"
    refine ⟨by decide, by decide, for_it walk_range (fun j σ H' => ∃ y3 y4 y5 y6 y7 y8 y9 y10 y11 y12 y13 y14 : Option V, σ = [some (.ref a), some (.ref b), some (.ref p3), y3, y4, y5, y6, y7, y8, y9, y10, y11, y12, y13, y14] ∧ Pen H' b c (1000 * j) ∧ LamX.Tabs Tb H') ⟨_, _, _, _, _, _, _, _, _, _, _, _, rfl, hB16, tabs16⟩ (fun _ _ _ _ _ => trivial) ?_ ?_⟩
    · rintro j x σ H3 H4 hj ⟨y3, y4, y5, y6, y7, y8, y9, y10, y11, y12, y13, y14, rfl, hB3, tabs3⟩ ⟨rfl, rfl⟩
      have hj : j < 4 := hj
      walk_at "go"
      refine ⟨b, c, 1000 * j, 24, rfl, hB3, by show 1000 * j ≤ 1000000; omega, by omega, by omega, fun m H5 m0 m1 e5 hB5 => ?_⟩
      walk_at "go"
      intro L nL
      generalize hu6 : upd _ L _ = H6
      obtain ⟨e6, hL⟩ := Vc.alloc hu6 nL
      have hB6 := hB5.ed0 e6
      have nLb := (hB5.fb nL).1.symm
      walk_at "go"
      refine ⟨b, c, _, 3, rfl, hB6, by show 1000 * j + 1 ≤ 1000000; omega, by omega, by omega, fun i H7 i0 i1 e7 hB7 => ?_⟩
      have hL7 := e7.at1 nLb hL
      obtain ⟨sz, hsz, s1, s24⟩ : ∃ sz : Nat, atI [V.int (1 + m), .int 24, .int 1] i = some (.int (sz : Int)) ∧ 1 ≤ sz ∧ sz ≤ 24 := by
        have : i = 0 ∨ i = 1 ∨ i = 2 := by omega
        rcases this with rfl | rfl | rfl
        · refine ⟨(1 + m).toNat, ?_, by omega, by omega⟩
          show some (V.int (1 + m)) = _
          rw [Int.toNat_of_nonneg (by omega)]
        · exact ⟨24, rfl, by decide, by decide⟩
        · exact ⟨1, rfl, by decide, by decide⟩
      obtain ⟨_, _, _, hb3⟩ := hB3.lst
      have e37 : Vc.Ed [b] H4 H7 := (e5.ex e6).trans e7 fun _ z => .inl z
      have tabs7 := Vc.tabs_lst tabs3 e37 hb3
      clear tabs3 hb3 hB3 hB5 hB6 e5 e6 e7 hL hu6
      walk_at "go"
      refine ⟨by omega, by omega, Vc.lc_by walk_range (fun L j' H' => Vc.Ed [b] H7 H' ∧ Pen H' b c (1000 * j + 2 + j') ∧ ∃ vs : List Int, vs.length = j' ∧ (∀ v ∈ vs, 0 ≤ v ∧ v ≤ 255) ∧ H' L = some (.lst (vs.map V.int))) (fun L H4 nL e4 hL => ⟨e4.mono (fun _ z => nomatch z), hB7.ed0 e4, [], rfl, (fun _ z => nomatch z), hL⟩) (fun _ _ _ _ _ _ => trivial) ?_ ?_⟩
      · rintro L j' x H4 H5 nL hj' ⟨e4, hB4, vs, lv, hv, hL⟩ ⟨rfl, rfl⟩
        walk_at "go"
        refine ⟨rfl, ?_⟩
        walk_at "go"
        have j4 : j' < 24 := by omega
        refine ⟨b, c, 1000 * j + 2 + j', 256, rfl, hB4, by show 1000 * j + 2 + j' ≤ 1000000; omega, by omega, by omega, fun v H6 v0 v1 e6 hB6 => ?_⟩
        have nb := hB7.fb nL
        have hL6 := e6.at1 nb.1.symm hL
        refine ⟨_, hL6, small1000 (by rw [List.length_map]; omega), ?_⟩
        generalize hu7 : upd _ L _ = H7
        obtain ⟨e7, hL7⟩ := Vc.chg hu7 hL6
        refine ⟨(e4.trans e6 fun _ z => .inl z).one e7 (.inr nL), hB6.ed1 e7 nb.1 nb.2, vs ++ [v], by rw [List.length_append, lv]; rfl, fun u hu => ?_, by rw [List.map_append]; exact hL7⟩
        rcases List.mem_append.mp hu with h | h
        · exact hv u h
        · rw [List.mem_singleton.mp h]; exact ⟨v0, by omega⟩
      rintro g H8 ng ⟨e8, hB8, vals, lv, hv, hg⟩
      have hc : Cells vals := ⟨by omega, hv⟩
      have hc1 := hc.1
      have e38 : Vc.Ed [b] H4 H8 := e37.trans e8 fun _ z => .inl z
      obtain ⟨_, _, _, hb7⟩ := hB7.lst
      have tabs8 := Vc.tabs_lst tabs7 e8 hb7
      have hB8 := hB8.up (m := 1000 * j + 30) (by omega)
      clear tabs7 hb7 hB7 e37 e8 hL7 ng hv
      walk_at "go"
      refine ⟨b, c, g, _, vals, rfl, hB8, by omega, hg, hc, tabs8, fun H9 e9 hB9 tabs9 => ?_⟩
      have hg9 := e9.at1 (pen_ints hB8 hg) hg
      have e39 : Vc.EdX [b] H4 H9 := (Vc.EdX.of e38).trans e9 fun _ z => .inl z
      clear tabs8 hB8 hg e38 e9
      walk_at "go"
      refine ⟨b, c, 1000 * j + 30 + 60, 10, rfl, hB9, by show 1000 * j + 30 + 60 ≤ 1000000; omega, by omega, by omega, fun many H10 mm0 mm1 e10 hB10 => ?_⟩
      have hg10 := e10.at1 (pen_ints hB9 hg9) hg9
      obtain ⟨_, _, _, hb9⟩ := hB9.lst
      have tabs10 := Vc.tabs_lst tabs9 e10 hb9
      have e310 : Vc.EdX [b] H4 H10 := e39.trans (.of e10) fun _ z => .inl z
      clear tabs9 hB9 hg9 hb9 e39 e10
      walk_at "go"
      refine ⟨by omega, by omega, Vc.lc_by walk_range (fun L j' H' => Vc.Ed [b] H10 H' ∧ Pen H' b c (1000 * j + 91 + 10 * j') ∧ ∃ xs ds, H' L = some (.lst xs) ∧ OnesAt H' xs ds ∧ ds.length = j' ∧ ∀ d ∈ ds, d.Dr) (fun L H4 nL e4 hL => ⟨e4.mono (fun _ z => nomatch z), hB10.ed0 e4, [], [], hL, .nil, rfl, fun _ z => nomatch z⟩) (fun _ _ _ _ _ _ => trivial) ?_ ?_⟩
      · rintro L j' x H4 H5 nL hj' ⟨e4, hB4, xs, ds, hL, hO, ld, hd⟩ ⟨rfl, rfl⟩
        have nb := hB10.fb nL
        have j24 : j' < 10 := by omega
        have fin : ∀ (t : Addr) (d : SD) (H6 : Hp), Vc.Ed [b] H5 H6 → Pen H6 b c (1000 * j + 91 + 10 * j' + 10) → OneAt H6 t d → d.Dr → ∃ acc, H6 L = some (.lst acc) ∧ acc.length < sizeLine ∧ (Vc.Ed [b] H10 (upd H6 L (.lst (acc ++ [.ref t]))) ∧ Pen (upd H6 L (.lst (acc ++ [.ref t]))) b c (1000 * j + 91 + 10 * (j' + 1)) ∧ ∃ xs ds, (upd H6 L (.lst (acc ++ [.ref t]))) L = some (.lst xs) ∧ OnesAt (upd H6 L (.lst (acc ++ [.ref t]))) xs ds ∧ ds.length = j' + 1 ∧ ∀ d ∈ ds, d.Dr) := fun t d H6 e6 hB6 hT hD => by
          have hL6 := e6.at1 nb.1.symm hL
          refine ⟨_, hL6, small1000 (by rw [hO.len, ld]; omega), ?_⟩
          generalize hu7 : upd _ L _ = H7
          obtain ⟨e7, hL7⟩ := Vc.chg hu7 hL6
          refine ⟨(e4.trans e6 fun _ z => .inl z).one e7 (.inr nL), (hB6.ed1 e7 nb.1 nb.2).up (by omega), _, ds ++ [d], hL7, (OnesAt.ed e7 (OnesAt.ed e6 hO)).app (.cons (hT.ed e7) .nil), by rw [List.length_append, ld]; rfl, fun u hu => ?_⟩
          rcases List.mem_append.mp hu with h | h
          · exact hd u h
          · rw [List.mem_singleton.mp h]; exact hD
        walk_at "go"
        refine ⟨rfl, ?_⟩
        walk_at "go"
        refine Vc.go_ite (fun g => ?_) (fun g => ?_)
        · walk_at "go"
          intro t nt
          generalize hu5 : upd _ t _ = H5
          obtain ⟨e5, ht⟩ := Vc.alloc hu5 nt
          exact fin t .sy H5 (e5.mono fun _ z => nomatch z) ((hB4.ed0 e5).up (by omega)) ⟨ht⟩ trivial
        · walk_at "go"
          exact ⟨b, c, _, sz, rfl, hB4, by omega, s24, fun t d H6 e6 hB6 hT hD => fin t d H6 e6 hB6 hT hD⟩
      rintro l H11 nl ⟨e11, hB11, xs, ds, hl11, ol11, ld, dr⟩
      have ld : ds.length ≤ 10 := by omega
      have hg11 := e11.at1 (pen_ints hB10 hg10) hg10
      obtain ⟨_, _, _, hb10⟩ := hB10.lst
      have tabs11 := Vc.tabs_lst tabs10 e11 hb10
      have e311 : Vc.EdX [b] H4 H11 := e310.trans (.of e11) fun _ z => .inl z
      have hB11 := hB11.up (m := 1000 * j + 200) (by omega)
      clear tabs10 hB10 hg10 hb10 e310 e11 nl
      walk_at "go"
      refine ⟨b, c, g, l, _, xs, ds, vals, rfl, hB11, by omega, hl11, ol11, dr, by omega, hg11, hc, tabs11, fun H12 e12 hB12 tabs12 => ?_⟩
      have hg12 := e12.at1 (pen_ints hB11 hg11) hg11
      have hl12 := e12.at1 (pen_row hB11 hl11 ol11) hl11
      have ol12 := OnesAt.edx e12 ol11
      have e312 : Vc.EdX [b] H4 H12 := e311.trans e12 fun _ z => .inl z
      clear tabs11 hB11 hg11 hl11 ol11 e311 e12
      have nlb := pen_row hB12 hl12 ol12
      have ngb := pen_ints hB12 hg12
      obtain ⟨_, _, _, hb12⟩ := hB12.lst
      walk_at "go"
      refine ⟨⟨_, .of hl12⟩, for_it (walk_list (xs := xs)) (fun i σ H' => (∃ y3 y4 y6 y8 y9 y10 y11 y12 y13 y14 : Option V, σ = [some (.ref a), some (.ref b), some (.ref p3), y3, y4, some (.ref g), y6, some (.ref l), y8, y9, y10, y11, y12, y13, y14]) ∧ Vc.EdX [b] H12 H' ∧ Pen H' b c (1000 * j + 260 + i) ∧ LamX.Tabs Tb H') ⟨⟨_, _, _, _, _, _, _, _, _, _, rfl⟩, .refl, hB12, tabs12⟩ (fun i σ' H' _ h => .of (h.2.1.at1 nlb hl12)) (fun i u σ' H5 H6 hi hp1 hy => ?_) fun σ' H5 hp1 => ?_⟩
      · obtain ⟨⟨y3, y4, y6, y8, y9, y10, y11, y12, y13, y14, rfl⟩, e13, hB13, tb13⟩ := hp1
        obtain ⟨rfl, hx⟩ := hy
        obtain ⟨t, d, rfl, hd, hO⟩ := ol12.get hx
        have hi : i < ds.length := (List.getElem?_eq_some_iff.mp hd).1
        have hO13 := hO.edx e13
        have dd := dr d (List.mem_of_getElem? hd)
        have hg13 := e13.at1 ngb hg12
        walk_at "go"
        refine ⟨t, d, rfl, hO13, dd, fun p H7 e7 np hS => ?_⟩
        have hB7 := hB13.ed0 e7
        walk_at "go"
        refine ⟨b, c, 1000 * j + 260 + i, 3, rfl, hB7, by show 1000 * j + 260 + i ≤ 1000000; omega, by omega, by omega, fun way H8 w0 w1 e8 hB8 => ?_⟩
        obtain ⟨_, _, _, hb7⟩ := hB7.lst
        have hg8 := e8.at1 ngb (e7.at0 hg13)
        walk_at "go"
        refine ⟨g, vals, way, rfl, hg8, by omega, hc.2, fun q H9 e9 hq => ?_⟩
        have hS9 : StepAt A H9 p d := (StepAt.edbx hb7 (.of e8) hS).ed0 e9
        have tb9 := Vc.tabs_ed0 (Vc.tabs_lst (Vc.tabs_ed0 tb13 e7) e8 hb7) e9
        have hO9 := ((hO13.ed e7).ed e8).ed e9
        have J : Jq A K Tb H9 b c (1000 * j + 260 + (i + 1)) p g q d vals := ⟨hB8.ed0 e9, hS9, e9.at0 hg8, hq, tb9⟩
        have e129 : Vc.EdX [b] H12 H9 := e13.trans (.of (((e7.mono fun _ z => nomatch z).trans e8 fun _ z => .inl z).ex e9)) fun _ z => .inl z
        clear hB13 tb13 hO13 hg13 hS hB7 e7 hb7 e8 hB8 hg8 e9 hq hS9 tb9 e13
        walk_at "go"
        intro t2 nt2
        generalize hu10 : upd _ t2 _ = H10
        obtain ⟨e10, ht2⟩ := Vc.alloc hu10 nt2
        have J10 := J.ed0 e10
        have hO10 := hO9.ed e10
        have e1210 := e129.ex (.of e10)
        have hg10 := J10.hg
        clear J hO9 e129 e10 hu10
        walk_at "go"
        refine ⟨t2, _, rfl, .of ht2, rfl, _, _, rfl, ?_⟩
        walk_at "go"
        refine ⟨_, _, rfl, ?_⟩
        walk_at "go"
        refine ⟨rfl, ?_⟩
        walk_at "go"
        intro l1 nl1
        generalize hu11 : upd _ l1 _ = H11
        obtain ⟨e11, hl1⟩ := Vc.alloc hu11 nl1
        have J11 := J10.ed0 e11
        have ol1 : OnesAt H11 [.ref t] [d] := .cons (hO10.ed e11) .nil
        have e1211 := e1210.ex (.of e11)
        have hg11 := J11.hg
        clear J10 hO10 e1210 e11 hu11 hg10 ht2 nt2
        have gd : ∀ d' ∈ [d], d'.By := fun d' hd' => by rw [List.mem_singleton.mp hd']; exact dd.by
        have gg : ∀ d' ∈ [d], d'.Go := fun d' hd' => (gd d' hd').go
        have gd1 := gg d (List.mem_singleton.mpr rfl)
        have rok := aftP_ok (ds := [d]) hc gd
        have one : aftP [d] vals = aftE d vals := aftP_one
        walk_at "go"
        refine ⟨g, l1, _, vals, [d], rfl, hg11, by omega, hl1, ol1, by show 1 ≤ 100; decide, gg, fun due H12' e12' hdue => ?_⟩
        have hdue := hdue.res
        have J12 := J11.ed0 e12'
        have e1212 := e1211.ex (.of e12')
        clear J11 e1211 e12' hg11 hl1 ol1 nl1
        walk_at "go"
        refine Vc.go_lam J12.tb fun H13 e13 tb13 => ?_
        have J13 := J12.edx e13 tb13
        refine theard_split (ToldF Tb H12' (aftP [d] vals)) ?_ ?_
        · intro E9 R9 hE hR
          refine Vc.go_meth2 ?_
          walk_at "go"
          exact go_stepAfter T J13.st J13.gv (by omega) gd1 (fun R h => Vc.go_cons (Vc.go_var rfl (Vc.go_nil h))) (fun e he ex H7 e7 hdd => hE _ _ _ ⟨e, ex, rfl, rfl, hdd, fun H8 e8 => told_err e13 tb13 (e7.ex e8) (one.trans he)⟩) fun c he L H7 e7 nL hL => hR _ _ (told_ok e13 tb13 e7 (one.trans he) nL hL)
        clear J13 e13 tb13
        rintro x2 H13 ⟨e13, tb13, r2⟩
        walk_at "go"
        intro L2 nL2
        generalize hu14 : upd _ L2 _ = H14
        obtain ⟨e14, hL14⟩ := Vc.alloc hu14 nL2
        have tb14 := Vc.tabs_ed0 tb13 e14
        have J14 := (J12.edx e13 tb13).ed0 e14
        walk_at "go"
        refine Vc.go_lam tb14 fun H15 e15 tb15 => ?_
        have J15 := J14.edx e15 tb15
        refine theard_split (ToldF Tb H14 (aftP [d] vals)) ?_ ?_
        · intro E9 R9 hE hR
          refine Vc.go_meth2K ?_
          walk_at "go"
          exact go_stepAfterK T J15.st J15.gv (by omega) gd1 (fun R h => Vc.go_cons (Vc.go_var rfl (Vc.go_nil h))) rfl rfl (fun e he ex H7 e7 hdd => hE _ _ _ ⟨e, ex, rfl, rfl, hdd, fun H8 e8 => told_err e15 tb15 (e7.ex e8) (one.trans he)⟩) fun c he L H7 e7 nL hL => hR _ _ (told_ok e15 tb15 e7 (one.trans he) nL hL)
        clear J15 e15 tb15
        rintro x3 H15 ⟨e15, tb15, r3⟩
        have hL15 := e15.at0 hL14
        walk_at "go"
        generalize hu16 : upd _ L2 _ = H16'
        obtain ⟨e16, hL16⟩ := Vc.chg hu16 hL15
        have hL16 : H16' L2 = some (.lst [x2, x3]) := hL16
        have e1316 : Vc.EdX [] H13 H16' := ((Vc.EdX.of e14).ex e15).one (.of e16) (.inr (.inl nL2))
        have tb16 := Vc.tabs_lst tb15 e16 hL15
        have r216 := r2.edx e1316
        have r316 := r3.ed1 hL14 e16
        have e1216 := e13.ex e1316
        have due16 := hdue.edx e1216
        have J16 := J12.edx e1216 tb16
        clear J14 tb13 tb14 tb15 e13 e14 e15 e16 hL14 hL15 r2 r3 e1316 hu14 hu16
        refine Vc.go_repr (res2_dp hL16 r216 r316) (res2_fits rok) ?_
        walk_at "go"
        intro L3 nL3
        generalize hu17 : upd _ L3 _ = H17
        obtain ⟨e17, hL17⟩ := Vc.alloc hu17 nL3
        walk_at "go"
        refine Vc.go_repr (res2_dp hL17 (due16.ed0 e17) (due16.ed0 e17)) (res2_fits rok) ?_
        have J17 := J16.ed0 e17
        walk_at "go"
        refine Or.symm (given_len J17.gv (by omega) ?_)
        walk_at "go"
        refine ⟨by omega, by omega, given_lc rfl J17.gv (by omega) (fun D H18 nD e18 hD => ?_) (fun _ => rfl) (fun _ => rfl) (fun _ => rfl)⟩
        have J18 := J17.ed0 e18
        have hg18 := J18.hg
        walk_at "go"
        refine go_neLs (.of hD) (.of hg18) ?_
        rw [decide_eq_true rfl]
        have due18 := (due16.ed0 e17).ed0 e18
        have hL18 := e18.at0 (e17.at0 hL16)
        have r218 := (r216.ed0 e17).ed0 e18
        have e1218 : Vc.EdX [] H12' H18 := e1216.ex (.of (e17.ex e18))
        clear J16 J17 e17 e18 hu17 hL16 hL17 r216 r316 due16 hD e1216 tb16
        rcases hR : aftP [d] vals with e2 | c2
        · rw [hR] at due18
          obtain rfl : due = .int e2 := due18
          walk_at "go"
          exact ⟨⟨_, _, _, _, _, _, _, _, _, _, rfl⟩, e1212.ex e1218, J18.pen, J18.tb⟩
        · rw [hR] at due18 r218 rok hdue
          obtain ⟨Ld, rfl, nLd, hLd⟩ := due18
          obtain ⟨Lx, rfl, nLx, hLx⟩ := r218
          walk_at "go"
          refine Vc.go_append hLx (by rw [List.length_map]; have := rok.1; omega) ?_
          generalize hu19 : upd _ Lx _ = H19
          obtain ⟨e19, hLx19⟩ := Vc.chg hu19 hLx
          have e1219 : Vc.EdX [] H12' H19 := e1218.one (.of e19) (.inr nLx)
          have tb19 := Vc.tabs_lst J18.tb e19 hLx
          have J19 := J12.edx e1219 tb19
          have due19 := hdue.edx e1219
          walk_at "go"
          refine Or.symm (given_len J19.gv (by omega) ?_)
          walk_at "go"
          refine ⟨by omega, by omega, given_lc rfl J19.gv (by omega) (fun D2 H20 nD2 e20 hD2 => ?_) (fun _ => rfl) (fun _ => rfl) (fun _ => rfl)⟩
          have J20 := J19.ed0 e20
          have hg20 := J20.hg
          walk_at "go"
          refine go_neLs (.of hD2) (.of hg20) ?_
          rw [decide_eq_true rfl]
          walk_at "go"
          refine Vc.go_meth2 ?_
          walk_at "go"
          refine go_stepAfter T J20.st J20.gv (by omega) gd1 (fun R h => Vc.go_cons (Vc.go_var rfl (Vc.go_nil h))) (fun e he => by rw [one.symm.trans hR] at he; cases he) fun c' he LB H21 e21 nLB hLB => ?_
          obtain rfl : c2 = c' := by rw [one.symm.trans hR] at he; cases he; rfl
          walk_at "go"
          refine Vc.go_repr (.lst (.of hLB) (dp_ints c2)) (res_fits rok) ?_
          walk_at "go"
          refine Vc.go_repr ((due19.ed0 e20).ed0 e21).dp (res_fits rok) ?_
          walk_at "go"
          rw [show decide ((PyData.list (c2.map PyData.int)).shown = (resD (.ok c2)).shown) = true from decide_eq_true rfl, if_neg (by decide)]
          walk_at "go"
          exact ⟨⟨_, _, _, _, _, _, _, _, _, _, rfl⟩, e1212.ex (e1219.ex (.of (e20.ex e21))), J20.pen.ed0 e21, Vc.tabs_ed0 J20.tb e21⟩
      · obtain ⟨⟨y3, y4, y6, y8, y9, y10, y11, y12, y13, y14, rfl⟩, e13, hB13, tb13⟩ := hp1
        rw [ol12.len] at hB13
        walk_at "go"
        exact ⟨_, _, _, _, _, _, _, _, _, _, _, _, rfl, hB13.up (by omega), tb13⟩
    · rintro σ H3 ⟨y3, y4, y5, y6, y7, y8, y9, y10, y11, y12, y13, y14, rfl, hB3, tabs3⟩
      walk_at "go"
      intro p1 px1 np1 npx1 ne1
      refine ⟨[.ref p1, .int 22], [.int 1, .int 2, .int 3], rfl, rfl, by show 3 ≤ sizeLine; decide, fun v nv => ?_⟩
      generalize hu4 : upd (upd H3 px1 _) p1 _ = H4 at nv ⊢
      obtain ⟨e4, hp1, _⟩ := Vc.allocI hu4 np1 npx1 ne1
      generalize hu5 : upd _ v _ = H5
      obtain ⟨e5, hv⟩ := Vc.alloc hu5 nv
      refine ⟨p1, px1, v, 22, [1, 2, 3], rfl, e5.at0 hp1, hv, by decide, fun b i he => (by rw [show wrErr 22 [1, 2, 3] = none by decide +kernel] at he; cases he), fun he H6 e6 hS1 => ⟨rfl, ?_⟩⟩
      have e36 : Vc.Ed [] H3 H6 := (e4.ex e5).one e6 (.inr np1)
      clear e4 e5 e6 hp1 hv hu4 hu5
      walk_at "go"
      intro p2 px2 np2 npx2 ne2
      refine ⟨[.ref p2, .int 21], [.int 1, .int 2, .int 3], rfl, rfl, by show 3 ≤ sizeLine; decide, fun v2 nv2 => ?_⟩
      generalize hu4 : upd (upd H6 px2 _) p2 _ = H7 at nv2 ⊢
      obtain ⟨e4, hp2, _⟩ := Vc.allocI hu4 np2 npx2 ne2
      generalize hu5 : upd _ v2 _ = H8
      obtain ⟨e5, hv2⟩ := Vc.alloc hu5 nv2
      refine ⟨p2, px2, v2, 21, [1, 2, 3], rfl, e5.at0 hp2, hv2, by decide, fun b i he => (by rw [show wrErr 21 [1, 2, 3] = none by decide +kernel] at he; cases he), fun he H9 e6 hS2 => ⟨rfl, ?_⟩⟩
      have e69 : Vc.Ed [] H6 H9 := (e4.ex e5).one e6 (.inr np2)
      clear e4 e5 e6 hp2 hv2 hu4 hu5
      walk_at "go"
      intro t2 nt2
      generalize hu10 : upd _ t2 _ = H10
      obtain ⟨e10, ht2⟩ := Vc.alloc hu10 nt2
      have S1 := (hS1.ed0 e69).ed0 e10
      have S2 := hS2.ed0 e10
      have tb10 := Vc.tabs_ed0 tabs3 ((e36.ex e69).ex e10)
      clear hS1 hS2 e36 e69 e10 hu10 tabs3
      walk_at "go"
      refine ⟨t2, _, rfl, .of ht2, rfl, _, _, rfl, ?_⟩
      walk_at "go"
      refine ⟨_, _, rfl, ?_⟩
      walk_at "go"
      refine ⟨rfl, ?_⟩
      walk_at "go"
      refine Vc.go_lam tb10 fun H11 e11 tb11 => ?_
      have S111 := S1.edx e11
      refine theard_split (fun x H' => x = .int 24 ∧ Vc.EdX [] H10 H' ∧ LamX.Tabs Tb H') ?_ ?_
      · intro E9 R9 hE hR
        refine Vc.go_meth2 ?_
        walk_at "go"
        refine go_stepAfterL T (vals := List.replicate 24 0) S111 (by decide) ⟨by decide, by decide⟩ (fun R h => ?_) (fun e he ex H7 e7 hdd => ?_) fun c he => by cases he
        · walk_at "go"
          intro l0 nl0
          generalize hu12 : upd _ l0 _ = H12
          obtain ⟨e12, hl0⟩ := Vc.alloc hu12 nl0
          walk_at "go"
          refine go_rep24 hl0 fun q nq => ?_
          generalize hu13 : upd _ q _ = H13
          obtain ⟨e13, hq⟩ := Vc.alloc hu13 nq
          walk_at "go"
          exact h q H13 (e12.ex e13) hq
        · obtain rfl : e = 24 := by cases he; rfl
          exact hE _ _ _ ⟨24, ex, rfl, rfl, hdd, fun H8 e8 => ⟨rfl, e11.ex (.of (e7.ex e8)), Vc.tabs_ed0 tb11 (e7.ex e8)⟩⟩
      clear S111 e11 tb11
      rintro x H11 ⟨rfl, e11, tb11⟩
      walk_at "go"
      refine Vc.go_meth2 ?_
      walk_at "go"
      refine go_stepAfterL T (vals := List.replicate 24 0) (S2.edx e11) (by decide) ⟨by decide, by decide⟩ (fun R h => ?_) (fun e he => by cases he) fun c he LB H12 e12 nLB hLB => ?_
      · walk_at "go"
        intro l0 nl0
        generalize hu12 : upd _ l0 _ = H12
        obtain ⟨e12, hl0⟩ := Vc.alloc hu12 nl0
        walk_at "go"
        refine go_rep24 hl0 fun q nq => ?_
        generalize hu13 : upd _ q _ = H13
        obtain ⟨e13, hq⟩ := Vc.alloc hu13 nq
        walk_at "go"
        exact h q H13 (e12.ex e13) hq
      obtain rfl : putN 21 [1, 2, 3] (List.replicate 24 0) 3 = c := by cases he; rfl
      have tb12 := Vc.tabs_ed0 tb11 e12
      walk_at "go"
      intro q nq
      generalize hu13 : upd _ q _ = H13
      obtain ⟨e13, hq⟩ := Vc.alloc hu13 nq
      have hq : H13 q = some (.lst (([0, 1, 2, 3] : List Int).map V.int)) := hq
      walk_at "go"
      intro z nz
      generalize hu14 : upd _ z _ = H14
      obtain ⟨e14, hz⟩ := Vc.alloc hu14 nz
      have hz : H14 z = some (.lst (([0, 1, 2, 3] : List Int).map V.int)) := hz
      refine go_neLs (.of (e14.at0 hq)) (.of hz) ?_
      rw [decide_eq_true rfl]
      walk_at "go"
      exact ⟨rfl, fun H' _ => k H'⟩
end

end My
namespace My
open PySem PySem.Spec PyProof.Rows L2
theorem all_mk {w : World} {K : PySem.W.Frag} {h : Heap} {mg : Str → Option Value} {fa : Addr} (X : K.In h) (G : h.Ns mainGlobals mg) (hfa : mg "law" = some (.ref fa))
    {C_Step : Addr}
    {C_Write : Addr}
    {C_Sync : Addr}
    {C_Pass : Addr}
    {C_Plan : Addr}
    {C_Image : Addr}
    {f_is_byte : Addr} {oc1 kV1 dc1 pm1 cd1 ct1 : Value} {od1 an1 : Option Addr} {sl1 : Array (Option Value)}
    {f_check_bytes : Addr} {oc2 kV2 dc2 pm2 cd2 ct2 : Value} {od2 an2 : Option Addr} {sl2 : Array (Option Value)}
    {f_span_of : Addr} {oc3 kV3 dc3 pm3 cd3 ct3 : Value} {od3 an3 : Option Addr} {sl3 : Array (Option Value)}
    {f_is_number : Addr} {oc4 kV4 dc4 pm4 cd4 ct4 : Value} {od4 an4 : Option Addr} {sl4 : Array (Option Value)}
    {f_split_lines : Addr} {oc5 kV5 dc5 pm5 cd5 ct5 : Value} {od5 an5 : Option Addr} {sl5 : Array (Option Value)}
    {f_stands : Addr} {oc6 kV6 dc6 pm6 cd6 ct6 : Value} {od6 an6 : Option Addr} {sl6 : Array (Option Value)}
    {f_check_line : Addr} {oc7 kV7 dc7 pm7 cd7 ct7 : Value} {od7 an7 : Option Addr} {sl7 : Array (Option Value)}
    {f_read_numbers : Addr} {oc8 dc8 pm8 cd8 ct8 : Value} {od8 an8 : Option Addr} {sl8 : Array (Option Value)}
    {kD8 : Addr}
    {t_kn_read_numbers_least : Tok}
    {f_read_parts : Addr} {oc9 kV9 dc9 pm9 cd9 ct9 : Value} {od9 an9 : Option Addr} {sl9 : Array (Option Value)}
    {f_step_of : Addr} {oc10 kV10 dc10 pm10 cd10 ct10 : Value} {od10 an10 : Option Addr} {sl10 : Array (Option Value)}
    {f_Stepu_initu : Addr} {oc11 kV11 dc11 pm11 cd11 ct11 : Value} {od11 an11 : Option Addr} {sl11 : Array (Option Value)}
    {f_Step_after : Addr} {oc12 kV12 dc12 pm12 cd12 ct12 : Value} {od12 an12 : Option Addr} {sl12 : Array (Option Value)}
    {f_Stepu_equ : Addr} {oc13 kV13 dc13 pm13 cd13 ct13 : Value} {od13 an13 : Option Addr} {sl13 : Array (Option Value)}
    {f_Writeu_initu cda14 cc14 : Addr} {oc14 kV14 dc14 pm14 ct14 : Value} {od14 an14 : Option Addr} {sl14 : Array (Option Value)}
    {ccl14 ocl14 : Value} {ccd14 ocd14 : Option Addr} {vs14 : Array Value} {ccs14 ocs14 : Array (Option Value)} {file14 : Str} {tf14 : Tok}
    {f_Write_after : Addr} {oc15 kV15 dc15 pm15 cd15 ct15 : Value} {od15 an15 : Option Addr} {sl15 : Array (Option Value)}
    {f_Syncu_initu cda16 cc16 : Addr} {oc16 kV16 dc16 pm16 ct16 : Value} {od16 an16 : Option Addr} {sl16 : Array (Option Value)}
    {ccl16 ocl16 : Value} {ccd16 ocd16 : Option Addr} {vs16 : Array Value} {ccs16 ocs16 : Array (Option Value)} {file16 : Str} {tf16 : Tok}
    {f_Passu_initu cda17 cc17 : Addr} {oc17 kV17 dc17 pm17 ct17 : Value} {od17 an17 : Option Addr} {sl17 : Array (Option Value)}
    {ccl17 ocl17 : Value} {ccd17 ocd17 : Option Addr} {vs17 : Array Value} {ccs17 ocs17 : Array (Option Value)} {file17 : Str} {tf17 : Tok}
    {f_Planu_initu : Addr} {oc18 kV18 dc18 pm18 cd18 ct18 : Value} {od18 an18 : Option Addr} {sl18 : Array (Option Value)}
    {tD18 : Addr} {ocD18 : Value} {odD18 : Option Addr} {nD18 : Nat} {slD18 : Array (Option Value)}
    {e_Planu_initu_steps : Addr} {ode_Planu_initu_steps : Option Addr} {ne_Planu_initu_steps : Nat} {sle_Planu_initu_steps : Array (Option Value)}
    {f_Plan_of : Addr} {oc19 kV19 dc19 pm19 cd19 ct19 : Value} {od19 an19 : Option Addr} {sl19 : Array (Option Value)}
    {sm19 : Addr} {rst19 : List Value}
    {f_Plan_read : Addr} {oc20 kV20 dc20 pm20 cd20 ct20 : Value} {od20 an20 : Option Addr} {sl20 : Array (Option Value)}
    {sm20 : Addr} {rst20 : List Value}
    {f_Plan_writes : Addr} {oc21 kV21 dc21 pm21 cd21 ct21 : Value} {od21 an21 : Option Addr} {sl21 : Array (Option Value)}
    {pr21 : Addr} {rst21 : List Value}
    {f_Planu_getitemu : Addr} {oc22 kV22 dc22 pm22 cd22 ct22 : Value} {od22 an22 : Option Addr} {sl22 : Array (Option Value)}
    {f_Planu_equ : Addr} {oc23 kV23 dc23 pm23 cd23 ct23 : Value} {od23 an23 : Option Addr} {sl23 : Array (Option Value)}
    {f_Plan_head : Addr} {oc24 kV24 dc24 pm24 cd24 ct24 : Value} {od24 an24 : Option Addr} {sl24 : Array (Option Value)}
    {f_Plan_tail : Addr} {oc25 kV25 dc25 pm25 cd25 ct25 : Value} {od25 an25 : Option Addr} {sl25 : Array (Option Value)}
    {f_Plan_after : Addr} {oc26 kV26 dc26 pm26 cd26 ct26 : Value} {od26 an26 : Option Addr} {sl26 : Array (Option Value)}
    {f_Imageu_initu : Addr} {oc27 kV27 dc27 pm27 cd27 ct27 : Value} {od27 an27 : Option Addr} {sl27 : Array (Option Value)}
    {f_Imageu_lenu : Addr} {oc28 kV28 dc28 pm28 cd28 ct28 : Value} {od28 an28 : Option Addr} {sl28 : Array (Option Value)}
    {f_Imageu_iteru : Addr} {oc29 kV29 dc29 pm29 cd29 ct29 : Value} {od29 an29 : Option Addr} {sl29 : Array (Option Value)}
    {f_Imageu_getitemu : Addr} {oc30 kV30 dc30 pm30 cd30 ct30 : Value} {od30 an30 : Option Addr} {sl30 : Array (Option Value)}
    {f__law_pen : Addr} {oc31 kV31 dc31 pm31 cd31 ct31 : Value} {od31 an31 : Option Addr} {sl31 : Array (Option Value)}
    {f__law_draw : Addr} {oc32 kV32 dc32 pm32 cd32 ct32 : Value} {od32 an32 : Option Addr} {sl32 : Array (Option Value)}
    {f__law_step : Addr} {oc33 kV33 dc33 pm33 cd33 ct33 : Value} {od33 an33 : Option Addr} {sl33 : Array (Option Value)}
    {f__law_drawn : Addr} {oc34 kV34 dc34 pm34 cd34 ct34 : Value} {od34 an34 : Option Addr} {sl34 : Array (Option Value)}
    {f__law_due : Addr} {oc35 kV35 dc35 pm35 cd35 ct35 : Value} {od35 an35 : Option Addr} {sl35 : Array (Option Value)}
    {f__law_told : Addr} {oc36 kV36 dc36 pm36 cd36 ct36 : Value} {od36 an36 : Option Addr} {sl36 : Array (Option Value)}
    {f__law_shaped : Addr} {oc37 kV37 dc37 pm37 cd37 ct37 : Value} {od37 an37 : Option Addr} {sl37 : Array (Option Value)}
    {f__law_plan_right : Addr} {oc38 kV38 dc38 pm38 cd38 ct38 : Value} {od38 an38 : Option Addr} {sl38 : Array (Option Value)}
    {f__law_wide_right : Addr} {oc39 kV39 dc39 pm39 cd39 ct39 : Value} {od39 an39 : Option Addr} {sl39 : Array (Option Value)}
    {f__law_own_right : Addr} {oc40 kV40 dc40 pm40 cd40 ct40 : Value} {od40 an40 : Option Addr} {sl40 : Array (Option Value)}
    {f_law : Addr} {oc41 kV41 dc41 pm41 cd41 ct41 : Value} {od41 an41 : Option Addr} {sl41 : Array (Option Value)}
    {t_MOST_DIGITS : Tok}
    {t_MOST_NUMBER : Tok}
    {t_MOST_ADDRESS : Tok}
    {t_DIGITS : Tok}
    {C_CodeError : Addr}
    {C_BadInput : Addr}
    {C_Word : Addr}
    {C_BadByte f_BadByteu_initu cda42 cc42 : Addr} {oc42 kV42 dc42 pm42 ct42 : Value} {od42 an42 : Option Addr} {sl42 : Array (Option Value)}
    {nm42 q42 : Str} {N42 : Addr} {bs42 bm42 sub42 : List Value} {sn42 : List Str} {ab42 : Bool} {col42 : Option Bool} {dd42 : Option Addr} {ka42 kb42 kc42 kd42 ke42 : Option Value}
    {ccl42 ocl42 : Value} {ccd42 ocd42 : Option Addr} {vs42 : Array Value} {ccs42 ocs42 : Array (Option Value)} {file42 : Str} {tf42 : Tok}
    {C_BadAddress f_BadAddressu_initu cda43 cc43 : Addr} {oc43 kV43 dc43 pm43 ct43 : Value} {od43 an43 : Option Addr} {sl43 : Array (Option Value)}
    {nm43 q43 : Str} {N43 : Addr} {bs43 bm43 sub43 : List Value} {sn43 : List Str} {ab43 : Bool} {col43 : Option Bool} {dd43 : Option Addr} {ka43 kb43 kc43 kd43 ke43 : Option Value}
    {ccl43 ocl43 : Value} {ccd43 ocd43 : Option Addr} {vs43 : Array Value} {ccs43 ocs43 : Array (Option Value)} {file43 : Str} {tf43 : Tok}
    {C_BadStep f_BadStepu_initu cda44 cc44 : Addr} {oc44 kV44 dc44 pm44 ct44 : Value} {od44 an44 : Option Addr} {sl44 : Array (Option Value)}
    {nm44 q44 : Str} {N44 : Addr} {bs44 bm44 sub44 : List Value} {sn44 : List Str} {ab44 : Bool} {col44 : Option Bool} {dd44 : Option Addr} {ka44 kb44 kc44 kd44 ke44 : Option Value}
    {ccl44 ocl44 : Value} {ccd44 ocd44 : Option Addr} {vs44 : Array Value} {ccs44 ocs44 : Array (Option Value)} {file44 : Str} {tf44 : Tok}
    {trWrite : Tok}
    {trSync : Tok}
    {trPass : Tok}
    {cl__law_plan_right Pl__law_plan_right : Addr}
    {cl__law_wide_right Pl__law_wide_right : Addr}
    {cl_law Pl_law : Addr}
    (aC_Step : PySem.W.nsIn K mainGlobals "Step" = some (some (.ref C_Step)))
    (aC_Write : PySem.W.nsIn K mainGlobals "Write" = some (some (.ref C_Write)))
    (aC_Sync : PySem.W.nsIn K mainGlobals "Sync" = some (some (.ref C_Sync)))
    (aC_Pass : PySem.W.nsIn K mainGlobals "Pass" = some (some (.ref C_Pass)))
    (aC_Plan : PySem.W.nsIn K mainGlobals "Plan" = some (some (.ref C_Plan)))
    (aC_Image : PySem.W.nsIn K mainGlobals "Image" = some (some (.ref C_Image)))
    (a_is_byte : PySem.W.nsIn K mainGlobals "is_byte" = some (some (.ref f_is_byte)))
    (l_is_byte : K.lookup f_is_byte = some ⟨oc1, od1, .func (PySem.W.fnOf "is_byte" "is_byte" (defArgs s_is_byte) (defBody s_is_byte) (defScope s_is_byte) .none kV1 dc1 pm1 an1 cd1 ct1), sl1⟩)
    (c_is_byte : PySem.W.codeIn K cd1 "is_byte" = true)
    (k_is_byte : PySem.W.keepIn K (.ref f_is_byte) = true)
    (a_check_bytes : PySem.W.nsIn K mainGlobals "check_bytes" = some (some (.ref f_check_bytes)))
    (l_check_bytes : K.lookup f_check_bytes = some ⟨oc2, od2, .func (PySem.W.fnOf "check_bytes" "check_bytes" (defArgs s_check_bytes) (defBody s_check_bytes) (defScope s_check_bytes) .none kV2 dc2 pm2 an2 cd2 ct2), sl2⟩)
    (c_check_bytes : PySem.W.codeIn K cd2 "check_bytes" = true)
    (k_check_bytes : PySem.W.keepIn K (.ref f_check_bytes) = true)
    (a_span_of : PySem.W.nsIn K mainGlobals "span_of" = some (some (.ref f_span_of)))
    (l_span_of : K.lookup f_span_of = some ⟨oc3, od3, .func (PySem.W.fnOf "span_of" "span_of" (defArgs s_span_of) (defBody s_span_of) (defScope s_span_of) .none kV3 dc3 pm3 an3 cd3 ct3), sl3⟩)
    (c_span_of : PySem.W.codeIn K cd3 "span_of" = true)
    (k_span_of : PySem.W.keepIn K (.ref f_span_of) = true)
    (a_is_number : PySem.W.nsIn K mainGlobals "is_number" = some (some (.ref f_is_number)))
    (l_is_number : K.lookup f_is_number = some ⟨oc4, od4, .func (PySem.W.fnOf "is_number" "is_number" (defArgs s_is_number) (defBody s_is_number) (defScope s_is_number) .none kV4 dc4 pm4 an4 cd4 ct4), sl4⟩)
    (c_is_number : PySem.W.codeIn K cd4 "is_number" = true)
    (k_is_number : PySem.W.keepIn K (.ref f_is_number) = true)
    (a_split_lines : PySem.W.nsIn K mainGlobals "split_lines" = some (some (.ref f_split_lines)))
    (l_split_lines : K.lookup f_split_lines = some ⟨oc5, od5, .func (PySem.W.fnOf "split_lines" "split_lines" (defArgs s_split_lines) (defBody s_split_lines) (defScope s_split_lines) .none kV5 dc5 pm5 an5 cd5 ct5), sl5⟩)
    (c_split_lines : PySem.W.codeIn K cd5 "split_lines" = true)
    (k_split_lines : PySem.W.keepIn K (.ref f_split_lines) = true)
    (a_stands : PySem.W.nsIn K mainGlobals "stands" = some (some (.ref f_stands)))
    (l_stands : K.lookup f_stands = some ⟨oc6, od6, .func (PySem.W.fnOf "stands" "stands" (defArgs s_stands) (defBody s_stands) (defScope s_stands) .none kV6 dc6 pm6 an6 cd6 ct6), sl6⟩)
    (c_stands : PySem.W.codeIn K cd6 "stands" = true)
    (k_stands : PySem.W.keepIn K (.ref f_stands) = true)
    (a_check_line : PySem.W.nsIn K mainGlobals "check_line" = some (some (.ref f_check_line)))
    (l_check_line : K.lookup f_check_line = some ⟨oc7, od7, .func (PySem.W.fnOf "check_line" "check_line" (defArgs s_check_line) (defBody s_check_line) (defScope s_check_line) .none kV7 dc7 pm7 an7 cd7 ct7), sl7⟩)
    (c_check_line : PySem.W.codeIn K cd7 "check_line" = true)
    (k_check_line : PySem.W.keepIn K (.ref f_check_line) = true)
    (a_read_numbers : PySem.W.nsIn K mainGlobals "read_numbers" = some (some (.ref f_read_numbers)))
    (l_read_numbers : K.lookup f_read_numbers = some ⟨oc8, od8, .func (PySem.W.fnOf "read_numbers" "read_numbers" (defArgs s_read_numbers) (defBody s_read_numbers) (defScope s_read_numbers) .none (.ref kD8) dc8 pm8 an8 cd8 ct8), sl8⟩)
    (c_read_numbers : PySem.W.codeIn K cd8 "read_numbers" = true)
    (k_read_numbers : PySem.W.keepIn K (.ref f_read_numbers) = true)
    (kn_read_numbers_least : PySem.W.nsIn K kD8 "least" = some (some (.int 0 t_kn_read_numbers_least)))
    (kn_read_numbers_ascending : PySem.W.nsIn K kD8 "ascending" = some (some (.bool false)))
    (a_read_parts : PySem.W.nsIn K mainGlobals "read_parts" = some (some (.ref f_read_parts)))
    (l_read_parts : K.lookup f_read_parts = some ⟨oc9, od9, .func (PySem.W.fnOf "read_parts" "read_parts" (defArgs s_read_parts) (defBody s_read_parts) (defScope s_read_parts) .none kV9 dc9 pm9 an9 cd9 ct9), sl9⟩)
    (c_read_parts : PySem.W.codeIn K cd9 "read_parts" = true)
    (k_read_parts : PySem.W.keepIn K (.ref f_read_parts) = true)
    (a_step_of : PySem.W.nsIn K mainGlobals "step_of" = some (some (.ref f_step_of)))
    (l_step_of : K.lookup f_step_of = some ⟨oc10, od10, .func (PySem.W.fnOf "step_of" "step_of" (defArgs s_step_of) (defBody s_step_of) (defScope s_step_of) .none kV10 dc10 pm10 an10 cd10 ct10), sl10⟩)
    (c_step_of : PySem.W.codeIn K cd10 "step_of" = true)
    (k_step_of : PySem.W.keepIn K (.ref f_step_of) = true)
    (a_Stepu_initu : PySem.W.findIn K (.ref C_Step) "__init__" = some (some (.ref f_Stepu_initu)))
    (i_Stepu_initu : PySem.W.isFn K (.ref f_Stepu_initu) = true)
    (l_Stepu_initu : K.lookup f_Stepu_initu = some ⟨oc11, od11, .func (PySem.W.fnOf "__init__" "Step.__init__" (defArgs s_Stepu_initu) (defBody s_Stepu_initu) (defScope s_Stepu_initu) .none kV11 dc11 pm11 an11 cd11 ct11), sl11⟩)
    (c_Stepu_initu : PySem.W.codeIn K cd11 "Step.__init__" = true)
    (k_Stepu_initu : PySem.W.keepIn K (.ref f_Stepu_initu) = true)
    (a_Step_after : PySem.W.findIn K (.ref C_Step) "after" = some (some (.ref f_Step_after)))
    (i_Step_after : PySem.W.isFn K (.ref f_Step_after) = true)
    (l_Step_after : K.lookup f_Step_after = some ⟨oc12, od12, .func (PySem.W.fnOf "after" "Step.after" (defArgs s_Step_after) (defBody s_Step_after) (defScope s_Step_after) .none kV12 dc12 pm12 an12 cd12 ct12), sl12⟩)
    (c_Step_after : PySem.W.codeIn K cd12 "Step.after" = true)
    (k_Step_after : PySem.W.keepIn K (.ref f_Step_after) = true)
    (a_Stepu_equ : PySem.W.findIn K (.ref C_Step) "__eq__" = some (some (.ref f_Stepu_equ)))
    (i_Stepu_equ : PySem.W.isFn K (.ref f_Stepu_equ) = true)
    (l_Stepu_equ : K.lookup f_Stepu_equ = some ⟨oc13, od13, .func (PySem.W.fnOf "__eq__" "Step.__eq__" (defArgs s_Stepu_equ) (defBody s_Stepu_equ) (defScope s_Stepu_equ) .none kV13 dc13 pm13 an13 cd13 ct13), sl13⟩)
    (c_Stepu_equ : PySem.W.codeIn K cd13 "Step.__eq__" = true)
    (k_Stepu_equ : PySem.W.keepIn K (.ref f_Stepu_equ) = true)
    (a_Writeu_initu : PySem.W.findIn K (.ref C_Write) "__init__" = some (some (.ref f_Writeu_initu)))
    (i_Writeu_initu : PySem.W.isFn K (.ref f_Writeu_initu) = true)
    (l_Writeu_initu : K.lookup f_Writeu_initu = some ⟨oc14, od14, .func (PySem.W.ksFn "__init__" "Write.__init__" (defArgs s_Writeu_initu) (defBody s_Writeu_initu) (defScope s_Writeu_initu) .none kV14 dc14 pm14 an14 (.ref cda14) ct14 cc14), sl14⟩)
    (c_Writeu_initu : PySem.W.codeIn K (.ref cda14) "Write.__init__" = true)
    (k_Writeu_initu : PySem.W.keepIn K (.ref f_Writeu_initu) = true)
    (cl_Writeu_initu : K.lookup cda14 = some ⟨ccl14, ccd14, .fields vs14, ccs14⟩)
    (cf_Writeu_initu : vs14[2]? = some (.str file14 tf14))
    (fe_Writeu_initu : (((PySem.Challenge.pw_codestitch_k24_bytes_behind_steps).main.file : Str) == file14) = true)
    (ce_Writeu_initu : K.lookup cc14 = some ⟨ocl14, ocd14, .cell (some (.ref C_Write)), ocs14⟩)
    (mrC_Write : PySem.W.mroIn K C_Write (.ref C_Write) = some true)
    (suC_Write : PySem.W.ks_superIn K C_Write C_Write "__init__" = some (some (.ref f_Stepu_initu)))
    (fi_Stepu_initu : PySem.W.fnIn K f_Stepu_initu = true)
    (zsuper : PySem.W.nsIn K mainGlobals "super" = some none)
    (znoop : PySem.W.nsIn K cStatics "thirdparty.any" = some none)
    (ztop : ((PySem.Challenge.pw_codestitch_k24_bytes_behind_steps).main.scope.names.lookup ("super" : Str)).isSome = false)
    (a_Write_after : PySem.W.findIn K (.ref C_Write) "after" = some (some (.ref f_Write_after)))
    (i_Write_after : PySem.W.isFn K (.ref f_Write_after) = true)
    (l_Write_after : K.lookup f_Write_after = some ⟨oc15, od15, .func (PySem.W.fnOf "after" "Write.after" (defArgs s_Write_after) (defBody s_Write_after) (defScope s_Write_after) .none kV15 dc15 pm15 an15 cd15 ct15), sl15⟩)
    (c_Write_after : PySem.W.codeIn K cd15 "Write.after" = true)
    (k_Write_after : PySem.W.keepIn K (.ref f_Write_after) = true)
    (a_Syncu_initu : PySem.W.findIn K (.ref C_Sync) "__init__" = some (some (.ref f_Syncu_initu)))
    (i_Syncu_initu : PySem.W.isFn K (.ref f_Syncu_initu) = true)
    (l_Syncu_initu : K.lookup f_Syncu_initu = some ⟨oc16, od16, .func (PySem.W.ksFn "__init__" "Sync.__init__" (defArgs s_Syncu_initu) (defBody s_Syncu_initu) (defScope s_Syncu_initu) .none kV16 dc16 pm16 an16 (.ref cda16) ct16 cc16), sl16⟩)
    (c_Syncu_initu : PySem.W.codeIn K (.ref cda16) "Sync.__init__" = true)
    (k_Syncu_initu : PySem.W.keepIn K (.ref f_Syncu_initu) = true)
    (cl_Syncu_initu : K.lookup cda16 = some ⟨ccl16, ccd16, .fields vs16, ccs16⟩)
    (cf_Syncu_initu : vs16[2]? = some (.str file16 tf16))
    (fe_Syncu_initu : (((PySem.Challenge.pw_codestitch_k24_bytes_behind_steps).main.file : Str) == file16) = true)
    (ce_Syncu_initu : K.lookup cc16 = some ⟨ocl16, ocd16, .cell (some (.ref C_Sync)), ocs16⟩)
    (mrC_Sync : PySem.W.mroIn K C_Sync (.ref C_Sync) = some true)
    (suC_Sync : PySem.W.ks_superIn K C_Sync C_Sync "__init__" = some (some (.ref f_Stepu_initu)))
    (a_Passu_initu : PySem.W.findIn K (.ref C_Pass) "__init__" = some (some (.ref f_Passu_initu)))
    (i_Passu_initu : PySem.W.isFn K (.ref f_Passu_initu) = true)
    (l_Passu_initu : K.lookup f_Passu_initu = some ⟨oc17, od17, .func (PySem.W.ksFn "__init__" "Pass.__init__" (defArgs s_Passu_initu) (defBody s_Passu_initu) (defScope s_Passu_initu) .none kV17 dc17 pm17 an17 (.ref cda17) ct17 cc17), sl17⟩)
    (c_Passu_initu : PySem.W.codeIn K (.ref cda17) "Pass.__init__" = true)
    (k_Passu_initu : PySem.W.keepIn K (.ref f_Passu_initu) = true)
    (cl_Passu_initu : K.lookup cda17 = some ⟨ccl17, ccd17, .fields vs17, ccs17⟩)
    (cf_Passu_initu : vs17[2]? = some (.str file17 tf17))
    (fe_Passu_initu : (((PySem.Challenge.pw_codestitch_k24_bytes_behind_steps).main.file : Str) == file17) = true)
    (ce_Passu_initu : K.lookup cc17 = some ⟨ocl17, ocd17, .cell (some (.ref C_Pass)), ocs17⟩)
    (mrC_Pass : PySem.W.mroIn K C_Pass (.ref C_Pass) = some true)
    (suC_Pass : PySem.W.ks_superIn K C_Pass C_Pass "__init__" = some (some (.ref f_Stepu_initu)))
    (a_Planu_initu : PySem.W.findIn K (.ref C_Plan) "__init__" = some (some (.ref f_Planu_initu)))
    (i_Planu_initu : PySem.W.isFn K (.ref f_Planu_initu) = true)
    (l_Planu_initu : K.lookup f_Planu_initu = some ⟨oc18, od18, .func (PySem.W.fnOf "__init__" "Plan.__init__" (defArgs s_Planu_initu) (defBody s_Planu_initu) (defScope s_Planu_initu) (.ref tD18) kV18 dc18 pm18 an18 cd18 ct18), sl18⟩)
    (c_Planu_initu : PySem.W.codeIn K cd18 "Plan.__init__" = true)
    (k_Planu_initu : PySem.W.keepIn K (.ref f_Planu_initu) = true)
    (kl_e_Planu_initu_steps : K.lookup e_Planu_initu_steps = some ⟨.type "tuple", ode_Planu_initu_steps, .seq #[] ne_Planu_initu_steps, sle_Planu_initu_steps⟩)
    (ld_Planu_initu : K.lookup tD18 = some ⟨ocD18, odD18, .seq #[.ref e_Planu_initu_steps] nD18, slD18⟩)
    (sma_Plan_of : PySem.W.findCls K (.ref C_Plan) (.type "type") "of" = some (.get (.builtin "classmethod.__get__") (.ref sm19) .none (.ref C_Plan)))
    (smr_Plan_of : PySem.W.recIn K sm19 "classmethod" = some (.ref f_Plan_of :: rst19))
    (fi_Plan_of : PySem.W.fnIn K f_Plan_of = true)
    (l_Plan_of : K.lookup f_Plan_of = some ⟨oc19, od19, .func (PySem.W.fnOf "of" "Plan.of" (defArgs s_Plan_of) (defBody s_Plan_of) (defScope s_Plan_of) .none kV19 dc19 pm19 an19 cd19 ct19), sl19⟩)
    (c_Plan_of : PySem.W.codeIn K cd19 "Plan.of" = true)
    (k_Plan_of : PySem.W.keepIn K (.ref f_Plan_of) = true)
    (sma_Plan_read : PySem.W.findCls K (.ref C_Plan) (.type "type") "read" = some (.get (.builtin "classmethod.__get__") (.ref sm20) .none (.ref C_Plan)))
    (smr_Plan_read : PySem.W.recIn K sm20 "classmethod" = some (.ref f_Plan_read :: rst20))
    (fi_Plan_read : PySem.W.fnIn K f_Plan_read = true)
    (l_Plan_read : K.lookup f_Plan_read = some ⟨oc20, od20, .func (PySem.W.fnOf "read" "Plan.read" (defArgs s_Plan_read) (defBody s_Plan_read) (defScope s_Plan_read) .none kV20 dc20 pm20 an20 cd20 ct20), sl20⟩)
    (c_Plan_read : PySem.W.codeIn K cd20 "Plan.read" = true)
    (k_Plan_read : PySem.W.keepIn K (.ref f_Plan_read) = true)
    (pa_Plan_writes : PySem.W.findIn K (.ref C_Plan) "writes" = some (some (.ref pr21)))
    (pg_Plan_writes : PySem.W.specialIn K (.ref pr21) "__get__" = some (some (.builtin "property.__get__")))
    (pt_Plan_writes : PySem.W.takesIn K (.ref pr21) = some true)
    (prc_Plan_writes : PySem.W.recIn K pr21 "property" = some (.ref f_Plan_writes :: rst21))
    (l_Plan_writes : K.lookup f_Plan_writes = some ⟨oc21, od21, .func (PySem.W.fnOf "writes" "Plan.writes" (defArgs s_Plan_writes) (defBody s_Plan_writes) (defScope s_Plan_writes) .none kV21 dc21 pm21 an21 cd21 ct21), sl21⟩)
    (c_Plan_writes : PySem.W.codeIn K cd21 "Plan.writes" = true)
    (k_Plan_writes : PySem.W.keepIn K (.ref f_Plan_writes) = true)
    (a_Planu_getitemu : PySem.W.findIn K (.ref C_Plan) "__getitem__" = some (some (.ref f_Planu_getitemu)))
    (i_Planu_getitemu : PySem.W.isFn K (.ref f_Planu_getitemu) = true)
    (l_Planu_getitemu : K.lookup f_Planu_getitemu = some ⟨oc22, od22, .func (PySem.W.fnOf "__getitem__" "Plan.__getitem__" (defArgs s_Planu_getitemu) (defBody s_Planu_getitemu) (defScope s_Planu_getitemu) .none kV22 dc22 pm22 an22 cd22 ct22), sl22⟩)
    (c_Planu_getitemu : PySem.W.codeIn K cd22 "Plan.__getitem__" = true)
    (k_Planu_getitemu : PySem.W.keepIn K (.ref f_Planu_getitemu) = true)
    (a_Planu_equ : PySem.W.findIn K (.ref C_Plan) "__eq__" = some (some (.ref f_Planu_equ)))
    (i_Planu_equ : PySem.W.isFn K (.ref f_Planu_equ) = true)
    (l_Planu_equ : K.lookup f_Planu_equ = some ⟨oc23, od23, .func (PySem.W.fnOf "__eq__" "Plan.__eq__" (defArgs s_Planu_equ) (defBody s_Planu_equ) (defScope s_Planu_equ) .none kV23 dc23 pm23 an23 cd23 ct23), sl23⟩)
    (c_Planu_equ : PySem.W.codeIn K cd23 "Plan.__eq__" = true)
    (k_Planu_equ : PySem.W.keepIn K (.ref f_Planu_equ) = true)
    (a_Plan_head : PySem.W.findIn K (.ref C_Plan) "head" = some (some (.ref f_Plan_head)))
    (i_Plan_head : PySem.W.isFn K (.ref f_Plan_head) = true)
    (l_Plan_head : K.lookup f_Plan_head = some ⟨oc24, od24, .func (PySem.W.fnOf "head" "Plan.head" (defArgs s_Plan_head) (defBody s_Plan_head) (defScope s_Plan_head) .none kV24 dc24 pm24 an24 cd24 ct24), sl24⟩)
    (c_Plan_head : PySem.W.codeIn K cd24 "Plan.head" = true)
    (k_Plan_head : PySem.W.keepIn K (.ref f_Plan_head) = true)
    (a_Plan_tail : PySem.W.findIn K (.ref C_Plan) "tail" = some (some (.ref f_Plan_tail)))
    (i_Plan_tail : PySem.W.isFn K (.ref f_Plan_tail) = true)
    (l_Plan_tail : K.lookup f_Plan_tail = some ⟨oc25, od25, .func (PySem.W.fnOf "tail" "Plan.tail" (defArgs s_Plan_tail) (defBody s_Plan_tail) (defScope s_Plan_tail) .none kV25 dc25 pm25 an25 cd25 ct25), sl25⟩)
    (c_Plan_tail : PySem.W.codeIn K cd25 "Plan.tail" = true)
    (k_Plan_tail : PySem.W.keepIn K (.ref f_Plan_tail) = true)
    (a_Plan_after : PySem.W.findIn K (.ref C_Plan) "after" = some (some (.ref f_Plan_after)))
    (i_Plan_after : PySem.W.isFn K (.ref f_Plan_after) = true)
    (l_Plan_after : K.lookup f_Plan_after = some ⟨oc26, od26, .func (PySem.W.fnOf "after" "Plan.after" (defArgs s_Plan_after) (defBody s_Plan_after) (defScope s_Plan_after) .none kV26 dc26 pm26 an26 cd26 ct26), sl26⟩)
    (c_Plan_after : PySem.W.codeIn K cd26 "Plan.after" = true)
    (k_Plan_after : PySem.W.keepIn K (.ref f_Plan_after) = true)
    (a_Imageu_initu : PySem.W.findIn K (.ref C_Image) "__init__" = some (some (.ref f_Imageu_initu)))
    (i_Imageu_initu : PySem.W.isFn K (.ref f_Imageu_initu) = true)
    (l_Imageu_initu : K.lookup f_Imageu_initu = some ⟨oc27, od27, .func (PySem.W.fnOf "__init__" "Image.__init__" (defArgs s_Imageu_initu) (defBody s_Imageu_initu) (defScope s_Imageu_initu) .none kV27 dc27 pm27 an27 cd27 ct27), sl27⟩)
    (c_Imageu_initu : PySem.W.codeIn K cd27 "Image.__init__" = true)
    (k_Imageu_initu : PySem.W.keepIn K (.ref f_Imageu_initu) = true)
    (a_Imageu_lenu : PySem.W.findIn K (.ref C_Image) "__len__" = some (some (.ref f_Imageu_lenu)))
    (i_Imageu_lenu : PySem.W.isFn K (.ref f_Imageu_lenu) = true)
    (l_Imageu_lenu : K.lookup f_Imageu_lenu = some ⟨oc28, od28, .func (PySem.W.fnOf "__len__" "Image.__len__" (defArgs s_Imageu_lenu) (defBody s_Imageu_lenu) (defScope s_Imageu_lenu) .none kV28 dc28 pm28 an28 cd28 ct28), sl28⟩)
    (c_Imageu_lenu : PySem.W.codeIn K cd28 "Image.__len__" = true)
    (k_Imageu_lenu : PySem.W.keepIn K (.ref f_Imageu_lenu) = true)
    (a_Imageu_iteru : PySem.W.findIn K (.ref C_Image) "__iter__" = some (some (.ref f_Imageu_iteru)))
    (i_Imageu_iteru : PySem.W.isFn K (.ref f_Imageu_iteru) = true)
    (l_Imageu_iteru : K.lookup f_Imageu_iteru = some ⟨oc29, od29, .func (PySem.W.fnOf "__iter__" "Image.__iter__" (defArgs s_Imageu_iteru) (defBody s_Imageu_iteru) (defScope s_Imageu_iteru) .none kV29 dc29 pm29 an29 cd29 ct29), sl29⟩)
    (c_Imageu_iteru : PySem.W.codeIn K cd29 "Image.__iter__" = true)
    (k_Imageu_iteru : PySem.W.keepIn K (.ref f_Imageu_iteru) = true)
    (a_Imageu_getitemu : PySem.W.findIn K (.ref C_Image) "__getitem__" = some (some (.ref f_Imageu_getitemu)))
    (i_Imageu_getitemu : PySem.W.isFn K (.ref f_Imageu_getitemu) = true)
    (l_Imageu_getitemu : K.lookup f_Imageu_getitemu = some ⟨oc30, od30, .func (PySem.W.fnOf "__getitem__" "Image.__getitem__" (defArgs s_Imageu_getitemu) (defBody s_Imageu_getitemu) (defScope s_Imageu_getitemu) .none kV30 dc30 pm30 an30 cd30 ct30), sl30⟩)
    (c_Imageu_getitemu : PySem.W.codeIn K cd30 "Image.__getitem__" = true)
    (k_Imageu_getitemu : PySem.W.keepIn K (.ref f_Imageu_getitemu) = true)
    (a__law_pen : PySem.W.nsIn K mainGlobals "_law_pen" = some (some (.ref f__law_pen)))
    (l__law_pen : K.lookup f__law_pen = some ⟨oc31, od31, .func (PySem.W.fnOf "_law_pen" "_law_pen" (defArgs s__law_pen) (defBody s__law_pen) (defScope s__law_pen) .none kV31 dc31 pm31 an31 cd31 ct31), sl31⟩)
    (c__law_pen : PySem.W.codeIn K cd31 "_law_pen" = true)
    (k__law_pen : PySem.W.keepIn K (.ref f__law_pen) = true)
    (a__law_draw : PySem.W.nsIn K mainGlobals "_law_draw" = some (some (.ref f__law_draw)))
    (l__law_draw : K.lookup f__law_draw = some ⟨oc32, od32, .func (PySem.W.fnOf "_law_draw" "_law_draw" (defArgs s__law_draw) (defBody s__law_draw) (defScope s__law_draw) .none kV32 dc32 pm32 an32 cd32 ct32), sl32⟩)
    (c__law_draw : PySem.W.codeIn K cd32 "_law_draw" = true)
    (k__law_draw : PySem.W.keepIn K (.ref f__law_draw) = true)
    (a__law_step : PySem.W.nsIn K mainGlobals "_law_step" = some (some (.ref f__law_step)))
    (l__law_step : K.lookup f__law_step = some ⟨oc33, od33, .func (PySem.W.fnOf "_law_step" "_law_step" (defArgs s__law_step) (defBody s__law_step) (defScope s__law_step) .none kV33 dc33 pm33 an33 cd33 ct33), sl33⟩)
    (c__law_step : PySem.W.codeIn K cd33 "_law_step" = true)
    (k__law_step : PySem.W.keepIn K (.ref f__law_step) = true)
    (a__law_drawn : PySem.W.nsIn K mainGlobals "_law_drawn" = some (some (.ref f__law_drawn)))
    (l__law_drawn : K.lookup f__law_drawn = some ⟨oc34, od34, .func (PySem.W.fnOf "_law_drawn" "_law_drawn" (defArgs s__law_drawn) (defBody s__law_drawn) (defScope s__law_drawn) .none kV34 dc34 pm34 an34 cd34 ct34), sl34⟩)
    (c__law_drawn : PySem.W.codeIn K cd34 "_law_drawn" = true)
    (k__law_drawn : PySem.W.keepIn K (.ref f__law_drawn) = true)
    (a__law_due : PySem.W.nsIn K mainGlobals "_law_due" = some (some (.ref f__law_due)))
    (l__law_due : K.lookup f__law_due = some ⟨oc35, od35, .func (PySem.W.fnOf "_law_due" "_law_due" (defArgs s__law_due) (defBody s__law_due) (defScope s__law_due) .none kV35 dc35 pm35 an35 cd35 ct35), sl35⟩)
    (c__law_due : PySem.W.codeIn K cd35 "_law_due" = true)
    (k__law_due : PySem.W.keepIn K (.ref f__law_due) = true)
    (a__law_told : PySem.W.nsIn K mainGlobals "_law_told" = some (some (.ref f__law_told)))
    (l__law_told : K.lookup f__law_told = some ⟨oc36, od36, .func (PySem.W.fnOf "_law_told" "_law_told" (defArgs s__law_told) (defBody s__law_told) (defScope s__law_told) .none kV36 dc36 pm36 an36 cd36 ct36), sl36⟩)
    (c__law_told : PySem.W.codeIn K cd36 "_law_told" = true)
    (k__law_told : PySem.W.keepIn K (.ref f__law_told) = true)
    (a__law_shaped : PySem.W.nsIn K mainGlobals "_law_shaped" = some (some (.ref f__law_shaped)))
    (l__law_shaped : K.lookup f__law_shaped = some ⟨oc37, od37, .func (PySem.W.fnOf "_law_shaped" "_law_shaped" (defArgs s__law_shaped) (defBody s__law_shaped) (defScope s__law_shaped) .none kV37 dc37 pm37 an37 cd37 ct37), sl37⟩)
    (c__law_shaped : PySem.W.codeIn K cd37 "_law_shaped" = true)
    (k__law_shaped : PySem.W.keepIn K (.ref f__law_shaped) = true)
    (a__law_plan_right : PySem.W.nsIn K mainGlobals "_law_plan_right" = some (some (.ref f__law_plan_right)))
    (l__law_plan_right : K.lookup f__law_plan_right = some ⟨oc38, od38, .func (PySem.W.fnOf "_law_plan_right" "_law_plan_right" (defArgs s__law_plan_right) (defBody s__law_plan_right) (defScope s__law_plan_right) .none kV38 dc38 pm38 an38 cd38 ct38), sl38⟩)
    (c__law_plan_right : PySem.W.codeIn K cd38 "_law_plan_right" = true)
    (k__law_plan_right : PySem.W.keepIn K (.ref f__law_plan_right) = true)
    (a__law_wide_right : PySem.W.nsIn K mainGlobals "_law_wide_right" = some (some (.ref f__law_wide_right)))
    (l__law_wide_right : K.lookup f__law_wide_right = some ⟨oc39, od39, .func (PySem.W.fnOf "_law_wide_right" "_law_wide_right" (defArgs s__law_wide_right) (defBody s__law_wide_right) (defScope s__law_wide_right) .none kV39 dc39 pm39 an39 cd39 ct39), sl39⟩)
    (c__law_wide_right : PySem.W.codeIn K cd39 "_law_wide_right" = true)
    (k__law_wide_right : PySem.W.keepIn K (.ref f__law_wide_right) = true)
    (a__law_own_right : PySem.W.nsIn K mainGlobals "_law_own_right" = some (some (.ref f__law_own_right)))
    (l__law_own_right : K.lookup f__law_own_right = some ⟨oc40, od40, .func (PySem.W.fnOf "_law_own_right" "_law_own_right" (defArgs s__law_own_right) (defBody s__law_own_right) (defScope s__law_own_right) .none kV40 dc40 pm40 an40 cd40 ct40), sl40⟩)
    (c__law_own_right : PySem.W.codeIn K cd40 "_law_own_right" = true)
    (k__law_own_right : PySem.W.keepIn K (.ref f__law_own_right) = true)
    (a_law : PySem.W.nsIn K mainGlobals "law" = some (some (.ref f_law)))
    (l_law : K.lookup f_law = some ⟨oc41, od41, .func (PySem.W.fnOf "law" "law" (defArgs s_law) (defBody s_law) (defScope s_law) .none kV41 dc41 pm41 an41 cd41 ct41), sl41⟩)
    (c_law : PySem.W.codeIn K cd41 "law" = true)
    (k_law : PySem.W.keepIn K (.ref f_law) = true)
    (pg_Step : PySem.W.plainGet K C_Step Str.empty = true)
    (hd_Step : PySem.W.hasDictIn K C_Step = true)
    (po_Step : PySem.W.plainOver K C_Step = true)
    (sa_Step : PySem.W.findIn K (.ref C_Step) "__setattr__" = some (some (.builtin "object.__setattr__")))
    (pg_Write : PySem.W.plainGet K C_Write Str.empty = true)
    (hd_Write : PySem.W.hasDictIn K C_Write = true)
    (po_Write : PySem.W.plainOver K C_Write = true)
    (sa_Write : PySem.W.findIn K (.ref C_Write) "__setattr__" = some (some (.builtin "object.__setattr__")))
    (mk_Write : PySem.W.makesIn K C_Write = true)
    (kc_Write : PySem.W.keepIn K (.ref C_Write) = true)
    (no_Write_shown : PySem.W.findIn K (.ref C_Write) "shown" = some none)
    (no_Write_address : PySem.W.findIn K (.ref C_Write) "address" = some none)
    (no_Write_given : PySem.W.findIn K (.ref C_Write) "given" = some none)
    (pg_Sync : PySem.W.plainGet K C_Sync Str.empty = true)
    (hd_Sync : PySem.W.hasDictIn K C_Sync = true)
    (po_Sync : PySem.W.plainOver K C_Sync = true)
    (sa_Sync : PySem.W.findIn K (.ref C_Sync) "__setattr__" = some (some (.builtin "object.__setattr__")))
    (mk_Sync : PySem.W.makesIn K C_Sync = true)
    (kc_Sync : PySem.W.keepIn K (.ref C_Sync) = true)
    (no_Sync_shown : PySem.W.findIn K (.ref C_Sync) "shown" = some none)
    (pg_Pass : PySem.W.plainGet K C_Pass Str.empty = true)
    (hd_Pass : PySem.W.hasDictIn K C_Pass = true)
    (po_Pass : PySem.W.plainOver K C_Pass = true)
    (sa_Pass : PySem.W.findIn K (.ref C_Pass) "__setattr__" = some (some (.builtin "object.__setattr__")))
    (mk_Pass : PySem.W.makesIn K C_Pass = true)
    (kc_Pass : PySem.W.keepIn K (.ref C_Pass) = true)
    (no_Pass_shown : PySem.W.findIn K (.ref C_Pass) "shown" = some none)
    (no_Pass_stretch : PySem.W.findIn K (.ref C_Pass) "stretch" = some none)
    (pg_Plan : PySem.W.plainGet K C_Plan Str.empty = true)
    (hd_Plan : PySem.W.hasDictIn K C_Plan = true)
    (po_Plan : PySem.W.plainOver K C_Plan = true)
    (sa_Plan : PySem.W.findIn K (.ref C_Plan) "__setattr__" = some (some (.builtin "object.__setattr__")))
    (mk_Plan : PySem.W.makesIn K C_Plan = true)
    (kc_Plan : PySem.W.keepIn K (.ref C_Plan) = true)
    (no_Plan_listed : PySem.W.findIn K (.ref C_Plan) "listed" = some none)
    (pg_Image : PySem.W.plainGet K C_Image Str.empty = true)
    (hd_Image : PySem.W.hasDictIn K C_Image = true)
    (po_Image : PySem.W.plainOver K C_Image = true)
    (sa_Image : PySem.W.findIn K (.ref C_Image) "__setattr__" = some (some (.builtin "object.__setattr__")))
    (mk_Image : PySem.W.makesIn K C_Image = true)
    (kc_Image : PySem.W.keepIn K (.ref C_Image) = true)
    (no_Image_cells : PySem.W.findIn K (.ref C_Image) "cells" = some none)
    (z_len : PySem.W.nsIn K mainGlobals "len" = some none)
    (z_abs : PySem.W.nsIn K mainGlobals "abs" = some none)
    (z_int : PySem.W.nsIn K mainGlobals "int" = some none)
    (z_list : PySem.W.nsIn K mainGlobals "list" = some none)
    (z_range : PySem.W.nsIn K mainGlobals "range" = some none)
    (z_isinstance : PySem.W.nsIn K mainGlobals "isinstance" = some none)
    (z_bool : PySem.W.nsIn K mainGlobals "bool" = some none)
    (z_str : PySem.W.nsIn K mainGlobals "str" = some none)
    (z_tuple : PySem.W.nsIn K mainGlobals "tuple" = some none)
    (z_ValueError : PySem.W.nsIn K mainGlobals "ValueError" = some none)
    (z_repr : PySem.W.nsIn K mainGlobals "repr" = some none)
    (z_enumerate : PySem.W.nsIn K mainGlobals "enumerate" = some none)
    (z_sum : PySem.W.nsIn K mainGlobals "sum" = some none)
    (z_any : PySem.W.nsIn K mainGlobals "any" = some none)
    (z_all : PySem.W.nsIn K mainGlobals "all" = some none)
    (z_max : PySem.W.nsIn K mainGlobals "max" = some none)
    (z_min : PySem.W.nsIn K mainGlobals "min" = some none)
    (z_iter : PySem.W.nsIn K mainGlobals "iter" = some none)
    (v_MOST_DIGITS : PySem.W.nsIn K mainGlobals "MOST_DIGITS" = some (some (.int 3 t_MOST_DIGITS)))
    (v_MOST_NUMBER : PySem.W.nsIn K mainGlobals "MOST_NUMBER" = some (some (.int 255 t_MOST_NUMBER)))
    (v_MOST_ADDRESS : PySem.W.nsIn K mainGlobals "MOST_ADDRESS" = some (some (.int 23 t_MOST_ADDRESS)))
    (v_DIGITS : PySem.W.nsIn K mainGlobals "DIGITS" = some (some (.str "0123456789" t_DIGITS)))
    (aC_CodeError : PySem.W.nsIn K mainGlobals "CodeError" = some (some (.ref C_CodeError)))
    (aC_BadInput : PySem.W.nsIn K mainGlobals "BadInput" = some (some (.ref C_BadInput)))
    (aC_Word : PySem.W.nsIn K mainGlobals "Word" = some (some (.ref C_Word)))
    (zgcn : PySem.W.specialIn K (.builtin "object.__class__") "__get__" = some (some (.builtin "getset_descriptor.__get__")))
    (zgct : PySem.W.takesIn K (.builtin "object.__class__") = some true)
    (aC_BadByte : PySem.W.nsIn K mainGlobals "BadByte" = some (some (.ref C_BadByte)))
    (lkC_BadByte : K.lookup C_BadByte = some (excClassObj nm42 q42 C_BadByte N42 bs42 bm42 true sn42 sub42 ab42 col42 dd42 ka42 kb42 kc42 kd42 ke42 "ValueError.__new__"))
    (bmC_BadByte : PySem.HandSPX.refsVE bm42 = true)
    (saC_BadByte : PySem.W.findIn K (.ref C_BadByte) "__setattr__" = some (some (.builtin "object.__setattr__")))
    (exC_BadByte : PySem.W.subIn K (.ref C_BadByte) (.type "BaseException") = some true)
    (tyC_BadByte : PySem.W.typeIn K (.ref C_BadByte) = some (.type "type"))
    (kpC_BadByte : PySem.W.keepIn K (.ref C_BadByte) = true)
    (inC_BadByte : PySem.W.findIn K (.ref C_BadByte) "__init__" = some (some (.ref f_BadByteu_initu)))
    (tiC_BadByte : PySem.W.typeIn K (.ref f_BadByteu_initu) = some (.type "function"))
    (noC_BadByte_at : PySem.W.findIn K (.ref C_BadByte) "at" = some none)
    (gaC_BadByte : PySem.W.findIn K (.ref C_BadByte) "__getattribute__" = some (some (.builtin "BaseException.__getattribute__")))
    (ggC_BadByte : PySem.W.findIn K (.ref C_BadByte) "__getattr__" = some none)
    (hdC_BadByte : PySem.W.hasDictIn K C_BadByte = true)
    (gcC_BadByte : PySem.W.findIn K (.ref C_BadByte) "__class__" = some (some (.builtin "object.__class__")))
    (moC_BadByte : PySem.W.mroIn K C_BadByte (.type "object") = some true)
    (l_BadByteu_initu : K.lookup f_BadByteu_initu = some ⟨oc42, od42, .func (PySem.W.ksFn "__init__" "BadByte.__init__" (defArgs s_BadByteu_initu) (defBody s_BadByteu_initu) (defScope s_BadByteu_initu) .none kV42 dc42 pm42 an42 (.ref cda42) ct42 cc42), sl42⟩)
    (c_BadByteu_initu : PySem.W.codeIn K (.ref cda42) "BadByte.__init__" = true)
    (k_BadByteu_initu : PySem.W.keepIn K (.ref f_BadByteu_initu) = true)
    (cl_BadByteu_initu : K.lookup cda42 = some ⟨ccl42, ccd42, .fields vs42, ccs42⟩)
    (cf_BadByteu_initu : vs42[2]? = some (.str file42 tf42))
    (fe_BadByteu_initu : (((PySem.Challenge.pw_codestitch_k24_bytes_behind_steps).main.file : Str) == file42) = true)
    (ce_BadByteu_initu : K.lookup cc42 = some ⟨ocl42, ocd42, .cell (some (.ref C_BadByte)), ocs42⟩)
    (mrC_BadByte : PySem.W.mroIn K C_BadByte (.ref C_BadByte) = some true)
    (suC_BadByte : PySem.W.ks_superIn K C_BadByte C_BadByte "__init__" = some (some (.builtin "ValueError.__init__")))
    (svC_BadByte : PySem.W.subIn K (.ref C_BadByte) (.type "ValueError") = some true)
    (aC_BadAddress : PySem.W.nsIn K mainGlobals "BadAddress" = some (some (.ref C_BadAddress)))
    (lkC_BadAddress : K.lookup C_BadAddress = some (excClassObj nm43 q43 C_BadAddress N43 bs43 bm43 true sn43 sub43 ab43 col43 dd43 ka43 kb43 kc43 kd43 ke43 "ValueError.__new__"))
    (bmC_BadAddress : PySem.HandSPX.refsVE bm43 = true)
    (saC_BadAddress : PySem.W.findIn K (.ref C_BadAddress) "__setattr__" = some (some (.builtin "object.__setattr__")))
    (exC_BadAddress : PySem.W.subIn K (.ref C_BadAddress) (.type "BaseException") = some true)
    (tyC_BadAddress : PySem.W.typeIn K (.ref C_BadAddress) = some (.type "type"))
    (kpC_BadAddress : PySem.W.keepIn K (.ref C_BadAddress) = true)
    (inC_BadAddress : PySem.W.findIn K (.ref C_BadAddress) "__init__" = some (some (.ref f_BadAddressu_initu)))
    (tiC_BadAddress : PySem.W.typeIn K (.ref f_BadAddressu_initu) = some (.type "function"))
    (noC_BadAddress_at : PySem.W.findIn K (.ref C_BadAddress) "at" = some none)
    (gaC_BadAddress : PySem.W.findIn K (.ref C_BadAddress) "__getattribute__" = some (some (.builtin "BaseException.__getattribute__")))
    (ggC_BadAddress : PySem.W.findIn K (.ref C_BadAddress) "__getattr__" = some none)
    (hdC_BadAddress : PySem.W.hasDictIn K C_BadAddress = true)
    (gcC_BadAddress : PySem.W.findIn K (.ref C_BadAddress) "__class__" = some (some (.builtin "object.__class__")))
    (moC_BadAddress : PySem.W.mroIn K C_BadAddress (.type "object") = some true)
    (l_BadAddressu_initu : K.lookup f_BadAddressu_initu = some ⟨oc43, od43, .func (PySem.W.ksFn "__init__" "BadAddress.__init__" (defArgs s_BadAddressu_initu) (defBody s_BadAddressu_initu) (defScope s_BadAddressu_initu) .none kV43 dc43 pm43 an43 (.ref cda43) ct43 cc43), sl43⟩)
    (c_BadAddressu_initu : PySem.W.codeIn K (.ref cda43) "BadAddress.__init__" = true)
    (k_BadAddressu_initu : PySem.W.keepIn K (.ref f_BadAddressu_initu) = true)
    (cl_BadAddressu_initu : K.lookup cda43 = some ⟨ccl43, ccd43, .fields vs43, ccs43⟩)
    (cf_BadAddressu_initu : vs43[2]? = some (.str file43 tf43))
    (fe_BadAddressu_initu : (((PySem.Challenge.pw_codestitch_k24_bytes_behind_steps).main.file : Str) == file43) = true)
    (ce_BadAddressu_initu : K.lookup cc43 = some ⟨ocl43, ocd43, .cell (some (.ref C_BadAddress)), ocs43⟩)
    (mrC_BadAddress : PySem.W.mroIn K C_BadAddress (.ref C_BadAddress) = some true)
    (suC_BadAddress : PySem.W.ks_superIn K C_BadAddress C_BadAddress "__init__" = some (some (.builtin "ValueError.__init__")))
    (svC_BadAddress : PySem.W.subIn K (.ref C_BadAddress) (.type "ValueError") = some true)
    (aC_BadStep : PySem.W.nsIn K mainGlobals "BadStep" = some (some (.ref C_BadStep)))
    (lkC_BadStep : K.lookup C_BadStep = some (excClassObj nm44 q44 C_BadStep N44 bs44 bm44 true sn44 sub44 ab44 col44 dd44 ka44 kb44 kc44 kd44 ke44 "ValueError.__new__"))
    (bmC_BadStep : PySem.HandSPX.refsVE bm44 = true)
    (saC_BadStep : PySem.W.findIn K (.ref C_BadStep) "__setattr__" = some (some (.builtin "object.__setattr__")))
    (exC_BadStep : PySem.W.subIn K (.ref C_BadStep) (.type "BaseException") = some true)
    (tyC_BadStep : PySem.W.typeIn K (.ref C_BadStep) = some (.type "type"))
    (kpC_BadStep : PySem.W.keepIn K (.ref C_BadStep) = true)
    (inC_BadStep : PySem.W.findIn K (.ref C_BadStep) "__init__" = some (some (.ref f_BadStepu_initu)))
    (tiC_BadStep : PySem.W.typeIn K (.ref f_BadStepu_initu) = some (.type "function"))
    (noC_BadStep_step : PySem.W.findIn K (.ref C_BadStep) "step" = some none)
    (gaC_BadStep : PySem.W.findIn K (.ref C_BadStep) "__getattribute__" = some (some (.builtin "BaseException.__getattribute__")))
    (ggC_BadStep : PySem.W.findIn K (.ref C_BadStep) "__getattr__" = some none)
    (hdC_BadStep : PySem.W.hasDictIn K C_BadStep = true)
    (gcC_BadStep : PySem.W.findIn K (.ref C_BadStep) "__class__" = some (some (.builtin "object.__class__")))
    (moC_BadStep : PySem.W.mroIn K C_BadStep (.type "object") = some true)
    (l_BadStepu_initu : K.lookup f_BadStepu_initu = some ⟨oc44, od44, .func (PySem.W.ksFn "__init__" "BadStep.__init__" (defArgs s_BadStepu_initu) (defBody s_BadStepu_initu) (defScope s_BadStepu_initu) .none kV44 dc44 pm44 an44 (.ref cda44) ct44 cc44), sl44⟩)
    (c_BadStepu_initu : PySem.W.codeIn K (.ref cda44) "BadStep.__init__" = true)
    (k_BadStepu_initu : PySem.W.keepIn K (.ref f_BadStepu_initu) = true)
    (cl_BadStepu_initu : K.lookup cda44 = some ⟨ccl44, ccd44, .fields vs44, ccs44⟩)
    (cf_BadStepu_initu : vs44[2]? = some (.str file44 tf44))
    (fe_BadStepu_initu : (((PySem.Challenge.pw_codestitch_k24_bytes_behind_steps).main.file : Str) == file44) = true)
    (ce_BadStepu_initu : K.lookup cc44 = some ⟨ocl44, ocd44, .cell (some (.ref C_BadStep)), ocs44⟩)
    (mrC_BadStep : PySem.W.mroIn K C_BadStep (.ref C_BadStep) = some true)
    (suC_BadStep : PySem.W.ks_superIn K C_BadStep C_BadStep "__init__" = some (some (.builtin "ValueError.__init__")))
    (svC_BadStep : PySem.W.subIn K (.ref C_BadStep) (.type "ValueError") = some true)
    (kit_BadAddress_BadAddress : PySem.W.kitOne K (.ref C_BadAddress) (.ref C_BadAddress) = some true)
    (kit_BadAddress_BadInput : PySem.W.kitOne K (.ref C_BadAddress) (.ref C_BadInput) = some true)
    (kit_BadAddress_BadByte : PySem.W.kitOne K (.ref C_BadAddress) (.ref C_BadByte) = some false)
    (kit_BadAddress_BadStep : PySem.W.kitOne K (.ref C_BadAddress) (.ref C_BadStep) = some false)
    (kit_Write_Step : PySem.W.kitOne K (.ref C_Write) (.ref C_Step) = some true)
    (kit_Sync_Step : PySem.W.kitOne K (.ref C_Sync) (.ref C_Step) = some true)
    (kit_Pass_Step : PySem.W.kitOne K (.ref C_Pass) (.ref C_Step) = some true)
    (exm_BadByte_CodeError : PySem.W.exmOne K (.ref C_BadByte) (.ref C_CodeError) = some true)
    (exm_BadAddress_CodeError : PySem.W.exmOne K (.ref C_BadAddress) (.ref C_CodeError) = some true)
    (exm_BadStep_CodeError : PySem.W.exmOne K (.ref C_BadStep) (.ref C_CodeError) = some true)
    (icc_Plan : PySem.W.findIn K (.ref C_Plan) "__class__" = some (some (.builtin "object.__class__")))
    (icm_Plan : PySem.W.mroIn K C_Plan (.type "object") = some true)
    (kit_Plan_Plan : PySem.W.kitOne K (.ref C_Plan) (.ref C_Plan) = some true)
    (icc_Image : PySem.W.findIn K (.ref C_Image) "__class__" = some (some (.builtin "object.__class__")))
    (icm_Image : PySem.W.mroIn K C_Image (.type "object") = some true)
    (kit_Image_Image : PySem.W.kitOne K (.ref C_Image) (.ref C_Image) = some true)
    (icc_Write : PySem.W.findIn K (.ref C_Write) "__class__" = some (some (.builtin "object.__class__")))
    (icm_Write : PySem.W.mroIn K C_Write (.type "object") = some true)
    (kit_Write_Write : PySem.W.kitOne K (.ref C_Write) (.ref C_Write) = some true)
    (icc_Sync : PySem.W.findIn K (.ref C_Sync) "__class__" = some (some (.builtin "object.__class__")))
    (icm_Sync : PySem.W.mroIn K C_Sync (.type "object") = some true)
    (kit_Sync_Sync : PySem.W.kitOne K (.ref C_Sync) (.ref C_Sync) = some true)
    (icc_Pass : PySem.W.findIn K (.ref C_Pass) "__class__" = some (some (.builtin "object.__class__")))
    (icm_Pass : PySem.W.mroIn K C_Pass (.type "object") = some true)
    (kit_Pass_Pass : PySem.W.kitOne K (.ref C_Pass) (.ref C_Pass) = some true)
    (nee_Plan : PySem.W.findIn K (.ref C_Plan) "__ne__" = some (some (.builtin "object.__ne__")))
    (kit_list_Image : PySem.W.kitOne K (.type "list") (.ref C_Image) = some false)
    (kit_tuple_Image : PySem.W.kitOne K (.type "tuple") (.ref C_Image) = some false)
    (nf_Plan_Plan : PySem.W.notFirst K C_Plan (.ref C_Plan) = true)
    (nf_Write_Write : PySem.W.notFirst K C_Write (.ref C_Write) = true)
    (nf_Sync_Write : PySem.W.notFirst K C_Write (.ref C_Sync) = true)
    (nf_Pass_Write : PySem.W.notFirst K C_Write (.ref C_Pass) = true)
    (nf_Write_Sync : PySem.W.notFirst K C_Sync (.ref C_Write) = true)
    (nf_Sync_Sync : PySem.W.notFirst K C_Sync (.ref C_Sync) = true)
    (nf_Pass_Sync : PySem.W.notFirst K C_Sync (.ref C_Pass) = true)
    (nf_Write_Pass : PySem.W.notFirst K C_Pass (.ref C_Write) = true)
    (nf_Sync_Pass : PySem.W.notFirst K C_Pass (.ref C_Sync) = true)
    (nf_Pass_Pass : PySem.W.notFirst K C_Pass (.ref C_Pass) = true)
    (spi_Planu_getitemu : PySem.W.fnIn K f_Planu_getitemu = true)
    (spi_Imageu_getitemu : PySem.W.fnIn K f_Imageu_getitemu = true)
    (rd_Plan : PySem.W.readsIn K C_Plan (.type "type") = true)
    (gat_Plan : PySem.W.specialIn K (.ref C_Plan) "__getattribute__" = some (some (.builtin "type.__getattribute__")))
    (seq_Write : PySem.W.findIn K (.ref C_Write) "__eq__" = some (some (.ref f_Stepu_equ)))
    (swr_Write : PySem.W.findIn K (.ref C_Write) "WRITES" = some (some (.int 1 trWrite)))
    (srg_Write : PySem.W.specialIn K (.int 1 trWrite) "__get__" = some none)
    (seq_Sync : PySem.W.findIn K (.ref C_Sync) "__eq__" = some (some (.ref f_Stepu_equ)))
    (swr_Sync : PySem.W.findIn K (.ref C_Sync) "WRITES" = some (some (.int 0 trSync)))
    (srg_Sync : PySem.W.specialIn K (.int 0 trSync) "__get__" = some none)
    (seq_Pass : PySem.W.findIn K (.ref C_Pass) "__eq__" = some (some (.ref f_Stepu_equ)))
    (swr_Pass : PySem.W.findIn K (.ref C_Pass) "WRITES" = some (some (.int 0 trPass)))
    (srg_Pass : PySem.W.specialIn K (.int 0 trPass) "__get__" = some none)
    (mA_Write : PySem.W.findIn K (.ref C_Write) "after" = some (some (.ref f_Write_after)))
    (mA_Sync : PySem.W.findIn K (.ref C_Sync) "after" = some (some (.ref f_Step_after)))
    (mA_Pass : PySem.W.findIn K (.ref C_Pass) "after" = some (some (.ref f_Step_after)))
    (lam__law_plan_right : Vc.lamB K f__law_plan_right cl__law_plan_right Pl__law_plan_right = true)
    (lam__law_wide_right : Vc.lamB K f__law_wide_right cl__law_wide_right Pl__law_wide_right = true)
    (lam_law : Vc.lamB K f_law cl_law Pl_law = true)
    (lne__law_plan_right__law_wide_right : (Pl__law_plan_right : Addr) ≠ Pl__law_wide_right)
    (lne__law_plan_right_law : (Pl__law_plan_right : Addr) ≠ Pl_law)
    (lne__law_wide_right_law : (Pl__law_wide_right : Addr) ≠ Pl_law) :
    ∃ fd : FuncData, (∀ (s : Shared) (v : Value), BindsTo s fd ⟨[v], []⟩ [("_law_script", v)]) ∧ ∀ base : Heap, K.In base → base.Ns mainGlobals mg → (∀ p ∈ [(cl__law_plan_right, Pl__law_plan_right), (cl__law_wide_right, Pl__law_wide_right), (cl_law, Pl_law)], LamX.TabB base mg p.1 p.2) → Vc.FnG PySem.Challenge.pw_codestitch_k24_bytes_behind_steps w K mg base CX0 14 fa fd ["_law_script"] (spLaw K [(Pl__law_plan_right, ((("_law_plan_right" : Str) ++ (".<locals>." : Str)) ++ ("<lambda>" : Str))), (Pl__law_wide_right, ((("_law_wide_right" : Str) ++ (".<locals>." : Str)) ++ ("<lambda>" : Str))), (Pl_law, ((("law" : Str) ++ (".<locals>." : Str)) ++ ("<lambda>" : Str)))]) := by
  have e := hfa.symm.trans (PySem.W.mg_of X G a_law)
  cases e
  have F_is_byte := fun_mk (st := s_is_byte) l_is_byte c_is_byte k_is_byte
  have F_check_bytes := fun_mk (st := s_check_bytes) l_check_bytes c_check_bytes k_check_bytes
  have F_span_of := fun_mk (st := s_span_of) l_span_of c_span_of k_span_of
  have F_is_number := fun_mk (st := s_is_number) l_is_number c_is_number k_is_number
  have F_split_lines := fun_mk (st := s_split_lines) l_split_lines c_split_lines k_split_lines
  have F_stands := fun_mk (st := s_stands) l_stands c_stands k_stands
  have F_check_line := fun_mk (st := s_check_line) l_check_line c_check_line k_check_line
  have F_read_numbers : FunD K "read_numbers" "read_numbers" (defArgs s_read_numbers) (defBody s_read_numbers) (defScope s_read_numbers) [] [("least", .int 0), ("ascending", .bl false)] f_read_numbers (PySem.W.fnOf "read_numbers" "read_numbers" (defArgs s_read_numbers) (defBody s_read_numbers) (defScope s_read_numbers) .none (.ref kD8) dc8 pm8 an8 cd8 ct8) := ⟨⟨_, _, _, _, _, _, _, _, _, _, rfl, l_read_numbers, c_read_numbers, .inl ⟨rfl, rfl⟩, .inr ⟨_, rfl, fun q hq => by
    rcases List.mem_cons.mp hq with hq | hq
    · rw [hq]; exact ⟨_, kn_read_numbers_least, _, rfl⟩
    rcases List.mem_cons.mp hq with hq | hq
    · rw [hq]; exact ⟨_, kn_read_numbers_ascending, rfl⟩
    cases hq⟩⟩, k_read_numbers⟩
  have F_read_parts := fun_mk (st := s_read_parts) l_read_parts c_read_parts k_read_parts
  have F_step_of := fun_mk (st := s_step_of) l_step_of c_step_of k_step_of
  have F_Stepu_initu := fun_mk (st := s_Stepu_initu) l_Stepu_initu c_Stepu_initu k_Stepu_initu
  have F_Step_after := fun_mk (st := s_Step_after) l_Step_after c_Step_after k_Step_after
  have F_Stepu_equ := fun_mk (st := s_Stepu_equ) l_Stepu_equ c_Stepu_equ k_Stepu_equ
  have F_Writeu_initu : Vc.FunQ PySem.Challenge.pw_codestitch_k24_bytes_behind_steps K mg "__init__" "Write.__init__" s_Writeu_initu f_Writeu_initu (PySem.W.ksFn "__init__" "Write.__init__" (defArgs s_Writeu_initu) (defBody s_Writeu_initu) (defScope s_Writeu_initu) .none kV14 dc14 pm14 an14 (.ref cda14) ct14 cc14) C_Write f_Stepu_initu "self" := ⟨⟨_, _, _, _, _, _, _, _, _, _, rfl, l_Writeu_initu, c_Writeu_initu, ⟨⟨_, _, _, l_Writeu_initu⟩, ⟨_, rfl, rfl⟩, ⟨_, _, _, _, _, _, cl_Writeu_initu, cf_Writeu_initu, fe_Writeu_initu⟩, ⟨_, _, _, ce_Writeu_initu⟩, mrC_Write, suC_Write, i_Stepu_initu, fi_Stepu_initu, PySem.W.mg_none_of X G zsuper, znoop, ztop⟩⟩, k_Writeu_initu⟩
  have F_Write_after := fun_mk (st := s_Write_after) l_Write_after c_Write_after k_Write_after
  have F_Syncu_initu : Vc.FunQ PySem.Challenge.pw_codestitch_k24_bytes_behind_steps K mg "__init__" "Sync.__init__" s_Syncu_initu f_Syncu_initu (PySem.W.ksFn "__init__" "Sync.__init__" (defArgs s_Syncu_initu) (defBody s_Syncu_initu) (defScope s_Syncu_initu) .none kV16 dc16 pm16 an16 (.ref cda16) ct16 cc16) C_Sync f_Stepu_initu "self" := ⟨⟨_, _, _, _, _, _, _, _, _, _, rfl, l_Syncu_initu, c_Syncu_initu, ⟨⟨_, _, _, l_Syncu_initu⟩, ⟨_, rfl, rfl⟩, ⟨_, _, _, _, _, _, cl_Syncu_initu, cf_Syncu_initu, fe_Syncu_initu⟩, ⟨_, _, _, ce_Syncu_initu⟩, mrC_Sync, suC_Sync, i_Stepu_initu, fi_Stepu_initu, PySem.W.mg_none_of X G zsuper, znoop, ztop⟩⟩, k_Syncu_initu⟩
  have F_Passu_initu : Vc.FunQ PySem.Challenge.pw_codestitch_k24_bytes_behind_steps K mg "__init__" "Pass.__init__" s_Passu_initu f_Passu_initu (PySem.W.ksFn "__init__" "Pass.__init__" (defArgs s_Passu_initu) (defBody s_Passu_initu) (defScope s_Passu_initu) .none kV17 dc17 pm17 an17 (.ref cda17) ct17 cc17) C_Pass f_Stepu_initu "self" := ⟨⟨_, _, _, _, _, _, _, _, _, _, rfl, l_Passu_initu, c_Passu_initu, ⟨⟨_, _, _, l_Passu_initu⟩, ⟨_, rfl, rfl⟩, ⟨_, _, _, _, _, _, cl_Passu_initu, cf_Passu_initu, fe_Passu_initu⟩, ⟨_, _, _, ce_Passu_initu⟩, mrC_Pass, suC_Pass, i_Stepu_initu, fi_Stepu_initu, PySem.W.mg_none_of X G zsuper, znoop, ztop⟩⟩, k_Passu_initu⟩
  have F_Planu_initu : FunD K "__init__" "Plan.__init__" (defArgs s_Planu_initu) (defBody s_Planu_initu) (defScope s_Planu_initu) [.ref e_Planu_initu_steps] [] f_Planu_initu (PySem.W.fnOf "__init__" "Plan.__init__" (defArgs s_Planu_initu) (defBody s_Planu_initu) (defScope s_Planu_initu) (.ref tD18) kV18 dc18 pm18 an18 cd18 ct18) := ⟨⟨_, _, _, _, _, _, _, _, _, _, rfl, l_Planu_initu, c_Planu_initu, .inr ⟨by simp, _, _, _, _, rfl, ld_Planu_initu, rfl, (.cons rfl .nil)⟩, .inl rfl⟩, k_Planu_initu⟩
  have F_Plan_of := fun_mk (st := s_Plan_of) l_Plan_of c_Plan_of k_Plan_of
  have F_Plan_read := fun_mk (st := s_Plan_read) l_Plan_read c_Plan_read k_Plan_read
  have F_Plan_writes := fun_mk (st := s_Plan_writes) l_Plan_writes c_Plan_writes k_Plan_writes
  have F_Planu_getitemu := fun_mk (st := s_Planu_getitemu) l_Planu_getitemu c_Planu_getitemu k_Planu_getitemu
  have F_Planu_equ := fun_mk (st := s_Planu_equ) l_Planu_equ c_Planu_equ k_Planu_equ
  have F_Plan_head := fun_mk (st := s_Plan_head) l_Plan_head c_Plan_head k_Plan_head
  have F_Plan_tail := fun_mk (st := s_Plan_tail) l_Plan_tail c_Plan_tail k_Plan_tail
  have F_Plan_after := fun_mk (st := s_Plan_after) l_Plan_after c_Plan_after k_Plan_after
  have F_Imageu_initu := fun_mk (st := s_Imageu_initu) l_Imageu_initu c_Imageu_initu k_Imageu_initu
  have F_Imageu_lenu := fun_mk (st := s_Imageu_lenu) l_Imageu_lenu c_Imageu_lenu k_Imageu_lenu
  have F_Imageu_iteru := fun_mk (st := s_Imageu_iteru) l_Imageu_iteru c_Imageu_iteru k_Imageu_iteru
  have F_Imageu_getitemu := fun_mk (st := s_Imageu_getitemu) l_Imageu_getitemu c_Imageu_getitemu k_Imageu_getitemu
  have F__law_pen := fun_mk (st := s__law_pen) l__law_pen c__law_pen k__law_pen
  have F__law_draw := fun_mk (st := s__law_draw) l__law_draw c__law_draw k__law_draw
  have F__law_step := fun_mk (st := s__law_step) l__law_step c__law_step k__law_step
  have F__law_drawn := fun_mk (st := s__law_drawn) l__law_drawn c__law_drawn k__law_drawn
  have F__law_due := fun_mk (st := s__law_due) l__law_due c__law_due k__law_due
  have F__law_told := fun_mk (st := s__law_told) l__law_told c__law_told k__law_told
  have F__law_shaped := fun_mk (st := s__law_shaped) l__law_shaped c__law_shaped k__law_shaped
  have F__law_plan_right := fun_mk (st := s__law_plan_right) l__law_plan_right c__law_plan_right k__law_plan_right
  have F__law_wide_right := fun_mk (st := s__law_wide_right) l__law_wide_right c__law_wide_right k__law_wide_right
  have F__law_own_right := fun_mk (st := s__law_own_right) l__law_own_right c__law_own_right k__law_own_right
  have F_law := fun_mk (st := s_law) l_law c_law k_law
  have F_BadByteu_initu : Vc.FunS PySem.Challenge.pw_codestitch_k24_bytes_behind_steps K mg "__init__" "BadByte.__init__" s_BadByteu_initu f_BadByteu_initu (PySem.W.ksFn "__init__" "BadByte.__init__" (defArgs s_BadByteu_initu) (defBody s_BadByteu_initu) (defScope s_BadByteu_initu) .none kV42 dc42 pm42 an42 (.ref cda42) ct42 cc42) C_BadByte "self" := ⟨⟨_, _, _, _, _, _, _, _, _, _, rfl, l_BadByteu_initu, c_BadByteu_initu, ⟨⟨_, _, _, l_BadByteu_initu⟩, ⟨_, rfl, rfl⟩, ⟨_, _, _, _, _, _, cl_BadByteu_initu, cf_BadByteu_initu, fe_BadByteu_initu⟩, ⟨_, _, _, ce_BadByteu_initu⟩, mrC_BadByte, suC_BadByte, svC_BadByte, PySem.W.mg_none_of X G zsuper, znoop, ztop⟩⟩, k_BadByteu_initu⟩
  have F_BadAddressu_initu : Vc.FunS PySem.Challenge.pw_codestitch_k24_bytes_behind_steps K mg "__init__" "BadAddress.__init__" s_BadAddressu_initu f_BadAddressu_initu (PySem.W.ksFn "__init__" "BadAddress.__init__" (defArgs s_BadAddressu_initu) (defBody s_BadAddressu_initu) (defScope s_BadAddressu_initu) .none kV43 dc43 pm43 an43 (.ref cda43) ct43 cc43) C_BadAddress "self" := ⟨⟨_, _, _, _, _, _, _, _, _, _, rfl, l_BadAddressu_initu, c_BadAddressu_initu, ⟨⟨_, _, _, l_BadAddressu_initu⟩, ⟨_, rfl, rfl⟩, ⟨_, _, _, _, _, _, cl_BadAddressu_initu, cf_BadAddressu_initu, fe_BadAddressu_initu⟩, ⟨_, _, _, ce_BadAddressu_initu⟩, mrC_BadAddress, suC_BadAddress, svC_BadAddress, PySem.W.mg_none_of X G zsuper, znoop, ztop⟩⟩, k_BadAddressu_initu⟩
  have F_BadStepu_initu : Vc.FunS PySem.Challenge.pw_codestitch_k24_bytes_behind_steps K mg "__init__" "BadStep.__init__" s_BadStepu_initu f_BadStepu_initu (PySem.W.ksFn "__init__" "BadStep.__init__" (defArgs s_BadStepu_initu) (defBody s_BadStepu_initu) (defScope s_BadStepu_initu) .none kV44 dc44 pm44 an44 (.ref cda44) ct44 cc44) C_BadStep "self" := ⟨⟨_, _, _, _, _, _, _, _, _, _, rfl, l_BadStepu_initu, c_BadStepu_initu, ⟨⟨_, _, _, l_BadStepu_initu⟩, ⟨_, rfl, rfl⟩, ⟨_, _, _, _, _, _, cl_BadStepu_initu, cf_BadStepu_initu, fe_BadStepu_initu⟩, ⟨_, _, _, ce_BadStepu_initu⟩, mrC_BadStep, suC_BadStep, svC_BadStep, PySem.W.mg_none_of X G zsuper, znoop, ztop⟩⟩, k_BadStepu_initu⟩
  have T : Txt K mg { C_Step := C_Step, C_Write := C_Write, C_Sync := C_Sync, C_Pass := C_Pass, C_Plan := C_Plan, C_Image := C_Image, f_is_byte := f_is_byte, d_is_byte := PySem.W.fnOf "is_byte" "is_byte" (defArgs s_is_byte) (defBody s_is_byte) (defScope s_is_byte) .none kV1 dc1 pm1 an1 cd1 ct1, f_check_bytes := f_check_bytes, d_check_bytes := PySem.W.fnOf "check_bytes" "check_bytes" (defArgs s_check_bytes) (defBody s_check_bytes) (defScope s_check_bytes) .none kV2 dc2 pm2 an2 cd2 ct2, f_span_of := f_span_of, d_span_of := PySem.W.fnOf "span_of" "span_of" (defArgs s_span_of) (defBody s_span_of) (defScope s_span_of) .none kV3 dc3 pm3 an3 cd3 ct3, f_is_number := f_is_number, d_is_number := PySem.W.fnOf "is_number" "is_number" (defArgs s_is_number) (defBody s_is_number) (defScope s_is_number) .none kV4 dc4 pm4 an4 cd4 ct4, f_split_lines := f_split_lines, d_split_lines := PySem.W.fnOf "split_lines" "split_lines" (defArgs s_split_lines) (defBody s_split_lines) (defScope s_split_lines) .none kV5 dc5 pm5 an5 cd5 ct5, f_stands := f_stands, d_stands := PySem.W.fnOf "stands" "stands" (defArgs s_stands) (defBody s_stands) (defScope s_stands) .none kV6 dc6 pm6 an6 cd6 ct6, f_check_line := f_check_line, d_check_line := PySem.W.fnOf "check_line" "check_line" (defArgs s_check_line) (defBody s_check_line) (defScope s_check_line) .none kV7 dc7 pm7 an7 cd7 ct7, f_read_numbers := f_read_numbers, d_read_numbers := PySem.W.fnOf "read_numbers" "read_numbers" (defArgs s_read_numbers) (defBody s_read_numbers) (defScope s_read_numbers) .none (.ref kD8) dc8 pm8 an8 cd8 ct8, f_read_parts := f_read_parts, d_read_parts := PySem.W.fnOf "read_parts" "read_parts" (defArgs s_read_parts) (defBody s_read_parts) (defScope s_read_parts) .none kV9 dc9 pm9 an9 cd9 ct9, f_step_of := f_step_of, d_step_of := PySem.W.fnOf "step_of" "step_of" (defArgs s_step_of) (defBody s_step_of) (defScope s_step_of) .none kV10 dc10 pm10 an10 cd10 ct10, f_Stepu_initu := f_Stepu_initu, d_Stepu_initu := PySem.W.fnOf "__init__" "Step.__init__" (defArgs s_Stepu_initu) (defBody s_Stepu_initu) (defScope s_Stepu_initu) .none kV11 dc11 pm11 an11 cd11 ct11, f_Step_after := f_Step_after, d_Step_after := PySem.W.fnOf "after" "Step.after" (defArgs s_Step_after) (defBody s_Step_after) (defScope s_Step_after) .none kV12 dc12 pm12 an12 cd12 ct12, f_Stepu_equ := f_Stepu_equ, d_Stepu_equ := PySem.W.fnOf "__eq__" "Step.__eq__" (defArgs s_Stepu_equ) (defBody s_Stepu_equ) (defScope s_Stepu_equ) .none kV13 dc13 pm13 an13 cd13 ct13, f_Writeu_initu := f_Writeu_initu, d_Writeu_initu := PySem.W.ksFn "__init__" "Write.__init__" (defArgs s_Writeu_initu) (defBody s_Writeu_initu) (defScope s_Writeu_initu) .none kV14 dc14 pm14 an14 (.ref cda14) ct14 cc14, f_Write_after := f_Write_after, d_Write_after := PySem.W.fnOf "after" "Write.after" (defArgs s_Write_after) (defBody s_Write_after) (defScope s_Write_after) .none kV15 dc15 pm15 an15 cd15 ct15, f_Syncu_initu := f_Syncu_initu, d_Syncu_initu := PySem.W.ksFn "__init__" "Sync.__init__" (defArgs s_Syncu_initu) (defBody s_Syncu_initu) (defScope s_Syncu_initu) .none kV16 dc16 pm16 an16 (.ref cda16) ct16 cc16, f_Passu_initu := f_Passu_initu, d_Passu_initu := PySem.W.ksFn "__init__" "Pass.__init__" (defArgs s_Passu_initu) (defBody s_Passu_initu) (defScope s_Passu_initu) .none kV17 dc17 pm17 an17 (.ref cda17) ct17 cc17, f_Planu_initu := f_Planu_initu, d_Planu_initu := PySem.W.fnOf "__init__" "Plan.__init__" (defArgs s_Planu_initu) (defBody s_Planu_initu) (defScope s_Planu_initu) (.ref tD18) kV18 dc18 pm18 an18 cd18 ct18, e_Planu_initu_steps := e_Planu_initu_steps, f_Plan_of := f_Plan_of, d_Plan_of := PySem.W.fnOf "of" "Plan.of" (defArgs s_Plan_of) (defBody s_Plan_of) (defScope s_Plan_of) .none kV19 dc19 pm19 an19 cd19 ct19, sm_Plan_of := sm19, f_Plan_read := f_Plan_read, d_Plan_read := PySem.W.fnOf "read" "Plan.read" (defArgs s_Plan_read) (defBody s_Plan_read) (defScope s_Plan_read) .none kV20 dc20 pm20 an20 cd20 ct20, sm_Plan_read := sm20, f_Plan_writes := f_Plan_writes, d_Plan_writes := PySem.W.fnOf "writes" "Plan.writes" (defArgs s_Plan_writes) (defBody s_Plan_writes) (defScope s_Plan_writes) .none kV21 dc21 pm21 an21 cd21 ct21, pr_Plan_writes := pr21, f_Planu_getitemu := f_Planu_getitemu, d_Planu_getitemu := PySem.W.fnOf "__getitem__" "Plan.__getitem__" (defArgs s_Planu_getitemu) (defBody s_Planu_getitemu) (defScope s_Planu_getitemu) .none kV22 dc22 pm22 an22 cd22 ct22, f_Planu_equ := f_Planu_equ, d_Planu_equ := PySem.W.fnOf "__eq__" "Plan.__eq__" (defArgs s_Planu_equ) (defBody s_Planu_equ) (defScope s_Planu_equ) .none kV23 dc23 pm23 an23 cd23 ct23, f_Plan_head := f_Plan_head, d_Plan_head := PySem.W.fnOf "head" "Plan.head" (defArgs s_Plan_head) (defBody s_Plan_head) (defScope s_Plan_head) .none kV24 dc24 pm24 an24 cd24 ct24, f_Plan_tail := f_Plan_tail, d_Plan_tail := PySem.W.fnOf "tail" "Plan.tail" (defArgs s_Plan_tail) (defBody s_Plan_tail) (defScope s_Plan_tail) .none kV25 dc25 pm25 an25 cd25 ct25, f_Plan_after := f_Plan_after, d_Plan_after := PySem.W.fnOf "after" "Plan.after" (defArgs s_Plan_after) (defBody s_Plan_after) (defScope s_Plan_after) .none kV26 dc26 pm26 an26 cd26 ct26, f_Imageu_initu := f_Imageu_initu, d_Imageu_initu := PySem.W.fnOf "__init__" "Image.__init__" (defArgs s_Imageu_initu) (defBody s_Imageu_initu) (defScope s_Imageu_initu) .none kV27 dc27 pm27 an27 cd27 ct27, f_Imageu_lenu := f_Imageu_lenu, d_Imageu_lenu := PySem.W.fnOf "__len__" "Image.__len__" (defArgs s_Imageu_lenu) (defBody s_Imageu_lenu) (defScope s_Imageu_lenu) .none kV28 dc28 pm28 an28 cd28 ct28, f_Imageu_iteru := f_Imageu_iteru, d_Imageu_iteru := PySem.W.fnOf "__iter__" "Image.__iter__" (defArgs s_Imageu_iteru) (defBody s_Imageu_iteru) (defScope s_Imageu_iteru) .none kV29 dc29 pm29 an29 cd29 ct29, f_Imageu_getitemu := f_Imageu_getitemu, d_Imageu_getitemu := PySem.W.fnOf "__getitem__" "Image.__getitem__" (defArgs s_Imageu_getitemu) (defBody s_Imageu_getitemu) (defScope s_Imageu_getitemu) .none kV30 dc30 pm30 an30 cd30 ct30, f__law_pen := f__law_pen, d__law_pen := PySem.W.fnOf "_law_pen" "_law_pen" (defArgs s__law_pen) (defBody s__law_pen) (defScope s__law_pen) .none kV31 dc31 pm31 an31 cd31 ct31, f__law_draw := f__law_draw, d__law_draw := PySem.W.fnOf "_law_draw" "_law_draw" (defArgs s__law_draw) (defBody s__law_draw) (defScope s__law_draw) .none kV32 dc32 pm32 an32 cd32 ct32, f__law_step := f__law_step, d__law_step := PySem.W.fnOf "_law_step" "_law_step" (defArgs s__law_step) (defBody s__law_step) (defScope s__law_step) .none kV33 dc33 pm33 an33 cd33 ct33, f__law_drawn := f__law_drawn, d__law_drawn := PySem.W.fnOf "_law_drawn" "_law_drawn" (defArgs s__law_drawn) (defBody s__law_drawn) (defScope s__law_drawn) .none kV34 dc34 pm34 an34 cd34 ct34, f__law_due := f__law_due, d__law_due := PySem.W.fnOf "_law_due" "_law_due" (defArgs s__law_due) (defBody s__law_due) (defScope s__law_due) .none kV35 dc35 pm35 an35 cd35 ct35, f__law_told := f__law_told, d__law_told := PySem.W.fnOf "_law_told" "_law_told" (defArgs s__law_told) (defBody s__law_told) (defScope s__law_told) .none kV36 dc36 pm36 an36 cd36 ct36, f__law_shaped := f__law_shaped, d__law_shaped := PySem.W.fnOf "_law_shaped" "_law_shaped" (defArgs s__law_shaped) (defBody s__law_shaped) (defScope s__law_shaped) .none kV37 dc37 pm37 an37 cd37 ct37, f__law_plan_right := f__law_plan_right, d__law_plan_right := PySem.W.fnOf "_law_plan_right" "_law_plan_right" (defArgs s__law_plan_right) (defBody s__law_plan_right) (defScope s__law_plan_right) .none kV38 dc38 pm38 an38 cd38 ct38, f__law_wide_right := f__law_wide_right, d__law_wide_right := PySem.W.fnOf "_law_wide_right" "_law_wide_right" (defArgs s__law_wide_right) (defBody s__law_wide_right) (defScope s__law_wide_right) .none kV39 dc39 pm39 an39 cd39 ct39, f__law_own_right := f__law_own_right, d__law_own_right := PySem.W.fnOf "_law_own_right" "_law_own_right" (defArgs s__law_own_right) (defBody s__law_own_right) (defScope s__law_own_right) .none kV40 dc40 pm40 an40 cd40 ct40, f_law := fa, d_law := PySem.W.fnOf "law" "law" (defArgs s_law) (defBody s_law) (defScope s_law) .none kV41 dc41 pm41 an41 cd41 ct41, C_CodeError := C_CodeError, C_BadInput := C_BadInput, C_Word := C_Word, C_BadByte := C_BadByte, f_BadByteu_initu := f_BadByteu_initu, d_BadByteu_initu := PySem.W.ksFn "__init__" "BadByte.__init__" (defArgs s_BadByteu_initu) (defBody s_BadByteu_initu) (defScope s_BadByteu_initu) .none kV42 dc42 pm42 an42 (.ref cda42) ct42 cc42, C_BadAddress := C_BadAddress, f_BadAddressu_initu := f_BadAddressu_initu, d_BadAddressu_initu := PySem.W.ksFn "__init__" "BadAddress.__init__" (defArgs s_BadAddressu_initu) (defBody s_BadAddressu_initu) (defScope s_BadAddressu_initu) .none kV43 dc43 pm43 an43 (.ref cda43) ct43 cc43, C_BadStep := C_BadStep, f_BadStepu_initu := f_BadStepu_initu, d_BadStepu_initu := PySem.W.ksFn "__init__" "BadStep.__init__" (defArgs s_BadStepu_initu) (defBody s_BadStepu_initu) (defScope s_BadStepu_initu) .none kV44 dc44 pm44 an44 (.ref cda44) ct44 cc44 } := {
    g_Step := (PySem.W.mg_of X G aC_Step),
    g_Write := (PySem.W.mg_of X G aC_Write),
    g_Sync := (PySem.W.mg_of X G aC_Sync),
    g_Pass := (PySem.W.mg_of X G aC_Pass),
    g_Plan := (PySem.W.mg_of X G aC_Plan),
    g_Image := (PySem.W.mg_of X G aC_Image),
    g_is_byte := (PySem.W.mg_of X G a_is_byte),
    F_is_byte := (F_is_byte),
    b_is_byte := (F_is_byte.binds (ps := ["value"]) fun _ _ _ _ _ _ us hl => match us, hl with | [_], _ => rfl),
    g_check_bytes := (PySem.W.mg_of X G a_check_bytes),
    F_check_bytes := (F_check_bytes),
    b_check_bytes := (F_check_bytes.binds (ps := ["values"]) fun _ _ _ _ _ _ us hl => match us, hl with | [_], _ => rfl),
    g_span_of := (PySem.W.mg_of X G a_span_of),
    F_span_of := (F_span_of),
    b_span_of := (F_span_of.binds (ps := ["at", "size"]) fun _ _ _ _ _ _ us hl => match us, hl with | [_, _], _ => rfl),
    g_is_number := (PySem.W.mg_of X G a_is_number),
    F_is_number := (F_is_number),
    b_is_number := (F_is_number.binds (ps := ["word"]) fun _ _ _ _ _ _ us hl => match us, hl with | [_], _ => rfl),
    g_split_lines := (PySem.W.mg_of X G a_split_lines),
    F_split_lines := (F_split_lines),
    b_split_lines := (F_split_lines.binds (ps := ["text"]) fun _ _ _ _ _ _ us hl => match us, hl with | [_], _ => rfl),
    g_stands := (PySem.W.mg_of X G a_stands),
    F_stands := (F_stands),
    b_stands := (F_stands.binds (ps := ["word", "kind"]) fun _ _ _ _ _ _ us hl => match us, hl with | [_, _], _ => rfl),
    g_check_line := (PySem.W.mg_of X G a_check_line),
    F_check_line := (F_check_line),
    b_check_line := (F_check_line.binds (ps := ["line", "words", "kinds"]) fun _ _ _ _ _ _ us hl => match us, hl with | [_, _, _], _ => rfl),
    g_read_numbers := (PySem.W.mg_of X G a_read_numbers),
    F_read_numbers := (F_read_numbers),
    g_read_parts := (PySem.W.mg_of X G a_read_parts),
    F_read_parts := (F_read_parts),
    b_read_parts := (F_read_parts.binds (ps := ["line", "words"]) fun _ _ _ _ _ _ us hl => match us, hl with | [_, _], _ => rfl),
    g_step_of := (PySem.W.mg_of X G a_step_of),
    F_step_of := (F_step_of),
    b_step_of := (F_step_of.binds (ps := ["word", "numbers"]) fun _ _ _ _ _ _ us hl => match us, hl with | [_, _], _ => rfl),
    F_Stepu_initu := (F_Stepu_initu),
    b_Stepu_initu := (Vc.Fun.bindsV F_Stepu_initu fun _ _ _ _ _ _ us rest hl => match us, rest, hl with | [_], [], _ => rfl | [_], _ :: _, _ => rfl),
    F_Step_after := (F_Step_after),
    b_Step_after := (F_Step_after.binds (ps := ["self", "values"]) fun _ _ _ _ _ _ us hl => match us, hl with | [_, _], _ => rfl),
    F_Stepu_equ := (F_Stepu_equ),
    b_Stepu_equ := (F_Stepu_equ.binds (ps := ["self", "other"]) fun _ _ _ _ _ _ us hl => match us, hl with | [_, _], _ => rfl),
    F_Writeu_initu := (F_Writeu_initu),
    b_Writeu_initu := (Vc.FunQ.bindsV F_Writeu_initu fun _ _ _ _ _ _ _ us rest hl => match us, rest, hl with | [_, _], [], _ => rfl | [_, _], _ :: _, _ => rfl),
    F_Write_after := (F_Write_after),
    b_Write_after := (F_Write_after.binds (ps := ["self", "values"]) fun _ _ _ _ _ _ us hl => match us, hl with | [_, _], _ => rfl),
    F_Syncu_initu := (F_Syncu_initu),
    b_Syncu_initu := (F_Syncu_initu.binds (ps := ["self"]) fun _ _ _ _ _ _ _ us hl => match us, hl with | [_], _ => rfl),
    F_Passu_initu := (F_Passu_initu),
    b_Passu_initu := (F_Passu_initu.binds (ps := ["self", "stretch"]) fun _ _ _ _ _ _ _ us hl => match us, hl with | [_, _], _ => rfl),
    q_e_Planu_initu_steps := (fun H => .inr ⟨_, _, _, kl_e_Planu_initu_steps, rfl, rfl, by show 0 ≤ sizeLine; decide, .nil⟩),
    F_Planu_initu := (F_Planu_initu),
    b_Planu_initu := (Vc.bindsAll (ps := ["self", "steps"]) F_Planu_initu (by simp) fun _ _ _ _ _ _ _ us its l1 l2 => match us, its, l1, l2 with | [_, _], [_], _, _ => ⟨_, rfl, rfl⟩),
    bd1_Planu_initu := (F_Planu_initu.binds1 (ps := ["self", "steps"]) 1 0 (by simp) (by rfl) fun _ _ _ _ _ _ _ us its l1 l2 => match us, its, l1, l2 with | [_], [_], _, _ => ⟨_, rfl, rfl⟩),
    cm_Plan_of := (⟨sma_Plan_of, ⟨_, smr_Plan_of⟩, fi_Plan_of⟩),
    F_Plan_of := (F_Plan_of),
    b_Plan_of := (Vc.Fun.bindsV F_Plan_of fun _ _ _ _ _ _ us rest hl => match us, rest, hl with | [_], [], _ => rfl | [_], _ :: _, _ => rfl),
    cm_Plan_read := (⟨sma_Plan_read, ⟨_, smr_Plan_read⟩, fi_Plan_read⟩),
    F_Plan_read := (F_Plan_read),
    b_Plan_read := (F_Plan_read.binds (ps := ["cls", "text"]) fun _ _ _ _ _ _ us hl => match us, hl with | [_, _], _ => rfl),
    p_Plan_writes := (⟨pa_Plan_writes, pg_Plan_writes, pt_Plan_writes, ⟨_, prc_Plan_writes⟩⟩),
    F_Plan_writes := (F_Plan_writes),
    b_Plan_writes := (F_Plan_writes.binds (ps := ["self"]) fun _ _ _ _ _ _ us hl => match us, hl with | [_], _ => rfl),
    F_Planu_getitemu := (F_Planu_getitemu),
    b_Planu_getitemu := (F_Planu_getitemu.binds (ps := ["self", "at"]) fun _ _ _ _ _ _ us hl => match us, hl with | [_, _], _ => rfl),
    F_Planu_equ := (F_Planu_equ),
    b_Planu_equ := (F_Planu_equ.binds (ps := ["self", "other"]) fun _ _ _ _ _ _ us hl => match us, hl with | [_, _], _ => rfl),
    F_Plan_head := (F_Plan_head),
    b_Plan_head := (F_Plan_head.binds (ps := ["self", "count"]) fun _ _ _ _ _ _ us hl => match us, hl with | [_, _], _ => rfl),
    F_Plan_tail := (F_Plan_tail),
    b_Plan_tail := (F_Plan_tail.binds (ps := ["self", "count"]) fun _ _ _ _ _ _ us hl => match us, hl with | [_, _], _ => rfl),
    F_Plan_after := (F_Plan_after),
    b_Plan_after := (F_Plan_after.binds (ps := ["self", "values"]) fun _ _ _ _ _ _ us hl => match us, hl with | [_, _], _ => rfl),
    F_Imageu_initu := (F_Imageu_initu),
    b_Imageu_initu := (F_Imageu_initu.binds (ps := ["self", "values"]) fun _ _ _ _ _ _ us hl => match us, hl with | [_, _], _ => rfl),
    F_Imageu_lenu := (F_Imageu_lenu),
    b_Imageu_lenu := (F_Imageu_lenu.binds (ps := ["self"]) fun _ _ _ _ _ _ us hl => match us, hl with | [_], _ => rfl),
    F_Imageu_iteru := (F_Imageu_iteru),
    b_Imageu_iteru := (F_Imageu_iteru.binds (ps := ["self"]) fun _ _ _ _ _ _ us hl => match us, hl with | [_], _ => rfl),
    F_Imageu_getitemu := (F_Imageu_getitemu),
    b_Imageu_getitemu := (F_Imageu_getitemu.binds (ps := ["self", "at"]) fun _ _ _ _ _ _ us hl => match us, hl with | [_, _], _ => rfl),
    g__law_pen := (PySem.W.mg_of X G a__law_pen),
    F__law_pen := (F__law_pen),
    b__law_pen := (F__law_pen.binds (ps := ["_law_script"]) fun _ _ _ _ _ _ us hl => match us, hl with | [_], _ => rfl),
    g__law_draw := (PySem.W.mg_of X G a__law_draw),
    F__law_draw := (F__law_draw),
    b__law_draw := (F__law_draw.binds (ps := ["_law_pen_here", "_law_bound"]) fun _ _ _ _ _ _ us hl => match us, hl with | [_, _], _ => rfl),
    g__law_step := (PySem.W.mg_of X G a__law_step),
    F__law_step := (F__law_step),
    b__law_step := (F__law_step.binds (ps := ["_law_one"]) fun _ _ _ _ _ _ us hl => match us, hl with | [_], _ => rfl),
    g__law_drawn := (PySem.W.mg_of X G a__law_drawn),
    F__law_drawn := (F__law_drawn),
    b__law_drawn := (F__law_drawn.binds (ps := ["_law_pen_here", "_law_size"]) fun _ _ _ _ _ _ us hl => match us, hl with | [_, _], _ => rfl),
    g__law_due := (PySem.W.mg_of X G a__law_due),
    F__law_due := (F__law_due),
    b__law_due := (F__law_due.binds (ps := ["_law_cells", "_law_steps"]) fun _ _ _ _ _ _ us hl => match us, hl with | [_, _], _ => rfl),
    g__law_told := (PySem.W.mg_of X G a__law_told),
    F__law_told := (F__law_told),
    b__law_told := (F__law_told.binds (ps := ["_law_ask"]) fun _ _ _ _ _ _ us hl => match us, hl with | [_], _ => rfl),
    g__law_shaped := (PySem.W.mg_of X G a__law_shaped),
    F__law_shaped := (F__law_shaped),
    b__law_shaped := (F__law_shaped.binds (ps := ["_law_cells", "_law_way"]) fun _ _ _ _ _ _ us hl => match us, hl with | [_, _], _ => rfl),
    g__law_plan_right := (PySem.W.mg_of X G a__law_plan_right),
    F__law_plan_right := (F__law_plan_right),
    b__law_plan_right := (F__law_plan_right.binds (ps := ["_law_pen_here", "_law_cells", "_law_steps"]) fun _ _ _ _ _ _ us hl => match us, hl with | [_, _, _], _ => rfl),
    g__law_wide_right := (PySem.W.mg_of X G a__law_wide_right),
    F__law_wide_right := (F__law_wide_right),
    b__law_wide_right := (F__law_wide_right.binds (ps := ["_law_pen_here", "_law_cells"]) fun _ _ _ _ _ _ us hl => match us, hl with | [_, _], _ => rfl),
    g__law_own_right := (PySem.W.mg_of X G a__law_own_right),
    F__law_own_right := (F__law_own_right),
    b__law_own_right := (F__law_own_right.binds (ps := []) fun _ _ _ _ _ _ us hl => match us, hl with | [], _ => rfl),
    g_law := (PySem.W.mg_of X G a_law),
    F_law := (F_law),
    b_law := (F_law.binds (ps := ["_law_script"]) fun _ _ _ _ _ _ us hl => match us, hl with | [_], _ => rfl),
    cl_Step := (⟨pg_Step, hd_Step, po_Step, sa_Step⟩),
    cl_Write := (⟨pg_Write, hd_Write, po_Write, sa_Write⟩),
    mk_Write := (⟨mk_Write, a_Writeu_initu, i_Writeu_initu, kc_Write⟩),
    no_Write_shown := (no_Write_shown),
    no_Write_address := (no_Write_address),
    no_Write_given := (no_Write_given),
    cl_Sync := (⟨pg_Sync, hd_Sync, po_Sync, sa_Sync⟩),
    mk_Sync := (⟨mk_Sync, a_Syncu_initu, i_Syncu_initu, kc_Sync⟩),
    no_Sync_shown := (no_Sync_shown),
    cl_Pass := (⟨pg_Pass, hd_Pass, po_Pass, sa_Pass⟩),
    mk_Pass := (⟨mk_Pass, a_Passu_initu, i_Passu_initu, kc_Pass⟩),
    no_Pass_shown := (no_Pass_shown),
    no_Pass_stretch := (no_Pass_stretch),
    cl_Plan := (⟨pg_Plan, hd_Plan, po_Plan, sa_Plan⟩),
    mk_Plan := (⟨mk_Plan, a_Planu_initu, i_Planu_initu, kc_Plan⟩),
    m_Plan_head := (⟨a_Plan_head, i_Plan_head, k_Plan_head⟩),
    m_Plan_tail := (⟨a_Plan_tail, i_Plan_tail, k_Plan_tail⟩),
    m_Plan_after := (⟨a_Plan_after, i_Plan_after, k_Plan_after⟩),
    no_Plan_listed := (no_Plan_listed),
    cl_Image := (⟨pg_Image, hd_Image, po_Image, sa_Image⟩),
    mk_Image := (⟨mk_Image, a_Imageu_initu, i_Imageu_initu, kc_Image⟩),
    no_Image_cells := (no_Image_cells),
    n_len := (PySem.W.mg_none_of X G z_len),
    n_abs := (PySem.W.mg_none_of X G z_abs),
    n_int := (PySem.W.mg_none_of X G z_int),
    n_list := (PySem.W.mg_none_of X G z_list),
    n_range := (PySem.W.mg_none_of X G z_range),
    n_isinstance := (PySem.W.mg_none_of X G z_isinstance),
    n_bool := (PySem.W.mg_none_of X G z_bool),
    n_str := (PySem.W.mg_none_of X G z_str),
    n_tuple := (PySem.W.mg_none_of X G z_tuple),
    n_ValueError := (PySem.W.mg_none_of X G z_ValueError),
    n_repr := (PySem.W.mg_none_of X G z_repr),
    n_enumerate := (PySem.W.mg_none_of X G z_enumerate),
    n_sum := (PySem.W.mg_none_of X G z_sum),
    n_any := (PySem.W.mg_none_of X G z_any),
    n_all := (PySem.W.mg_none_of X G z_all),
    n_max := (PySem.W.mg_none_of X G z_max),
    n_min := (PySem.W.mg_none_of X G z_min),
    n_iter := (PySem.W.mg_none_of X G z_iter),
    g_MOST_DIGITS := (⟨_, PySem.W.mg_of X G v_MOST_DIGITS⟩),
    g_MOST_NUMBER := (⟨_, PySem.W.mg_of X G v_MOST_NUMBER⟩),
    g_MOST_ADDRESS := (⟨_, PySem.W.mg_of X G v_MOST_ADDRESS⟩),
    g_DIGITS := (⟨_, PySem.W.mg_of X G v_DIGITS⟩),
    g_CodeError := (PySem.W.mg_of X G aC_CodeError),
    g_BadInput := (PySem.W.mg_of X G aC_BadInput),
    g_Word := (PySem.W.mg_of X G aC_Word),
    g_BadByte := (PySem.W.mg_of X G aC_BadByte),
    ox_BadByte := (⟨⟨_, _, _, _, _, _, _, _, _, _, _, _, _, _, _, lkC_BadByte, bmC_BadByte⟩, saC_BadByte, exC_BadByte, tyC_BadByte, kpC_BadByte⟩),
    i_BadByte := (inC_BadByte),
    ti_BadByte := (tiC_BadByte),
    no_BadByte_at := (noC_BadByte_at),
    xf_BadByte := (⟨gaC_BadByte, ggC_BadByte, exC_BadByte, hdC_BadByte⟩),
    ec_BadByte := (⟨gaC_BadByte, ggC_BadByte, exC_BadByte, hdC_BadByte, gcC_BadByte, zgcn, zgct, moC_BadByte⟩),
    F_BadByteu_initu := (F_BadByteu_initu),
    b_BadByteu_initu := (F_BadByteu_initu.binds (ps := ["self", "at"]) fun _ _ _ _ _ _ _ us hl => match us, hl with | [_, _], _ => rfl),
    g_BadAddress := (PySem.W.mg_of X G aC_BadAddress),
    ox_BadAddress := (⟨⟨_, _, _, _, _, _, _, _, _, _, _, _, _, _, _, lkC_BadAddress, bmC_BadAddress⟩, saC_BadAddress, exC_BadAddress, tyC_BadAddress, kpC_BadAddress⟩),
    i_BadAddress := (inC_BadAddress),
    ti_BadAddress := (tiC_BadAddress),
    no_BadAddress_at := (noC_BadAddress_at),
    xf_BadAddress := (⟨gaC_BadAddress, ggC_BadAddress, exC_BadAddress, hdC_BadAddress⟩),
    ec_BadAddress := (⟨gaC_BadAddress, ggC_BadAddress, exC_BadAddress, hdC_BadAddress, gcC_BadAddress, zgcn, zgct, moC_BadAddress⟩),
    F_BadAddressu_initu := (F_BadAddressu_initu),
    b_BadAddressu_initu := (F_BadAddressu_initu.binds (ps := ["self", "at"]) fun _ _ _ _ _ _ _ us hl => match us, hl with | [_, _], _ => rfl),
    g_BadStep := (PySem.W.mg_of X G aC_BadStep),
    ox_BadStep := (⟨⟨_, _, _, _, _, _, _, _, _, _, _, _, _, _, _, lkC_BadStep, bmC_BadStep⟩, saC_BadStep, exC_BadStep, tyC_BadStep, kpC_BadStep⟩),
    i_BadStep := (inC_BadStep),
    ti_BadStep := (tiC_BadStep),
    no_BadStep_step := (noC_BadStep_step),
    xf_BadStep := (⟨gaC_BadStep, ggC_BadStep, exC_BadStep, hdC_BadStep⟩),
    ec_BadStep := (⟨gaC_BadStep, ggC_BadStep, exC_BadStep, hdC_BadStep, gcC_BadStep, zgcn, zgct, moC_BadStep⟩),
    F_BadStepu_initu := (F_BadStepu_initu),
    b_BadStepu_initu := (F_BadStepu_initu.binds (ps := ["self", "step"]) fun _ _ _ _ _ _ _ us hl => match us, hl with | [_, _], _ => rfl),
    kit_BadAddress_BadAddress := (kit_BadAddress_BadAddress),
    kit_BadAddress_BadInput := (kit_BadAddress_BadInput),
    kit_BadAddress_BadByte := (kit_BadAddress_BadByte),
    kit_BadAddress_BadStep := (kit_BadAddress_BadStep),
    kit_Write_Step := (kit_Write_Step),
    kit_Sync_Step := (kit_Sync_Step),
    kit_Pass_Step := (kit_Pass_Step),
    exm_BadByte_CodeError := (exm_BadByte_CodeError),
    exm_BadAddress_CodeError := (exm_BadAddress_CodeError),
    exm_BadStep_CodeError := (exm_BadStep_CodeError),
    ic_Plan := (⟨⟨pg_Plan, hd_Plan, po_Plan, sa_Plan⟩, icc_Plan, zgcn, zgct, icm_Plan, kit_Plan_Plan⟩),
    ic_Image := (⟨⟨pg_Image, hd_Image, po_Image, sa_Image⟩, icc_Image, zgcn, zgct, icm_Image, kit_Image_Image⟩),
    ic_Write := (⟨⟨pg_Write, hd_Write, po_Write, sa_Write⟩, icc_Write, zgcn, zgct, icm_Write, kit_Write_Write⟩),
    ic_Sync := (⟨⟨pg_Sync, hd_Sync, po_Sync, sa_Sync⟩, icc_Sync, zgcn, zgct, icm_Sync, kit_Sync_Sync⟩),
    ic_Pass := (⟨⟨pg_Pass, hd_Pass, po_Pass, sa_Pass⟩, icc_Pass, zgcn, zgct, icm_Pass, kit_Pass_Pass⟩),
    eq_Plan := (⟨a_Planu_equ, i_Planu_equ⟩),
    ne_Plan := (⟨⟨a_Planu_equ, i_Planu_equ⟩, nee_Plan, icm_Plan⟩),
    kt_list_Image := (kit_list_Image),
    kt_tuple_Image := (kit_tuple_Image),
    nf_Plan_Plan := (nf_Plan_Plan),
    nf_Write_Write := (nf_Write_Write),
    nf_Sync_Write := (nf_Sync_Write),
    nf_Pass_Write := (nf_Pass_Write),
    nf_Write_Sync := (nf_Write_Sync),
    nf_Sync_Sync := (nf_Sync_Sync),
    nf_Pass_Sync := (nf_Pass_Sync),
    nf_Write_Pass := (nf_Write_Pass),
    nf_Sync_Pass := (nf_Sync_Pass),
    nf_Pass_Pass := (nf_Pass_Pass),
    sp_Plan_Planu_getitemu := (⟨a_Planu_getitemu, i_Planu_getitemu⟩),
    spf_Planu_getitemu := (spi_Planu_getitemu),
    sp_Image_Imageu_iteru := (⟨a_Imageu_iteru, i_Imageu_iteru⟩),
    sp_Image_Imageu_lenu := (⟨a_Imageu_lenu, i_Imageu_lenu⟩),
    sp_Image_Imageu_getitemu := (⟨a_Imageu_getitemu, i_Imageu_getitemu⟩),
    spf_Imageu_getitemu := (spi_Imageu_getitemu),
    cr_Plan := (⟨rd_Plan, gat_Plan⟩),
    se_Write := (⟨seq_Write, i_Stepu_equ⟩),
    sr_Write := (⟨_, swr_Write, ⟨_, rfl⟩, srg_Write, by decide +kernel⟩),
    se_Sync := (⟨seq_Sync, i_Stepu_equ⟩),
    sr_Sync := (⟨_, swr_Sync, ⟨_, rfl⟩, srg_Sync, by decide +kernel⟩),
    se_Pass := (⟨seq_Pass, i_Stepu_equ⟩),
    sr_Pass := (⟨_, swr_Pass, ⟨_, rfl⟩, srg_Pass, by decide +kernel⟩),
    m_Write_after := (⟨mA_Write, i_Write_after, k_Write_after⟩),
    m_Sync_after := (⟨mA_Sync, i_Step_after, k_Step_after⟩),
    m_Pass_after := (⟨mA_Pass, i_Step_after, k_Step_after⟩) }
  exact ⟨PySem.W.fnOf "law" "law" (defArgs s_law) (defBody s_law) (defScope s_law) .none kV41 dc41 pm41 an41 cd41 ct41, fun s v => .of_eq rfl, fun base _ _ hTB => ok_law T ⟨Vc.lamB_co lam__law_plan_right, hTB (cl__law_plan_right, Pl__law_plan_right) (by simp), by simp, (Vc.un3 lne__law_plan_right__law_wide_right lne__law_plan_right_law lne__law_wide_right_law).1⟩ ⟨Vc.lamB_co lam__law_wide_right, hTB (cl__law_wide_right, Pl__law_wide_right) (by simp), by simp, (Vc.un3 lne__law_plan_right__law_wide_right lne__law_plan_right_law lne__law_wide_right_law).2.1⟩ ⟨Vc.lamB_co lam_law, hTB (cl_law, Pl_law) (by simp), by simp, (Vc.un3 lne__law_plan_right__law_wide_right lne__law_plan_right_law lne__law_wide_right_law).2.2⟩⟩
def TbN : List (Addr × Str) := [(639, ((("_law_plan_right" : Str) ++ (".<locals>." : Str)) ++ ("<lambda>" : Str))), (644, ((("_law_wide_right" : Str) ++ (".<locals>." : Str)) ++ ("<lambda>" : Str))), (656, ((("law" : Str) ++ (".<locals>." : Str)) ++ ("<lambda>" : Str)))]
theorem all_mk2 {w : World} {K : PySem.W.Frag} {h : Heap} {mg : Str → Option Value} {fa : Addr} (X : K.In h) (G : h.Ns mainGlobals mg) (hfa : mg "law" = some (.ref fa)) (c : Hx.chk faN K = true) (E : fnN.map (Hx.fnQ K) = fnN.map Hx.Dq.val) :
    (∀ p ∈ csN, ∃ (y : Str) (f : Addr), ((recsOf qv).any fun e => e.name == y) = true ∧ mg y = some (.ref f) ∧ Vc.lamB K f p.1 p.2 = true) ∧ ∃ fd : FuncData, (∀ (s : Shared) (v : Value), BindsTo s fd ⟨[v], []⟩ [("_law_script", v)]) ∧ ∀ base : Heap, K.In base → base.Ns mainGlobals mg → (∀ p ∈ csN, LamX.TabB base mg p.1 p.2) → Vc.FnG PySem.Challenge.pw_codestitch_k24_bytes_behind_steps w K mg base CX0 14 fa fd ["_law_script"] (spLaw K TbN) := by
  obtain ⟨B0, c⟩ := Hx.chk_app c
  obtain ⟨B1, c⟩ := Hx.chk_app c
  obtain ⟨B2, c⟩ := Hx.chk_app c
  obtain ⟨B3, c⟩ := Hx.chk_app c
  obtain ⟨B4, c⟩ := Hx.chk_app c
  obtain ⟨B5, c⟩ := Hx.chk_app c
  obtain ⟨B6, c⟩ := Hx.chk_app c
  obtain ⟨B7, c⟩ := Hx.chk_app c
  have B8 : Hx.chk fa8 K = true := c
  have aC_Step : PySem.W.nsIn K mainGlobals "Step" = some (some (.ref 216)) := of_decide_eq_true (Hx.fact B0 0 rfl)
  have aC_Write : PySem.W.nsIn K mainGlobals "Write" = some (some (.ref 246)) := of_decide_eq_true (Hx.fact B0 1 rfl)
  have aC_Sync : PySem.W.nsIn K mainGlobals "Sync" = some (some (.ref 267)) := of_decide_eq_true (Hx.fact B0 2 rfl)
  have aC_Pass : PySem.W.nsIn K mainGlobals "Pass" = some (some (.ref 288)) := of_decide_eq_true (Hx.fact B0 3 rfl)
  have aC_Plan : PySem.W.nsIn K mainGlobals "Plan" = some (some (.ref 478)) := of_decide_eq_true (Hx.fact B0 4 rfl)
  have aC_Image : PySem.W.nsIn K mainGlobals "Image" = some (some (.ref 586)) := of_decide_eq_true (Hx.fact B0 5 rfl)
  have a_is_byte : PySem.W.nsIn K mainGlobals "is_byte" = some (some (.ref 158)) := of_decide_eq_true (Hx.fact B0 6 rfl)
  obtain ⟨oc1, kV1, dc1, pm1, cd1, ct1, od1, an1, sl1, l_is_byte, c_is_byte⟩ := Hx.plain_ok (Hx.at_map E 0 rfl) (Hx.fact B0 7 rfl)
  have k_is_byte : PySem.W.keepIn K (.ref 158) = true := (Hx.fact B0 8 rfl)
  have a_check_bytes : PySem.W.nsIn K mainGlobals "check_bytes" = some (some (.ref 489)) := of_decide_eq_true (Hx.fact B0 9 rfl)
  obtain ⟨oc2, kV2, dc2, pm2, cd2, ct2, od2, an2, sl2, l_check_bytes, c_check_bytes⟩ := Hx.plain_ok (Hx.at_map E 1 rfl) (Hx.fact B0 10 rfl)
  have k_check_bytes : PySem.W.keepIn K (.ref 489) = true := (Hx.fact B0 11 rfl)
  have a_span_of : PySem.W.nsIn K mainGlobals "span_of" = some (some (.ref 496)) := of_decide_eq_true (Hx.fact B0 12 rfl)
  obtain ⟨oc3, kV3, dc3, pm3, cd3, ct3, od3, an3, sl3, l_span_of, c_span_of⟩ := Hx.plain_ok (Hx.at_map E 2 rfl) (Hx.fact B0 13 rfl)
  have k_span_of : PySem.W.keepIn K (.ref 496) = true := (Hx.fact B0 14 rfl)
  have a_is_number : PySem.W.nsIn K mainGlobals "is_number" = some (some (.ref 295)) := of_decide_eq_true (Hx.fact B0 15 rfl)
  obtain ⟨oc4, kV4, dc4, pm4, cd4, ct4, od4, an4, sl4, l_is_number, c_is_number⟩ := Hx.plain_ok (Hx.at_map E 3 rfl) (Hx.fact B0 16 rfl)
  have k_is_number : PySem.W.keepIn K (.ref 295) = true := (Hx.fact B0 17 rfl)
  have a_split_lines : PySem.W.nsIn K mainGlobals "split_lines" = some (some (.ref 300)) := of_decide_eq_true (Hx.fact B0 18 rfl)
  obtain ⟨oc5, kV5, dc5, pm5, cd5, ct5, od5, an5, sl5, l_split_lines, c_split_lines⟩ := Hx.plain_ok (Hx.at_map E 4 rfl) (Hx.fact B0 19 rfl)
  have k_split_lines : PySem.W.keepIn K (.ref 300) = true := (Hx.fact B0 20 rfl)
  have a_stands : PySem.W.nsIn K mainGlobals "stands" = some (some (.ref 307)) := of_decide_eq_true (Hx.fact B0 21 rfl)
  obtain ⟨oc6, kV6, dc6, pm6, cd6, ct6, od6, an6, sl6, l_stands, c_stands⟩ := Hx.plain_ok (Hx.at_map E 5 rfl) (Hx.fact B0 22 rfl)
  have k_stands : PySem.W.keepIn K (.ref 307) = true := (Hx.fact B0 23 rfl)
  have a_check_line : PySem.W.nsIn K mainGlobals "check_line" = some (some (.ref 314)) := of_decide_eq_true (Hx.fact B0 24 rfl)
  obtain ⟨oc7, kV7, dc7, pm7, cd7, ct7, od7, an7, sl7, l_check_line, c_check_line⟩ := Hx.plain_ok (Hx.at_map E 6 rfl) (Hx.fact B0 25 rfl)
  have k_check_line : PySem.W.keepIn K (.ref 314) = true := (Hx.fact B0 26 rfl)
  have a_read_numbers : PySem.W.nsIn K mainGlobals "read_numbers" = some (some (.ref 322)) := of_decide_eq_true (Hx.fact B0 27 rfl)
  obtain ⟨oc8, dc8, pm8, cd8, ct8, od8, an8, sl8, l_read_numbers, c_read_numbers⟩ := Hx.kwd_ok (Hx.at_map E 7 rfl) (Hx.fact B0 28 rfl)
  have k_read_numbers : PySem.W.keepIn K (.ref 322) = true := (Hx.fact B0 29 rfl)
  obtain ⟨t_kn_read_numbers_least, kn_read_numbers_least⟩ := Hx.int_ok (Hx.fact B0 30 rfl)
  have kn_read_numbers_ascending : PySem.W.nsIn K 315 "ascending" = some (some (.bool false)) := of_decide_eq_true (Hx.fact B0 31 rfl)
  have a_read_parts : PySem.W.nsIn K mainGlobals "read_parts" = some (some (.ref 329)) := of_decide_eq_true (Hx.fact B0 32 rfl)
  obtain ⟨oc9, kV9, dc9, pm9, cd9, ct9, od9, an9, sl9, l_read_parts, c_read_parts⟩ := Hx.plain_ok (Hx.at_map E 8 rfl) (Hx.fact B0 33 rfl)
  have k_read_parts : PySem.W.keepIn K (.ref 329) = true := (Hx.fact B0 34 rfl)
  have a_step_of : PySem.W.nsIn K mainGlobals "step_of" = some (some (.ref 334)) := of_decide_eq_true (Hx.fact B0 35 rfl)
  obtain ⟨oc10, kV10, dc10, pm10, cd10, ct10, od10, an10, sl10, l_step_of, c_step_of⟩ := Hx.plain_ok (Hx.at_map E 9 rfl) (Hx.fact B0 36 rfl)
  have k_step_of : PySem.W.keepIn K (.ref 334) = true := (Hx.fact B0 37 rfl)
  have a_Stepu_initu : PySem.W.findIn K (.ref 216) "__init__" = some (some (.ref 186)) := of_decide_eq_true (Hx.fact B0 38 rfl)
  have i_Stepu_initu : PySem.W.isFn K (.ref 186) = true := (Hx.fact B0 39 rfl)
  obtain ⟨oc11, kV11, dc11, pm11, cd11, ct11, od11, an11, sl11, l_Stepu_initu, c_Stepu_initu⟩ := Hx.plain_ok (Hx.at_map E 10 rfl) (Hx.fact B1 0 rfl)
  have k_Stepu_initu : PySem.W.keepIn K (.ref 186) = true := (Hx.fact B1 1 rfl)
  have a_Step_after : PySem.W.findIn K (.ref 216) "after" = some (some (.ref 201)) := of_decide_eq_true (Hx.fact B1 2 rfl)
  have i_Step_after : PySem.W.isFn K (.ref 201) = true := (Hx.fact B1 3 rfl)
  obtain ⟨oc12, kV12, dc12, pm12, cd12, ct12, od12, an12, sl12, l_Step_after, c_Step_after⟩ := Hx.plain_ok (Hx.at_map E 11 rfl) (Hx.fact B1 4 rfl)
  have k_Step_after : PySem.W.keepIn K (.ref 201) = true := (Hx.fact B1 5 rfl)
  have a_Stepu_equ : PySem.W.findIn K (.ref 216) "__eq__" = some (some (.ref 208)) := of_decide_eq_true (Hx.fact B1 6 rfl)
  have i_Stepu_equ : PySem.W.isFn K (.ref 208) = true := (Hx.fact B1 7 rfl)
  obtain ⟨oc13, kV13, dc13, pm13, cd13, ct13, od13, an13, sl13, l_Stepu_equ, c_Stepu_equ⟩ := Hx.plain_ok (Hx.at_map E 12 rfl) (Hx.fact B1 8 rfl)
  have k_Stepu_equ : PySem.W.keepIn K (.ref 208) = true := (Hx.fact B1 9 rfl)
  have a_Writeu_initu : PySem.W.findIn K (.ref 246) "__init__" = some (some (.ref 236)) := of_decide_eq_true (Hx.fact B1 10 rfl)
  have i_Writeu_initu : PySem.W.isFn K (.ref 236) = true := (Hx.fact B1 11 rfl)
  obtain ⟨oc14, kV14, dc14, pm14, ct14, od14, an14, sl14, l_Writeu_initu, c_Writeu_initu⟩ := Hx.sup_ok (Hx.at_map E 13 rfl) (Hx.fact B1 12 rfl)
  have k_Writeu_initu : PySem.W.keepIn K (.ref 236) = true := (Hx.fact B1 13 rfl)
  obtain ⟨ccl14, ccd14, vs14, ccs14, file14, tf14, cl_Writeu_initu, cf_Writeu_initu, fe_Writeu_initu⟩ := Hx.fil_ok (Hx.fact B1 14 rfl)
  obtain ⟨ocl14, ocd14, ocs14, ce_Writeu_initu⟩ := Hx.cel_ok (Hx.fact B1 15 rfl)
  have mrC_Write : PySem.W.mroIn K 246 (.ref 246) = some true := of_decide_eq_true (Hx.fact B1 16 rfl)
  have suC_Write : PySem.W.ks_superIn K 246 246 "__init__" = some (some (.ref 186)) := of_decide_eq_true (Hx.fact B1 17 rfl)
  have fi_Stepu_initu : PySem.W.fnIn K 186 = true := (Hx.fact B1 18 rfl)
  have zsuper : PySem.W.nsIn K mainGlobals "super" = some none := of_decide_eq_true (Hx.fact B1 19 rfl)
  have znoop : PySem.W.nsIn K cStatics "thirdparty.any" = some none := of_decide_eq_true (Hx.fact B1 20 rfl)
  have ztop : ((PySem.Challenge.pw_codestitch_k24_bytes_behind_steps).main.scope.names.lookup ("super" : Str)).isSome = false := by decide +kernel
  have a_Write_after : PySem.W.findIn K (.ref 246) "after" = some (some (.ref 243)) := of_decide_eq_true (Hx.fact B1 21 rfl)
  have i_Write_after : PySem.W.isFn K (.ref 243) = true := (Hx.fact B1 22 rfl)
  obtain ⟨oc15, kV15, dc15, pm15, cd15, ct15, od15, an15, sl15, l_Write_after, c_Write_after⟩ := Hx.plain_ok (Hx.at_map E 14 rfl) (Hx.fact B1 23 rfl)
  have k_Write_after : PySem.W.keepIn K (.ref 243) = true := (Hx.fact B1 24 rfl)
  have a_Syncu_initu : PySem.W.findIn K (.ref 267) "__init__" = some (some (.ref 264)) := of_decide_eq_true (Hx.fact B1 25 rfl)
  have i_Syncu_initu : PySem.W.isFn K (.ref 264) = true := (Hx.fact B1 26 rfl)
  obtain ⟨oc16, kV16, dc16, pm16, ct16, od16, an16, sl16, l_Syncu_initu, c_Syncu_initu⟩ := Hx.sup_ok (Hx.at_map E 15 rfl) (Hx.fact B1 27 rfl)
  have k_Syncu_initu : PySem.W.keepIn K (.ref 264) = true := (Hx.fact B1 28 rfl)
  obtain ⟨ccl16, ccd16, vs16, ccs16, file16, tf16, cl_Syncu_initu, cf_Syncu_initu, fe_Syncu_initu⟩ := Hx.fil_ok (Hx.fact B1 29 rfl)
  obtain ⟨ocl16, ocd16, ocs16, ce_Syncu_initu⟩ := Hx.cel_ok (Hx.fact B1 30 rfl)
  have mrC_Sync : PySem.W.mroIn K 267 (.ref 267) = some true := of_decide_eq_true (Hx.fact B1 31 rfl)
  have suC_Sync : PySem.W.ks_superIn K 267 267 "__init__" = some (some (.ref 186)) := of_decide_eq_true (Hx.fact B1 32 rfl)
  have a_Passu_initu : PySem.W.findIn K (.ref 288) "__init__" = some (some (.ref 285)) := of_decide_eq_true (Hx.fact B1 33 rfl)
  have i_Passu_initu : PySem.W.isFn K (.ref 285) = true := (Hx.fact B1 34 rfl)
  obtain ⟨oc17, kV17, dc17, pm17, ct17, od17, an17, sl17, l_Passu_initu, c_Passu_initu⟩ := Hx.sup_ok (Hx.at_map E 16 rfl) (Hx.fact B1 35 rfl)
  have k_Passu_initu : PySem.W.keepIn K (.ref 285) = true := (Hx.fact B1 36 rfl)
  obtain ⟨ccl17, ccd17, vs17, ccs17, file17, tf17, cl_Passu_initu, cf_Passu_initu, fe_Passu_initu⟩ := Hx.fil_ok (Hx.fact B1 37 rfl)
  obtain ⟨ocl17, ocd17, ocs17, ce_Passu_initu⟩ := Hx.cel_ok (Hx.fact B1 38 rfl)
  have mrC_Pass : PySem.W.mroIn K 288 (.ref 288) = some true := of_decide_eq_true (Hx.fact B1 39 rfl)
  have suC_Pass : PySem.W.ks_superIn K 288 288 "__init__" = some (some (.ref 186)) := of_decide_eq_true (Hx.fact B2 0 rfl)
  have a_Planu_initu : PySem.W.findIn K (.ref 478) "__init__" = some (some (.ref 350)) := of_decide_eq_true (Hx.fact B2 1 rfl)
  have i_Planu_initu : PySem.W.isFn K (.ref 350) = true := (Hx.fact B2 2 rfl)
  obtain ⟨oc18, kV18, dc18, pm18, cd18, ct18, od18, an18, sl18, l_Planu_initu, c_Planu_initu⟩ := Hx.dfl_ok (Hx.at_map E 17 rfl) (Hx.fact B2 3 rfl)
  have k_Planu_initu : PySem.W.keepIn K (.ref 350) = true := (Hx.fact B2 4 rfl)
  obtain ⟨ode_Planu_initu_steps, l_, ne_Planu_initu_steps, sle_Planu_initu_steps, kl_e_Planu_initu_steps, v_⟩ := Hx.seq_ok (Hx.fact B2 5 rfl)
  cases v_
  obtain ⟨odD18, l_, nD18, slD18, ld_Planu_initu, v_⟩ := Hx.seq_ok (Hx.fact B2 6 rfl)
  rcases v_ with _ | ⟨r_, v_⟩
  cases r_
  cases v_
  have sma_Plan_of : PySem.W.findCls K (.ref 478) (.type "type") "of" = some (.get (.builtin "classmethod.__get__") (.ref 359) .none (.ref 478)) := Hx.fcC_ok (Hx.fact B2 7 rfl)
  obtain ⟨rst19, smr_Plan_of⟩ := Hx.rec1_ok (Hx.fact B2 8 rfl)
  have fi_Plan_of : PySem.W.fnIn K 357 = true := (Hx.fact B2 9 rfl)
  obtain ⟨oc19, kV19, dc19, pm19, cd19, ct19, od19, an19, sl19, l_Plan_of, c_Plan_of⟩ := Hx.plain_ok (Hx.at_map E 18 rfl) (Hx.fact B2 10 rfl)
  have k_Plan_of : PySem.W.keepIn K (.ref 357) = true := (Hx.fact B2 11 rfl)
  have sma_Plan_read : PySem.W.findCls K (.ref 478) (.type "type") "read" = some (.get (.builtin "classmethod.__get__") (.ref 367) .none (.ref 478)) := Hx.fcC_ok (Hx.fact B2 12 rfl)
  obtain ⟨rst20, smr_Plan_read⟩ := Hx.rec1_ok (Hx.fact B2 13 rfl)
  have fi_Plan_read : PySem.W.fnIn K 365 = true := (Hx.fact B2 14 rfl)
  obtain ⟨oc20, kV20, dc20, pm20, cd20, ct20, od20, an20, sl20, l_Plan_read, c_Plan_read⟩ := Hx.plain_ok (Hx.at_map E 19 rfl) (Hx.fact B2 15 rfl)
  have k_Plan_read : PySem.W.keepIn K (.ref 365) = true := (Hx.fact B2 16 rfl)
  have pa_Plan_writes : PySem.W.findIn K (.ref 478) "writes" = some (some (.ref 380)) := of_decide_eq_true (Hx.fact B2 17 rfl)
  have pg_Plan_writes : PySem.W.specialIn K (.ref 380) "__get__" = some (some (.builtin "property.__get__")) := of_decide_eq_true (Hx.fact B2 18 rfl)
  have pt_Plan_writes : PySem.W.takesIn K (.ref 380) = some true := of_decide_eq_true (Hx.fact B2 19 rfl)
  obtain ⟨rst21, prc_Plan_writes⟩ := Hx.rec1_ok (Hx.fact B2 20 rfl)
  obtain ⟨oc21, kV21, dc21, pm21, cd21, ct21, od21, an21, sl21, l_Plan_writes, c_Plan_writes⟩ := Hx.plain_ok (Hx.at_map E 20 rfl) (Hx.fact B2 21 rfl)
  have k_Plan_writes : PySem.W.keepIn K (.ref 379) = true := (Hx.fact B2 22 rfl)
  have a_Planu_getitemu : PySem.W.findIn K (.ref 478) "__getitem__" = some (some (.ref 395)) := of_decide_eq_true (Hx.fact B2 23 rfl)
  have i_Planu_getitemu : PySem.W.isFn K (.ref 395) = true := (Hx.fact B2 24 rfl)
  obtain ⟨oc22, kV22, dc22, pm22, cd22, ct22, od22, an22, sl22, l_Planu_getitemu, c_Planu_getitemu⟩ := Hx.plain_ok (Hx.at_map E 21 rfl) (Hx.fact B2 25 rfl)
  have k_Planu_getitemu : PySem.W.keepIn K (.ref 395) = true := (Hx.fact B2 26 rfl)
  have a_Planu_equ : PySem.W.findIn K (.ref 478) "__eq__" = some (some (.ref 428)) := of_decide_eq_true (Hx.fact B2 27 rfl)
  have i_Planu_equ : PySem.W.isFn K (.ref 428) = true := (Hx.fact B2 28 rfl)
  obtain ⟨oc23, kV23, dc23, pm23, cd23, ct23, od23, an23, sl23, l_Planu_equ, c_Planu_equ⟩ := Hx.plain_ok (Hx.at_map E 22 rfl) (Hx.fact B2 29 rfl)
  have k_Planu_equ : PySem.W.keepIn K (.ref 428) = true := (Hx.fact B2 30 rfl)
  have a_Plan_head : PySem.W.findIn K (.ref 478) "head" = some (some (.ref 454)) := of_decide_eq_true (Hx.fact B2 31 rfl)
  have i_Plan_head : PySem.W.isFn K (.ref 454) = true := (Hx.fact B2 32 rfl)
  obtain ⟨oc24, kV24, dc24, pm24, cd24, ct24, od24, an24, sl24, l_Plan_head, c_Plan_head⟩ := Hx.plain_ok (Hx.at_map E 23 rfl) (Hx.fact B2 33 rfl)
  have k_Plan_head : PySem.W.keepIn K (.ref 454) = true := (Hx.fact B2 34 rfl)
  have a_Plan_tail : PySem.W.findIn K (.ref 478) "tail" = some (some (.ref 461)) := of_decide_eq_true (Hx.fact B2 35 rfl)
  have i_Plan_tail : PySem.W.isFn K (.ref 461) = true := (Hx.fact B2 36 rfl)
  obtain ⟨oc25, kV25, dc25, pm25, cd25, ct25, od25, an25, sl25, l_Plan_tail, c_Plan_tail⟩ := Hx.plain_ok (Hx.at_map E 24 rfl) (Hx.fact B2 37 rfl)
  have k_Plan_tail : PySem.W.keepIn K (.ref 461) = true := (Hx.fact B2 38 rfl)
  have a_Plan_after : PySem.W.findIn K (.ref 478) "after" = some (some (.ref 468)) := of_decide_eq_true (Hx.fact B2 39 rfl)
  have i_Plan_after : PySem.W.isFn K (.ref 468) = true := (Hx.fact B3 0 rfl)
  obtain ⟨oc26, kV26, dc26, pm26, cd26, ct26, od26, an26, sl26, l_Plan_after, c_Plan_after⟩ := Hx.plain_ok (Hx.at_map E 25 rfl) (Hx.fact B3 1 rfl)
  have k_Plan_after : PySem.W.keepIn K (.ref 468) = true := (Hx.fact B3 2 rfl)
  have a_Imageu_initu : PySem.W.findIn K (.ref 586) "__init__" = some (some (.ref 515)) := of_decide_eq_true (Hx.fact B3 3 rfl)
  have i_Imageu_initu : PySem.W.isFn K (.ref 515) = true := (Hx.fact B3 4 rfl)
  obtain ⟨oc27, kV27, dc27, pm27, cd27, ct27, od27, an27, sl27, l_Imageu_initu, c_Imageu_initu⟩ := Hx.plain_ok (Hx.at_map E 26 rfl) (Hx.fact B3 5 rfl)
  have k_Imageu_initu : PySem.W.keepIn K (.ref 515) = true := (Hx.fact B3 6 rfl)
  have a_Imageu_lenu : PySem.W.findIn K (.ref 586) "__len__" = some (some (.ref 522)) := of_decide_eq_true (Hx.fact B3 7 rfl)
  have i_Imageu_lenu : PySem.W.isFn K (.ref 522) = true := (Hx.fact B3 8 rfl)
  obtain ⟨oc28, kV28, dc28, pm28, cd28, ct28, od28, an28, sl28, l_Imageu_lenu, c_Imageu_lenu⟩ := Hx.plain_ok (Hx.at_map E 27 rfl) (Hx.fact B3 9 rfl)
  have k_Imageu_lenu : PySem.W.keepIn K (.ref 522) = true := (Hx.fact B3 10 rfl)
  have a_Imageu_iteru : PySem.W.findIn K (.ref 586) "__iter__" = some (some (.ref 529)) := of_decide_eq_true (Hx.fact B3 11 rfl)
  have i_Imageu_iteru : PySem.W.isFn K (.ref 529) = true := (Hx.fact B3 12 rfl)
  obtain ⟨oc29, kV29, dc29, pm29, cd29, ct29, od29, an29, sl29, l_Imageu_iteru, c_Imageu_iteru⟩ := Hx.plain_ok (Hx.at_map E 28 rfl) (Hx.fact B3 13 rfl)
  have k_Imageu_iteru : PySem.W.keepIn K (.ref 529) = true := (Hx.fact B3 14 rfl)
  have a_Imageu_getitemu : PySem.W.findIn K (.ref 586) "__getitem__" = some (some (.ref 543)) := of_decide_eq_true (Hx.fact B3 15 rfl)
  have i_Imageu_getitemu : PySem.W.isFn K (.ref 543) = true := (Hx.fact B3 16 rfl)
  obtain ⟨oc30, kV30, dc30, pm30, cd30, ct30, od30, an30, sl30, l_Imageu_getitemu, c_Imageu_getitemu⟩ := Hx.plain_ok (Hx.at_map E 29 rfl) (Hx.fact B3 17 rfl)
  have k_Imageu_getitemu : PySem.W.keepIn K (.ref 543) = true := (Hx.fact B3 18 rfl)
  have a__law_pen : PySem.W.nsIn K mainGlobals "_law_pen" = some (some (.ref 597)) := of_decide_eq_true (Hx.fact B3 19 rfl)
  obtain ⟨oc31, kV31, dc31, pm31, cd31, ct31, od31, an31, sl31, l__law_pen, c__law_pen⟩ := Hx.plain_ok (Hx.at_map E 30 rfl) (Hx.fact B3 20 rfl)
  have k__law_pen : PySem.W.keepIn K (.ref 597) = true := (Hx.fact B3 21 rfl)
  have a__law_draw : PySem.W.nsIn K mainGlobals "_law_draw" = some (some (.ref 604)) := of_decide_eq_true (Hx.fact B3 22 rfl)
  obtain ⟨oc32, kV32, dc32, pm32, cd32, ct32, od32, an32, sl32, l__law_draw, c__law_draw⟩ := Hx.plain_ok (Hx.at_map E 31 rfl) (Hx.fact B3 23 rfl)
  have k__law_draw : PySem.W.keepIn K (.ref 604) = true := (Hx.fact B3 24 rfl)
  have a__law_step : PySem.W.nsIn K mainGlobals "_law_step" = some (some (.ref 611)) := of_decide_eq_true (Hx.fact B3 25 rfl)
  obtain ⟨oc33, kV33, dc33, pm33, cd33, ct33, od33, an33, sl33, l__law_step, c__law_step⟩ := Hx.plain_ok (Hx.at_map E 32 rfl) (Hx.fact B3 26 rfl)
  have k__law_step : PySem.W.keepIn K (.ref 611) = true := (Hx.fact B3 27 rfl)
  have a__law_drawn : PySem.W.nsIn K mainGlobals "_law_drawn" = some (some (.ref 616)) := of_decide_eq_true (Hx.fact B3 28 rfl)
  obtain ⟨oc34, kV34, dc34, pm34, cd34, ct34, od34, an34, sl34, l__law_drawn, c__law_drawn⟩ := Hx.plain_ok (Hx.at_map E 33 rfl) (Hx.fact B3 29 rfl)
  have k__law_drawn : PySem.W.keepIn K (.ref 616) = true := (Hx.fact B3 30 rfl)
  have a__law_due : PySem.W.nsIn K mainGlobals "_law_due" = some (some (.ref 623)) := of_decide_eq_true (Hx.fact B3 31 rfl)
  obtain ⟨oc35, kV35, dc35, pm35, cd35, ct35, od35, an35, sl35, l__law_due, c__law_due⟩ := Hx.plain_ok (Hx.at_map E 34 rfl) (Hx.fact B3 32 rfl)
  have k__law_due : PySem.W.keepIn K (.ref 623) = true := (Hx.fact B3 33 rfl)
  have a__law_told : PySem.W.nsIn K mainGlobals "_law_told" = some (some (.ref 630)) := of_decide_eq_true (Hx.fact B3 34 rfl)
  obtain ⟨oc36, kV36, dc36, pm36, cd36, ct36, od36, an36, sl36, l__law_told, c__law_told⟩ := Hx.plain_ok (Hx.at_map E 35 rfl) (Hx.fact B3 35 rfl)
  have k__law_told : PySem.W.keepIn K (.ref 630) = true := (Hx.fact B3 36 rfl)
  have a__law_shaped : PySem.W.nsIn K mainGlobals "_law_shaped" = some (some (.ref 637)) := of_decide_eq_true (Hx.fact B3 37 rfl)
  obtain ⟨oc37, kV37, dc37, pm37, cd37, ct37, od37, an37, sl37, l__law_shaped, c__law_shaped⟩ := Hx.plain_ok (Hx.at_map E 36 rfl) (Hx.fact B3 38 rfl)
  have k__law_shaped : PySem.W.keepIn K (.ref 637) = true := (Hx.fact B3 39 rfl)
  have a__law_plan_right : PySem.W.nsIn K mainGlobals "_law_plan_right" = some (some (.ref 642)) := of_decide_eq_true (Hx.fact B4 0 rfl)
  obtain ⟨oc38, kV38, dc38, pm38, cd38, ct38, od38, an38, sl38, l__law_plan_right, c__law_plan_right⟩ := Hx.plain_ok (Hx.at_map E 37 rfl) (Hx.fact B4 1 rfl)
  have k__law_plan_right : PySem.W.keepIn K (.ref 642) = true := (Hx.fact B4 2 rfl)
  have a__law_wide_right : PySem.W.nsIn K mainGlobals "_law_wide_right" = some (some (.ref 647)) := of_decide_eq_true (Hx.fact B4 3 rfl)
  obtain ⟨oc39, kV39, dc39, pm39, cd39, ct39, od39, an39, sl39, l__law_wide_right, c__law_wide_right⟩ := Hx.plain_ok (Hx.at_map E 38 rfl) (Hx.fact B4 4 rfl)
  have k__law_wide_right : PySem.W.keepIn K (.ref 647) = true := (Hx.fact B4 5 rfl)
  have a__law_own_right : PySem.W.nsIn K mainGlobals "_law_own_right" = some (some (.ref 654)) := of_decide_eq_true (Hx.fact B4 6 rfl)
  obtain ⟨oc40, kV40, dc40, pm40, cd40, ct40, od40, an40, sl40, l__law_own_right, c__law_own_right⟩ := Hx.plain_ok (Hx.at_map E 39 rfl) (Hx.fact B4 7 rfl)
  have k__law_own_right : PySem.W.keepIn K (.ref 654) = true := (Hx.fact B4 8 rfl)
  have a_law : PySem.W.nsIn K mainGlobals "law" = some (some (.ref 659)) := of_decide_eq_true (Hx.fact B4 9 rfl)
  obtain ⟨oc41, kV41, dc41, pm41, cd41, ct41, od41, an41, sl41, l_law, c_law⟩ := Hx.plain_ok (Hx.at_map E 40 rfl) (Hx.fact B4 10 rfl)
  have k_law : PySem.W.keepIn K (.ref 659) = true := (Hx.fact B4 11 rfl)
  have pg_Step : PySem.W.plainGet K 216 Str.empty = true := (Hx.fact B4 12 rfl)
  have hd_Step : PySem.W.hasDictIn K 216 = true := (Hx.fact B4 13 rfl)
  have po_Step : PySem.W.plainOver K 216 = true := (Hx.fact B4 14 rfl)
  have sa_Step : PySem.W.findIn K (.ref 216) "__setattr__" = some (some (.builtin "object.__setattr__")) := of_decide_eq_true (Hx.fact B4 15 rfl)
  have pg_Write : PySem.W.plainGet K 246 Str.empty = true := (Hx.fact B4 16 rfl)
  have hd_Write : PySem.W.hasDictIn K 246 = true := (Hx.fact B4 17 rfl)
  have po_Write : PySem.W.plainOver K 246 = true := (Hx.fact B4 18 rfl)
  have sa_Write : PySem.W.findIn K (.ref 246) "__setattr__" = some (some (.builtin "object.__setattr__")) := of_decide_eq_true (Hx.fact B4 19 rfl)
  have mk_Write : PySem.W.makesIn K 246 = true := (Hx.fact B4 20 rfl)
  have kc_Write : PySem.W.keepIn K (.ref 246) = true := (Hx.fact B4 21 rfl)
  have no_Write_shown : PySem.W.findIn K (.ref 246) "shown" = some none := of_decide_eq_true (Hx.fact B4 22 rfl)
  have no_Write_address : PySem.W.findIn K (.ref 246) "address" = some none := of_decide_eq_true (Hx.fact B4 23 rfl)
  have no_Write_given : PySem.W.findIn K (.ref 246) "given" = some none := of_decide_eq_true (Hx.fact B4 24 rfl)
  have pg_Sync : PySem.W.plainGet K 267 Str.empty = true := (Hx.fact B4 25 rfl)
  have hd_Sync : PySem.W.hasDictIn K 267 = true := (Hx.fact B4 26 rfl)
  have po_Sync : PySem.W.plainOver K 267 = true := (Hx.fact B4 27 rfl)
  have sa_Sync : PySem.W.findIn K (.ref 267) "__setattr__" = some (some (.builtin "object.__setattr__")) := of_decide_eq_true (Hx.fact B4 28 rfl)
  have mk_Sync : PySem.W.makesIn K 267 = true := (Hx.fact B4 29 rfl)
  have kc_Sync : PySem.W.keepIn K (.ref 267) = true := (Hx.fact B4 30 rfl)
  have no_Sync_shown : PySem.W.findIn K (.ref 267) "shown" = some none := of_decide_eq_true (Hx.fact B4 31 rfl)
  have pg_Pass : PySem.W.plainGet K 288 Str.empty = true := (Hx.fact B4 32 rfl)
  have hd_Pass : PySem.W.hasDictIn K 288 = true := (Hx.fact B4 33 rfl)
  have po_Pass : PySem.W.plainOver K 288 = true := (Hx.fact B4 34 rfl)
  have sa_Pass : PySem.W.findIn K (.ref 288) "__setattr__" = some (some (.builtin "object.__setattr__")) := of_decide_eq_true (Hx.fact B4 35 rfl)
  have mk_Pass : PySem.W.makesIn K 288 = true := (Hx.fact B4 36 rfl)
  have kc_Pass : PySem.W.keepIn K (.ref 288) = true := (Hx.fact B4 37 rfl)
  have no_Pass_shown : PySem.W.findIn K (.ref 288) "shown" = some none := of_decide_eq_true (Hx.fact B4 38 rfl)
  have no_Pass_stretch : PySem.W.findIn K (.ref 288) "stretch" = some none := of_decide_eq_true (Hx.fact B4 39 rfl)
  have pg_Plan : PySem.W.plainGet K 478 Str.empty = true := (Hx.fact B5 0 rfl)
  have hd_Plan : PySem.W.hasDictIn K 478 = true := (Hx.fact B5 1 rfl)
  have po_Plan : PySem.W.plainOver K 478 = true := (Hx.fact B5 2 rfl)
  have sa_Plan : PySem.W.findIn K (.ref 478) "__setattr__" = some (some (.builtin "object.__setattr__")) := of_decide_eq_true (Hx.fact B5 3 rfl)
  have mk_Plan : PySem.W.makesIn K 478 = true := (Hx.fact B5 4 rfl)
  have kc_Plan : PySem.W.keepIn K (.ref 478) = true := (Hx.fact B5 5 rfl)
  have no_Plan_listed : PySem.W.findIn K (.ref 478) "listed" = some none := of_decide_eq_true (Hx.fact B5 6 rfl)
  have pg_Image : PySem.W.plainGet K 586 Str.empty = true := (Hx.fact B5 7 rfl)
  have hd_Image : PySem.W.hasDictIn K 586 = true := (Hx.fact B5 8 rfl)
  have po_Image : PySem.W.plainOver K 586 = true := (Hx.fact B5 9 rfl)
  have sa_Image : PySem.W.findIn K (.ref 586) "__setattr__" = some (some (.builtin "object.__setattr__")) := of_decide_eq_true (Hx.fact B5 10 rfl)
  have mk_Image : PySem.W.makesIn K 586 = true := (Hx.fact B5 11 rfl)
  have kc_Image : PySem.W.keepIn K (.ref 586) = true := (Hx.fact B5 12 rfl)
  have no_Image_cells : PySem.W.findIn K (.ref 586) "cells" = some none := of_decide_eq_true (Hx.fact B5 13 rfl)
  have z_len : PySem.W.nsIn K mainGlobals "len" = some none := of_decide_eq_true (Hx.fact B5 14 rfl)
  have z_abs : PySem.W.nsIn K mainGlobals "abs" = some none := of_decide_eq_true (Hx.fact B5 15 rfl)
  have z_int : PySem.W.nsIn K mainGlobals "int" = some none := of_decide_eq_true (Hx.fact B5 16 rfl)
  have z_list : PySem.W.nsIn K mainGlobals "list" = some none := of_decide_eq_true (Hx.fact B5 17 rfl)
  have z_range : PySem.W.nsIn K mainGlobals "range" = some none := of_decide_eq_true (Hx.fact B5 18 rfl)
  have z_isinstance : PySem.W.nsIn K mainGlobals "isinstance" = some none := of_decide_eq_true (Hx.fact B5 19 rfl)
  have z_bool : PySem.W.nsIn K mainGlobals "bool" = some none := of_decide_eq_true (Hx.fact B5 20 rfl)
  have z_str : PySem.W.nsIn K mainGlobals "str" = some none := of_decide_eq_true (Hx.fact B5 21 rfl)
  have z_tuple : PySem.W.nsIn K mainGlobals "tuple" = some none := of_decide_eq_true (Hx.fact B5 22 rfl)
  have z_ValueError : PySem.W.nsIn K mainGlobals "ValueError" = some none := of_decide_eq_true (Hx.fact B5 23 rfl)
  have z_repr : PySem.W.nsIn K mainGlobals "repr" = some none := of_decide_eq_true (Hx.fact B5 24 rfl)
  have z_enumerate : PySem.W.nsIn K mainGlobals "enumerate" = some none := of_decide_eq_true (Hx.fact B5 25 rfl)
  have z_sum : PySem.W.nsIn K mainGlobals "sum" = some none := of_decide_eq_true (Hx.fact B5 26 rfl)
  have z_any : PySem.W.nsIn K mainGlobals "any" = some none := of_decide_eq_true (Hx.fact B5 27 rfl)
  have z_all : PySem.W.nsIn K mainGlobals "all" = some none := of_decide_eq_true (Hx.fact B5 28 rfl)
  have z_max : PySem.W.nsIn K mainGlobals "max" = some none := of_decide_eq_true (Hx.fact B5 29 rfl)
  have z_min : PySem.W.nsIn K mainGlobals "min" = some none := of_decide_eq_true (Hx.fact B5 30 rfl)
  have z_iter : PySem.W.nsIn K mainGlobals "iter" = some none := of_decide_eq_true (Hx.fact B5 31 rfl)
  obtain ⟨t_MOST_DIGITS, v_MOST_DIGITS⟩ := Hx.int_ok (Hx.fact B5 32 rfl)
  obtain ⟨t_MOST_NUMBER, v_MOST_NUMBER⟩ := Hx.int_ok (Hx.fact B5 33 rfl)
  obtain ⟨t_MOST_ADDRESS, v_MOST_ADDRESS⟩ := Hx.int_ok (Hx.fact B5 34 rfl)
  obtain ⟨t_DIGITS, v_DIGITS⟩ := Hx.str_ok (Hx.fact B5 35 rfl)
  have aC_CodeError : PySem.W.nsIn K mainGlobals "CodeError" = some (some (.ref 31)) := of_decide_eq_true (Hx.fact B5 36 rfl)
  have aC_BadInput : PySem.W.nsIn K mainGlobals "BadInput" = some (some (.ref 44)) := of_decide_eq_true (Hx.fact B5 37 rfl)
  have aC_Word : PySem.W.nsIn K mainGlobals "Word" = some (some (.ref 168)) := of_decide_eq_true (Hx.fact B5 38 rfl)
  have zgcn : PySem.W.specialIn K (.builtin "object.__class__") "__get__" = some (some (.builtin "getset_descriptor.__get__")) := of_decide_eq_true (Hx.fact B5 39 rfl)
  have zgct : PySem.W.takesIn K (.builtin "object.__class__") = some true := of_decide_eq_true (Hx.fact B6 0 rfl)
  have aC_BadByte : PySem.W.nsIn K mainGlobals "BadByte" = some (some (.ref 65)) := of_decide_eq_true (Hx.fact B6 1 rfl)
  obtain ⟨nm42, q42, N42, bs42, bm42, sn42, sub42, ab42, col42, dd42, ka42, kb42, kc42, kd42, ke42, lkC_BadByte, bmC_BadByte⟩ := Hx.exc_ok (Hx.fact B6 2 rfl)
  have saC_BadByte : PySem.W.findIn K (.ref 65) "__setattr__" = some (some (.builtin "object.__setattr__")) := of_decide_eq_true (Hx.fact B6 3 rfl)
  have exC_BadByte : PySem.W.subIn K (.ref 65) (.type "BaseException") = some true := of_decide_eq_true (Hx.fact B6 4 rfl)
  have tyC_BadByte : PySem.W.typeIn K (.ref 65) = some (.type "type") := of_decide_eq_true (Hx.fact B6 5 rfl)
  have kpC_BadByte : PySem.W.keepIn K (.ref 65) = true := (Hx.fact B6 6 rfl)
  have inC_BadByte : PySem.W.findIn K (.ref 65) "__init__" = some (some (.ref 62)) := of_decide_eq_true (Hx.fact B6 7 rfl)
  have tiC_BadByte : PySem.W.typeIn K (.ref 62) = some (.type "function") := of_decide_eq_true (Hx.fact B6 8 rfl)
  have noC_BadByte_at : PySem.W.findIn K (.ref 65) "at" = some none := of_decide_eq_true (Hx.fact B6 9 rfl)
  have gaC_BadByte : PySem.W.findIn K (.ref 65) "__getattribute__" = some (some (.builtin "BaseException.__getattribute__")) := of_decide_eq_true (Hx.fact B6 10 rfl)
  have ggC_BadByte : PySem.W.findIn K (.ref 65) "__getattr__" = some none := of_decide_eq_true (Hx.fact B6 11 rfl)
  have hdC_BadByte : PySem.W.hasDictIn K 65 = true := (Hx.fact B6 12 rfl)
  have gcC_BadByte : PySem.W.findIn K (.ref 65) "__class__" = some (some (.builtin "object.__class__")) := of_decide_eq_true (Hx.fact B6 13 rfl)
  have moC_BadByte : PySem.W.mroIn K 65 (.type "object") = some true := of_decide_eq_true (Hx.fact B6 14 rfl)
  obtain ⟨oc42, kV42, dc42, pm42, ct42, od42, an42, sl42, l_BadByteu_initu, c_BadByteu_initu⟩ := Hx.sup_ok (Hx.at_map E 41 rfl) (Hx.fact B6 15 rfl)
  have k_BadByteu_initu : PySem.W.keepIn K (.ref 62) = true := (Hx.fact B6 16 rfl)
  obtain ⟨ccl42, ccd42, vs42, ccs42, file42, tf42, cl_BadByteu_initu, cf_BadByteu_initu, fe_BadByteu_initu⟩ := Hx.fil_ok (Hx.fact B6 17 rfl)
  obtain ⟨ocl42, ocd42, ocs42, ce_BadByteu_initu⟩ := Hx.cel_ok (Hx.fact B6 18 rfl)
  have mrC_BadByte : PySem.W.mroIn K 65 (.ref 65) = some true := of_decide_eq_true (Hx.fact B6 19 rfl)
  have suC_BadByte : PySem.W.ks_superIn K 65 65 "__init__" = some (some (.builtin "ValueError.__init__")) := of_decide_eq_true (Hx.fact B6 20 rfl)
  have svC_BadByte : PySem.W.subIn K (.ref 65) (.type "ValueError") = some true := of_decide_eq_true (Hx.fact B6 21 rfl)
  have aC_BadAddress : PySem.W.nsIn K mainGlobals "BadAddress" = some (some (.ref 86)) := of_decide_eq_true (Hx.fact B6 22 rfl)
  obtain ⟨nm43, q43, N43, bs43, bm43, sn43, sub43, ab43, col43, dd43, ka43, kb43, kc43, kd43, ke43, lkC_BadAddress, bmC_BadAddress⟩ := Hx.exc_ok (Hx.fact B6 23 rfl)
  have saC_BadAddress : PySem.W.findIn K (.ref 86) "__setattr__" = some (some (.builtin "object.__setattr__")) := of_decide_eq_true (Hx.fact B6 24 rfl)
  have exC_BadAddress : PySem.W.subIn K (.ref 86) (.type "BaseException") = some true := of_decide_eq_true (Hx.fact B6 25 rfl)
  have tyC_BadAddress : PySem.W.typeIn K (.ref 86) = some (.type "type") := of_decide_eq_true (Hx.fact B6 26 rfl)
  have kpC_BadAddress : PySem.W.keepIn K (.ref 86) = true := (Hx.fact B6 27 rfl)
  have inC_BadAddress : PySem.W.findIn K (.ref 86) "__init__" = some (some (.ref 83)) := of_decide_eq_true (Hx.fact B6 28 rfl)
  have tiC_BadAddress : PySem.W.typeIn K (.ref 83) = some (.type "function") := of_decide_eq_true (Hx.fact B6 29 rfl)
  have noC_BadAddress_at : PySem.W.findIn K (.ref 86) "at" = some none := of_decide_eq_true (Hx.fact B6 30 rfl)
  have gaC_BadAddress : PySem.W.findIn K (.ref 86) "__getattribute__" = some (some (.builtin "BaseException.__getattribute__")) := of_decide_eq_true (Hx.fact B6 31 rfl)
  have ggC_BadAddress : PySem.W.findIn K (.ref 86) "__getattr__" = some none := of_decide_eq_true (Hx.fact B6 32 rfl)
  have hdC_BadAddress : PySem.W.hasDictIn K 86 = true := (Hx.fact B6 33 rfl)
  have gcC_BadAddress : PySem.W.findIn K (.ref 86) "__class__" = some (some (.builtin "object.__class__")) := of_decide_eq_true (Hx.fact B6 34 rfl)
  have moC_BadAddress : PySem.W.mroIn K 86 (.type "object") = some true := of_decide_eq_true (Hx.fact B6 35 rfl)
  obtain ⟨oc43, kV43, dc43, pm43, ct43, od43, an43, sl43, l_BadAddressu_initu, c_BadAddressu_initu⟩ := Hx.sup_ok (Hx.at_map E 42 rfl) (Hx.fact B6 36 rfl)
  have k_BadAddressu_initu : PySem.W.keepIn K (.ref 83) = true := (Hx.fact B6 37 rfl)
  obtain ⟨ccl43, ccd43, vs43, ccs43, file43, tf43, cl_BadAddressu_initu, cf_BadAddressu_initu, fe_BadAddressu_initu⟩ := Hx.fil_ok (Hx.fact B6 38 rfl)
  obtain ⟨ocl43, ocd43, ocs43, ce_BadAddressu_initu⟩ := Hx.cel_ok (Hx.fact B6 39 rfl)
  have mrC_BadAddress : PySem.W.mroIn K 86 (.ref 86) = some true := of_decide_eq_true (Hx.fact B7 0 rfl)
  have suC_BadAddress : PySem.W.ks_superIn K 86 86 "__init__" = some (some (.builtin "ValueError.__init__")) := of_decide_eq_true (Hx.fact B7 1 rfl)
  have svC_BadAddress : PySem.W.subIn K (.ref 86) (.type "ValueError") = some true := of_decide_eq_true (Hx.fact B7 2 rfl)
  have aC_BadStep : PySem.W.nsIn K mainGlobals "BadStep" = some (some (.ref 128)) := of_decide_eq_true (Hx.fact B7 3 rfl)
  obtain ⟨nm44, q44, N44, bs44, bm44, sn44, sub44, ab44, col44, dd44, ka44, kb44, kc44, kd44, ke44, lkC_BadStep, bmC_BadStep⟩ := Hx.exc_ok (Hx.fact B7 4 rfl)
  have saC_BadStep : PySem.W.findIn K (.ref 128) "__setattr__" = some (some (.builtin "object.__setattr__")) := of_decide_eq_true (Hx.fact B7 5 rfl)
  have exC_BadStep : PySem.W.subIn K (.ref 128) (.type "BaseException") = some true := of_decide_eq_true (Hx.fact B7 6 rfl)
  have tyC_BadStep : PySem.W.typeIn K (.ref 128) = some (.type "type") := of_decide_eq_true (Hx.fact B7 7 rfl)
  have kpC_BadStep : PySem.W.keepIn K (.ref 128) = true := (Hx.fact B7 8 rfl)
  have inC_BadStep : PySem.W.findIn K (.ref 128) "__init__" = some (some (.ref 125)) := of_decide_eq_true (Hx.fact B7 9 rfl)
  have tiC_BadStep : PySem.W.typeIn K (.ref 125) = some (.type "function") := of_decide_eq_true (Hx.fact B7 10 rfl)
  have noC_BadStep_step : PySem.W.findIn K (.ref 128) "step" = some none := of_decide_eq_true (Hx.fact B7 11 rfl)
  have gaC_BadStep : PySem.W.findIn K (.ref 128) "__getattribute__" = some (some (.builtin "BaseException.__getattribute__")) := of_decide_eq_true (Hx.fact B7 12 rfl)
  have ggC_BadStep : PySem.W.findIn K (.ref 128) "__getattr__" = some none := of_decide_eq_true (Hx.fact B7 13 rfl)
  have hdC_BadStep : PySem.W.hasDictIn K 128 = true := (Hx.fact B7 14 rfl)
  have gcC_BadStep : PySem.W.findIn K (.ref 128) "__class__" = some (some (.builtin "object.__class__")) := of_decide_eq_true (Hx.fact B7 15 rfl)
  have moC_BadStep : PySem.W.mroIn K 128 (.type "object") = some true := of_decide_eq_true (Hx.fact B7 16 rfl)
  obtain ⟨oc44, kV44, dc44, pm44, ct44, od44, an44, sl44, l_BadStepu_initu, c_BadStepu_initu⟩ := Hx.sup_ok (Hx.at_map E 43 rfl) (Hx.fact B7 17 rfl)
  have k_BadStepu_initu : PySem.W.keepIn K (.ref 125) = true := (Hx.fact B7 18 rfl)
  obtain ⟨ccl44, ccd44, vs44, ccs44, file44, tf44, cl_BadStepu_initu, cf_BadStepu_initu, fe_BadStepu_initu⟩ := Hx.fil_ok (Hx.fact B7 19 rfl)
  obtain ⟨ocl44, ocd44, ocs44, ce_BadStepu_initu⟩ := Hx.cel_ok (Hx.fact B7 20 rfl)
  have mrC_BadStep : PySem.W.mroIn K 128 (.ref 128) = some true := of_decide_eq_true (Hx.fact B7 21 rfl)
  have suC_BadStep : PySem.W.ks_superIn K 128 128 "__init__" = some (some (.builtin "ValueError.__init__")) := of_decide_eq_true (Hx.fact B7 22 rfl)
  have svC_BadStep : PySem.W.subIn K (.ref 128) (.type "ValueError") = some true := of_decide_eq_true (Hx.fact B7 23 rfl)
  have kit_BadAddress_BadAddress : PySem.W.kitOne K (.ref 86) (.ref 86) = some true := of_decide_eq_true (Hx.fact B7 24 rfl)
  have kit_BadAddress_BadInput : PySem.W.kitOne K (.ref 86) (.ref 44) = some true := of_decide_eq_true (Hx.fact B7 25 rfl)
  have kit_BadAddress_BadByte : PySem.W.kitOne K (.ref 86) (.ref 65) = some false := of_decide_eq_true (Hx.fact B7 26 rfl)
  have kit_BadAddress_BadStep : PySem.W.kitOne K (.ref 86) (.ref 128) = some false := of_decide_eq_true (Hx.fact B7 27 rfl)
  have kit_Write_Step : PySem.W.kitOne K (.ref 246) (.ref 216) = some true := of_decide_eq_true (Hx.fact B7 28 rfl)
  have kit_Sync_Step : PySem.W.kitOne K (.ref 267) (.ref 216) = some true := of_decide_eq_true (Hx.fact B7 29 rfl)
  have kit_Pass_Step : PySem.W.kitOne K (.ref 288) (.ref 216) = some true := of_decide_eq_true (Hx.fact B7 30 rfl)
  have exm_BadByte_CodeError : PySem.W.exmOne K (.ref 65) (.ref 31) = some true := of_decide_eq_true (Hx.fact B7 31 rfl)
  have exm_BadAddress_CodeError : PySem.W.exmOne K (.ref 86) (.ref 31) = some true := of_decide_eq_true (Hx.fact B7 32 rfl)
  have exm_BadStep_CodeError : PySem.W.exmOne K (.ref 128) (.ref 31) = some true := of_decide_eq_true (Hx.fact B7 33 rfl)
  have icc_Plan : PySem.W.findIn K (.ref 478) "__class__" = some (some (.builtin "object.__class__")) := of_decide_eq_true (Hx.fact B7 34 rfl)
  have icm_Plan : PySem.W.mroIn K 478 (.type "object") = some true := of_decide_eq_true (Hx.fact B7 35 rfl)
  have kit_Plan_Plan : PySem.W.kitOne K (.ref 478) (.ref 478) = some true := of_decide_eq_true (Hx.fact B7 36 rfl)
  have icc_Image : PySem.W.findIn K (.ref 586) "__class__" = some (some (.builtin "object.__class__")) := of_decide_eq_true (Hx.fact B7 37 rfl)
  have icm_Image : PySem.W.mroIn K 586 (.type "object") = some true := of_decide_eq_true (Hx.fact B7 38 rfl)
  have kit_Image_Image : PySem.W.kitOne K (.ref 586) (.ref 586) = some true := of_decide_eq_true (Hx.fact B7 39 rfl)
  have icc_Write : PySem.W.findIn K (.ref 246) "__class__" = some (some (.builtin "object.__class__")) := of_decide_eq_true (Hx.fact B8 0 rfl)
  have icm_Write : PySem.W.mroIn K 246 (.type "object") = some true := of_decide_eq_true (Hx.fact B8 1 rfl)
  have kit_Write_Write : PySem.W.kitOne K (.ref 246) (.ref 246) = some true := of_decide_eq_true (Hx.fact B8 2 rfl)
  have icc_Sync : PySem.W.findIn K (.ref 267) "__class__" = some (some (.builtin "object.__class__")) := of_decide_eq_true (Hx.fact B8 3 rfl)
  have icm_Sync : PySem.W.mroIn K 267 (.type "object") = some true := of_decide_eq_true (Hx.fact B8 4 rfl)
  have kit_Sync_Sync : PySem.W.kitOne K (.ref 267) (.ref 267) = some true := of_decide_eq_true (Hx.fact B8 5 rfl)
  have icc_Pass : PySem.W.findIn K (.ref 288) "__class__" = some (some (.builtin "object.__class__")) := of_decide_eq_true (Hx.fact B8 6 rfl)
  have icm_Pass : PySem.W.mroIn K 288 (.type "object") = some true := of_decide_eq_true (Hx.fact B8 7 rfl)
  have kit_Pass_Pass : PySem.W.kitOne K (.ref 288) (.ref 288) = some true := of_decide_eq_true (Hx.fact B8 8 rfl)
  have nee_Plan : PySem.W.findIn K (.ref 478) "__ne__" = some (some (.builtin "object.__ne__")) := of_decide_eq_true (Hx.fact B8 9 rfl)
  have kit_list_Image : PySem.W.kitOne K (.type "list") (.ref 586) = some false := of_decide_eq_true (Hx.fact B8 10 rfl)
  have kit_tuple_Image : PySem.W.kitOne K (.type "tuple") (.ref 586) = some false := of_decide_eq_true (Hx.fact B8 11 rfl)
  have nf_Plan_Plan : PySem.W.notFirst K 478 (.ref 478) = true := (Hx.fact B8 12 rfl)
  have nf_Write_Write : PySem.W.notFirst K 246 (.ref 246) = true := (Hx.fact B8 13 rfl)
  have nf_Sync_Write : PySem.W.notFirst K 246 (.ref 267) = true := (Hx.fact B8 14 rfl)
  have nf_Pass_Write : PySem.W.notFirst K 246 (.ref 288) = true := (Hx.fact B8 15 rfl)
  have nf_Write_Sync : PySem.W.notFirst K 267 (.ref 246) = true := (Hx.fact B8 16 rfl)
  have nf_Sync_Sync : PySem.W.notFirst K 267 (.ref 267) = true := (Hx.fact B8 17 rfl)
  have nf_Pass_Sync : PySem.W.notFirst K 267 (.ref 288) = true := (Hx.fact B8 18 rfl)
  have nf_Write_Pass : PySem.W.notFirst K 288 (.ref 246) = true := (Hx.fact B8 19 rfl)
  have nf_Sync_Pass : PySem.W.notFirst K 288 (.ref 267) = true := (Hx.fact B8 20 rfl)
  have nf_Pass_Pass : PySem.W.notFirst K 288 (.ref 288) = true := (Hx.fact B8 21 rfl)
  have spi_Planu_getitemu : PySem.W.fnIn K 395 = true := (Hx.fact B8 22 rfl)
  have spi_Imageu_getitemu : PySem.W.fnIn K 543 = true := (Hx.fact B8 23 rfl)
  have rd_Plan : PySem.W.readsIn K 478 (.type "type") = true := (Hx.fact B8 24 rfl)
  have gat_Plan : PySem.W.specialIn K (.ref 478) "__getattribute__" = some (some (.builtin "type.__getattribute__")) := of_decide_eq_true (Hx.fact B8 25 rfl)
  have seq_Write : PySem.W.findIn K (.ref 246) "__eq__" = some (some (.ref 208)) := of_decide_eq_true (Hx.fact B8 26 rfl)
  obtain ⟨trWrite, swr_Write⟩ := Hx.fiI_ok (Hx.fact B8 27 rfl)
  have srg_Write : PySem.W.specialIn K (.int 1 trWrite) "__get__" = some none := Hx.spI_ok
  have seq_Sync : PySem.W.findIn K (.ref 267) "__eq__" = some (some (.ref 208)) := of_decide_eq_true (Hx.fact B8 28 rfl)
  obtain ⟨trSync, swr_Sync⟩ := Hx.fiI_ok (Hx.fact B8 29 rfl)
  have srg_Sync : PySem.W.specialIn K (.int 0 trSync) "__get__" = some none := Hx.spI_ok
  have seq_Pass : PySem.W.findIn K (.ref 288) "__eq__" = some (some (.ref 208)) := of_decide_eq_true (Hx.fact B8 30 rfl)
  obtain ⟨trPass, swr_Pass⟩ := Hx.fiI_ok (Hx.fact B8 31 rfl)
  have srg_Pass : PySem.W.specialIn K (.int 0 trPass) "__get__" = some none := Hx.spI_ok
  have mA_Write : PySem.W.findIn K (.ref 246) "after" = some (some (.ref 243)) := of_decide_eq_true (Hx.fact B8 32 rfl)
  have mA_Sync : PySem.W.findIn K (.ref 267) "after" = some (some (.ref 201)) := of_decide_eq_true (Hx.fact B8 33 rfl)
  have mA_Pass : PySem.W.findIn K (.ref 288) "after" = some (some (.ref 201)) := of_decide_eq_true (Hx.fact B8 34 rfl)
  have lam__law_plan_right : Vc.lamB K 642 641 639 = true := (Hx.fact B8 35 rfl)
  have lam__law_wide_right : Vc.lamB K 647 646 644 = true := (Hx.fact B8 36 rfl)
  have lam_law : Vc.lamB K 659 658 656 = true := (Hx.fact B8 37 rfl)
  have lne__law_plan_right__law_wide_right : (639 : Addr) ≠ 644 := by decide +kernel
  have lne__law_plan_right_law : (639 : Addr) ≠ 656 := by decide +kernel
  have lne__law_wide_right_law : (644 : Addr) ≠ 656 := by decide +kernel
  have rec__law_plan_right : ((recsOf qv).any fun e => e.name == ("_law_plan_right" : Str)) = true := by kernel_rfl
  have rec__law_wide_right : ((recsOf qv).any fun e => e.name == ("_law_wide_right" : Str)) = true := by kernel_rfl
  have rec_law : ((recsOf qv).any fun e => e.name == ("law" : Str)) = true := by kernel_rfl
  refine ⟨fun p hp => ?_, ?_⟩
  · have hp : p = (641, 639) ∨ p = (646, 644) ∨ p = (658, 656) := by simpa [csN] using hp
    rcases hp with rfl | rfl | rfl
    · exact ⟨_, _, rec__law_plan_right, PySem.W.mg_of X G a__law_plan_right, lam__law_plan_right⟩
    · exact ⟨_, _, rec__law_wide_right, PySem.W.mg_of X G a__law_wide_right, lam__law_wide_right⟩
    · exact ⟨_, _, rec_law, PySem.W.mg_of X G a_law, lam_law⟩
  exact all_mk X G hfa aC_Step aC_Write aC_Sync aC_Pass aC_Plan aC_Image a_is_byte l_is_byte c_is_byte k_is_byte a_check_bytes l_check_bytes c_check_bytes k_check_bytes a_span_of l_span_of c_span_of k_span_of a_is_number l_is_number c_is_number k_is_number a_split_lines l_split_lines c_split_lines k_split_lines a_stands l_stands c_stands k_stands a_check_line l_check_line c_check_line k_check_line a_read_numbers l_read_numbers c_read_numbers k_read_numbers kn_read_numbers_least kn_read_numbers_ascending a_read_parts l_read_parts c_read_parts k_read_parts a_step_of l_step_of c_step_of k_step_of a_Stepu_initu i_Stepu_initu l_Stepu_initu c_Stepu_initu k_Stepu_initu a_Step_after i_Step_after l_Step_after c_Step_after k_Step_after a_Stepu_equ i_Stepu_equ l_Stepu_equ c_Stepu_equ k_Stepu_equ a_Writeu_initu i_Writeu_initu l_Writeu_initu c_Writeu_initu k_Writeu_initu cl_Writeu_initu cf_Writeu_initu fe_Writeu_initu ce_Writeu_initu mrC_Write suC_Write fi_Stepu_initu zsuper znoop ztop a_Write_after i_Write_after l_Write_after c_Write_after k_Write_after a_Syncu_initu i_Syncu_initu l_Syncu_initu c_Syncu_initu k_Syncu_initu cl_Syncu_initu cf_Syncu_initu fe_Syncu_initu ce_Syncu_initu mrC_Sync suC_Sync a_Passu_initu i_Passu_initu l_Passu_initu c_Passu_initu k_Passu_initu cl_Passu_initu cf_Passu_initu fe_Passu_initu ce_Passu_initu mrC_Pass suC_Pass a_Planu_initu i_Planu_initu l_Planu_initu c_Planu_initu k_Planu_initu kl_e_Planu_initu_steps ld_Planu_initu sma_Plan_of smr_Plan_of fi_Plan_of l_Plan_of c_Plan_of k_Plan_of sma_Plan_read smr_Plan_read fi_Plan_read l_Plan_read c_Plan_read k_Plan_read pa_Plan_writes pg_Plan_writes pt_Plan_writes prc_Plan_writes l_Plan_writes c_Plan_writes k_Plan_writes a_Planu_getitemu i_Planu_getitemu l_Planu_getitemu c_Planu_getitemu k_Planu_getitemu a_Planu_equ i_Planu_equ l_Planu_equ c_Planu_equ k_Planu_equ a_Plan_head i_Plan_head l_Plan_head c_Plan_head k_Plan_head a_Plan_tail i_Plan_tail l_Plan_tail c_Plan_tail k_Plan_tail a_Plan_after i_Plan_after l_Plan_after c_Plan_after k_Plan_after a_Imageu_initu i_Imageu_initu l_Imageu_initu c_Imageu_initu k_Imageu_initu a_Imageu_lenu i_Imageu_lenu l_Imageu_lenu c_Imageu_lenu k_Imageu_lenu a_Imageu_iteru i_Imageu_iteru l_Imageu_iteru c_Imageu_iteru k_Imageu_iteru a_Imageu_getitemu i_Imageu_getitemu l_Imageu_getitemu c_Imageu_getitemu k_Imageu_getitemu a__law_pen l__law_pen c__law_pen k__law_pen a__law_draw l__law_draw c__law_draw k__law_draw a__law_step l__law_step c__law_step k__law_step a__law_drawn l__law_drawn c__law_drawn k__law_drawn a__law_due l__law_due c__law_due k__law_due a__law_told l__law_told c__law_told k__law_told a__law_shaped l__law_shaped c__law_shaped k__law_shaped a__law_plan_right l__law_plan_right c__law_plan_right k__law_plan_right a__law_wide_right l__law_wide_right c__law_wide_right k__law_wide_right a__law_own_right l__law_own_right c__law_own_right k__law_own_right a_law l_law c_law k_law pg_Step hd_Step po_Step sa_Step pg_Write hd_Write po_Write sa_Write mk_Write kc_Write no_Write_shown no_Write_address no_Write_given pg_Sync hd_Sync po_Sync sa_Sync mk_Sync kc_Sync no_Sync_shown pg_Pass hd_Pass po_Pass sa_Pass mk_Pass kc_Pass no_Pass_shown no_Pass_stretch pg_Plan hd_Plan po_Plan sa_Plan mk_Plan kc_Plan no_Plan_listed pg_Image hd_Image po_Image sa_Image mk_Image kc_Image no_Image_cells z_len z_abs z_int z_list z_range z_isinstance z_bool z_str z_tuple z_ValueError z_repr z_enumerate z_sum z_any z_all z_max z_min z_iter v_MOST_DIGITS v_MOST_NUMBER v_MOST_ADDRESS v_DIGITS aC_CodeError aC_BadInput aC_Word zgcn zgct aC_BadByte lkC_BadByte bmC_BadByte saC_BadByte exC_BadByte tyC_BadByte kpC_BadByte inC_BadByte tiC_BadByte noC_BadByte_at gaC_BadByte ggC_BadByte hdC_BadByte gcC_BadByte moC_BadByte l_BadByteu_initu c_BadByteu_initu k_BadByteu_initu cl_BadByteu_initu cf_BadByteu_initu fe_BadByteu_initu ce_BadByteu_initu mrC_BadByte suC_BadByte svC_BadByte aC_BadAddress lkC_BadAddress bmC_BadAddress saC_BadAddress exC_BadAddress tyC_BadAddress kpC_BadAddress inC_BadAddress tiC_BadAddress noC_BadAddress_at gaC_BadAddress ggC_BadAddress hdC_BadAddress gcC_BadAddress moC_BadAddress l_BadAddressu_initu c_BadAddressu_initu k_BadAddressu_initu cl_BadAddressu_initu cf_BadAddressu_initu fe_BadAddressu_initu ce_BadAddressu_initu mrC_BadAddress suC_BadAddress svC_BadAddress aC_BadStep lkC_BadStep bmC_BadStep saC_BadStep exC_BadStep tyC_BadStep kpC_BadStep inC_BadStep tiC_BadStep noC_BadStep_step gaC_BadStep ggC_BadStep hdC_BadStep gcC_BadStep moC_BadStep l_BadStepu_initu c_BadStepu_initu k_BadStepu_initu cl_BadStepu_initu cf_BadStepu_initu fe_BadStepu_initu ce_BadStepu_initu mrC_BadStep suC_BadStep svC_BadStep kit_BadAddress_BadAddress kit_BadAddress_BadInput kit_BadAddress_BadByte kit_BadAddress_BadStep kit_Write_Step kit_Sync_Step kit_Pass_Step exm_BadByte_CodeError exm_BadAddress_CodeError exm_BadStep_CodeError icc_Plan icm_Plan kit_Plan_Plan icc_Image icm_Image kit_Image_Image icc_Write icm_Write kit_Write_Write icc_Sync icm_Sync kit_Sync_Sync icc_Pass icm_Pass kit_Pass_Pass nee_Plan kit_list_Image kit_tuple_Image nf_Plan_Plan nf_Write_Write nf_Sync_Write nf_Pass_Write nf_Write_Sync nf_Sync_Sync nf_Pass_Sync nf_Write_Pass nf_Sync_Pass nf_Pass_Pass spi_Planu_getitemu spi_Imageu_getitemu rd_Plan gat_Plan seq_Write swr_Write srg_Write seq_Sync swr_Sync srg_Sync seq_Pass swr_Pass srg_Pass mA_Write mA_Sync mA_Pass lam__law_plan_right lam__law_wide_right lam_law lne__law_plan_right__law_wide_right lne__law_plan_right_law lne__law_wide_right_law

end My
theorem PySem.Challenge.cw_codestitch_k24_bytes_behind_steps_holds : PySem.Challenge.rw_codestitch_k24_bytes_behind_steps.Holds := by
  exact My.top_of (sp := fun K => My.spLaw K My.TbN) My.all_mk2 (fun _ _ a ns _ _ hT hS hl q => ⟨a, ns, rfl, hS, hl, Vc.tabs0 hT (by simp [My.TbN, My.csN]), q⟩)
